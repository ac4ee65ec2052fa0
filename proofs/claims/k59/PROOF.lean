import PyProof.Rows.All
import Wide.All
import OpenK.AllK
import Wide.FinOn
import HandS.ForMost
import HandS.Wide
import HandS.ExcInit
import HandS.ExcCtx
import HandS.TryOnly
import HandS.WordsExc
import HandS.IsInst
import HandS.Walk
import HandS.Zip
import HandS.Rev
import HandS.RevRange
import KE.GoesEnum
import HandS.Words
import HandS.Defaults
import OpenK.KMore
import HandS.TupAny
import HandS.TupMul
import HandS.Style
import HandS.Conv
import HandS.More
import HandS.Deep
import HandS.SortInts
import KE.KMathGC
import HandS.Gcd
import HandS.SetFor
import HandS.Flow
import KE.SortData
import HandS.Star
import KE.DataAny
import HandS.Call
import HandS.CallSlots
import HandS.ExcOwn
import HandS.ExcField
import HandS.ExcIs
import KE.KExcIs
import HandS.Hot
import HandS.Sort
import HandS.Dict
import HandS.NoneIn
import KE.KUnpackStar
import HandS.WideBits
import PyProof.Rows.SetFrom
import PyProof.SetRoads
import KE.DataCmp
import PySem.Challenge.RW_hookmats_k59_whole_closed_powers
set_option Elab.async false
set_option linter.all false
namespace VS
/-! ### strings that do not cross, on a list: neighbours that are mates taken out, again and again -/
inductive NC {α : Type} (f : α → α) : List α → Prop
  | nil : NC f []
  | cons {l r : List α} {a b : α} : f a = b → f b = a → NC f (l ++ r) → NC f (l ++ a :: b :: r)
theorem NC.wrap {α : Type} {f : α → α} {x b : α} {r : List α} (h : NC f r) (h1 : f x = b) (h2 : f b = x) : NC f (b :: (r ++ [x])) := by
  induction h with
  | nil => exact NC.cons (l := []) (r := []) h2 h1 .nil
  | @cons l r a c e1 e2 _ ih =>
    have := NC.cons (l := b :: l) (r := r ++ [x]) e1 e2 (by simpa using ih)
    simpa using this
theorem NC.rot1 {α : Type} {f : α → α} {x : α} {R : List α} (h : NC f (x :: R)) : NC f (R ++ [x]) := by
  generalize e : x :: R = L at h
  induction h generalizing R with
  | nil => cases e
  | @cons l r a c e1 e2 hh ih =>
    cases l with
    | nil =>
      simp only [List.nil_append, List.cons.injEq] at e
      obtain ⟨rfl, rfl⟩ := e
      simpa using hh.wrap e1 e2
    | cons y l =>
      simp only [List.cons_append, List.cons.injEq] at e
      obtain ⟨rfl, rfl⟩ := e
      have := NC.cons (l := l) (r := r ++ [x]) e1 e2 (by simpa using ih (R := l ++ r) rfl)
      simpa using this
theorem NC.rot {α : Type} {f : α → α} : ∀ {l r : List α}, NC f (l ++ r) → NC f (r ++ l)
  | [], r, h => by simpa using h
  | x :: l, r, h => by
    have h1 : NC f (l ++ (r ++ [x])) := by simpa using NC.rot1 (R := l ++ r) (by simpa using h)
    simpa using NC.rot (l := l) (r := r ++ [x]) h1
theorem NC.reverse {α : Type} {f : α → α} {R : List α} (h : NC f R) : NC f R.reverse := by
  induction h with
  | nil => exact .nil
  | @cons l r a b e1 e2 _ ih =>
    have := NC.cons (l := r.reverse) (r := l.reverse) e2 e1 (by simpa using ih)
    simpa using this
theorem NC.map {α β : Type} {f : α → α} {g : β → β} {R : List α} (φ : α → β) (h : NC f R) (hφ : ∀ x ∈ R, g (φ x) = φ (f x)) : NC g (R.map φ) := by
  induction h with
  | nil => exact .nil
  | @cons l r a b e1 e2 _ ih =>
    rw [List.map_append, List.map_cons, List.map_cons]
    refine .cons ?_ ?_ ?_
    · rw [hφ a (by simp), e1]
    · rw [hφ b (by simp), e2]
    · rw [← List.map_append]
      exact ih fun x hx => hφ x (by rcases List.mem_append.mp hx with h | h <;> simp [h])
theorem NC.congr {α : Type} {f g : α → α} {R : List α} (h : NC f R) (hfg : ∀ x ∈ R, g x = f x) : NC g R := by
  have := NC.map (g := g) id h hfg
  simpa using this
/-- the pairs of a list whose neighbours are joined, again and again, round about -/
inductive NCP {α : Type} : List α → List (α × α) → Prop
  | nil : NCP [] []
  | cons {l r : List α} {a b : α} {ps : List (α × α)} : NCP (l ++ r) ps → NCP (l ++ a :: b :: r) ((a, b) :: ps)
  | conr {l r : List α} {a b : α} {ps : List (α × α)} : NCP (l ++ r) ps → NCP (l ++ b :: a :: r) ((a, b) :: ps)
  | rot {l r : List α} {ps : List (α × α)} : NCP (l ++ r) ps → NCP (r ++ l) ps
  | perm {R : List α} {ps qs : List (α × α)} : NCP R ps → ps.Perm qs → NCP R qs
def ends {α : Type} (ps : List (α × α)) : List α := ps.flatMap fun p => [p.1, p.2]
theorem NCP.ends {α : Type} {R : List α} {ps : List (α × α)} (h : NCP R ps) : (ends ps).Perm R := by
  induction h with
  | nil => exact .refl _
  | @cons l r a b ps _ ih =>
    show (a :: b :: VS.ends ps).Perm _
    refine ((ih.cons b).cons a).trans ?_
    exact (List.perm_middle (a := a) (l₁ := l) (l₂ := b :: r)).trans ((List.perm_middle (a := b) (l₁ := l) (l₂ := r)).cons a) |>.symm
  | @conr l r a b ps _ ih =>
    show (a :: b :: VS.ends ps).Perm _
    refine ((ih.cons b).cons a).trans ?_
    refine (List.Perm.swap b a _).trans ?_
    exact (List.perm_middle (a := b) (l₁ := l) (l₂ := a :: r)).trans ((List.perm_middle (a := a) (l₁ := l) (l₂ := r)).cons b) |>.symm
  | rot _ ih => exact ih.trans List.perm_append_comm
  | perm _ hp ih => exact (hp.symm.flatMap_right _).trans ih
theorem NCP.nc {α : Type} {f : α → α} {R : List α} {ps : List (α × α)} (h : NCP R ps) (hf : ∀ p ∈ ps, f p.1 = p.2 ∧ f p.2 = p.1) : NC f R := by
  induction h with
  | nil => exact .nil
  | @cons l r a b ps _ ih => exact .cons (hf (a, b) (by simp)).1 (hf (a, b) (by simp)).2 (ih fun p hp => hf p (by simp [hp]))
  | @conr l r a b ps _ ih => exact .cons (hf (a, b) (by simp)).2 (hf (a, b) (by simp)).1 (ih fun p hp => hf p (by simp [hp]))
  | rot _ ih => exact (ih hf).rot
  | perm _ hp ih => exact ih fun p h => hf p (hp.mem_iff.mp h)
theorem NCP.map {α β : Type} {R : List α} {ps : List (α × α)} (φ : α → β) (h : NCP R ps) : NCP (R.map φ) (ps.map fun p => (φ p.1, φ p.2)) := by
  induction h with
  | nil => exact .nil
  | @cons l r a b ps _ ih => rw [List.map_append] at ih ⊢; exact .cons ih
  | @conr l r a b ps _ ih => rw [List.map_append] at ih ⊢; exact .conr ih
  | rot _ ih => rw [List.map_append] at ih ⊢; exact .rot ih
  | perm _ hp ih => exact .perm ih (hp.map _)
theorem NCP.reverse {α : Type} {R : List α} {ps : List (α × α)} (h : NCP R ps) : NCP R.reverse ps := by
  induction h with
  | nil => exact .nil
  | @cons l r a b ps _ ih =>
    have := NCP.conr (l := r.reverse) (r := l.reverse) (a := a) (b := b) (by simpa using ih)
    simpa using this
  | @conr l r a b ps _ ih =>
    have := NCP.cons (l := r.reverse) (r := l.reverse) (a := a) (b := b) (by simpa using ih)
    simpa using this
  | rot _ ih => rw [List.reverse_append] at ih ⊢; exact .rot ih
  | perm _ hp ih => exact .perm ih hp
/-- all within one another -/
theorem NCP.wrap {α : Type} {R : List α} {ps : List (α × α)} {a b : α} (h : NCP R ps) : NCP (a :: R ++ [b]) ((a, b) :: ps) := by
  have h1 : NCP (R ++ b :: a :: []) ((a, b) :: ps) := NCP.conr (l := R) (r := []) (by simpa using h)
  have h2 := NCP.rot (l := R ++ [b]) (r := [a]) (by simpa using h1)
  simpa using h2
/-! the stack (its top is the head) -/
def push {α : Type} [DecidableEq α] (f : α → α) (s : List α) (x : α) : List α := match s with
  | [] => [x]
  | t :: s => if t = f x then s else x :: t :: s
def red {α : Type} [DecidableEq α] (f : α → α) (s : List α) (R : List α) : List α := R.foldl (push f) s
theorem red_cons {α : Type} [DecidableEq α] (f : α → α) (s : List α) (x : α) (r : List α) : red f s (x :: r) = red f (push f s x) r := rfl
theorem red_append {α : Type} [DecidableEq α] (f : α → α) (s l r : List α) : red f s (l ++ r) = red f (red f s l) r := List.foldl_append
theorem push_cons {α : Type} [DecidableEq α] (f : α → α) (t : α) (s : List α) (x : α) : push f (t :: s) x = if t = f x then s else x :: t :: s := rfl
theorem push_mem {α : Type} [DecidableEq α] {f : α → α} {s : List α} {x y : α} (h : y ∈ push f s x) : y ∈ s ∨ y = x := by
  cases s with
  | nil => exact .inr (by simpa [push] using h)
  | cons t s =>
    rw [push_cons] at h
    split at h
    · exact .inl (by simp [h])
    · rcases List.mem_cons.mp h with rfl | h
      · exact .inr rfl
      · exact .inl h
theorem red_mem {α : Type} [DecidableEq α] {f : α → α} : ∀ {s l : List α} {y : α}, y ∈ red f s l → y ∈ s ∨ y ∈ l
  | s, [], y, h => .inl h
  | s, x :: l, y, h => by
    rw [red_cons] at h
    rcases red_mem h with h | h
    · rcases push_mem h with h | h
      · exact .inl h
      · exact .inr (by simp [h])
    · exact .inr (by simp [h])
theorem NC.red {α : Type} [DecidableEq α] {f : α → α} {R : List α} (h : NC f R) (hn : R.Nodup) : VS.red f [] R = [] := by
  induction h with
  | nil => rfl
  | @cons l r a b e1 e2 _ ih =>
    have hp : (l ++ a :: b :: r).Perm (a :: b :: (l ++ r)) := (List.perm_middle (a := a) (l₁ := l) (l₂ := b :: r)).trans ((List.perm_middle (a := b) (l₁ := l) (l₂ := r)).cons a)
    have hn2 := hp.nodup_iff.mp hn
    simp only [List.nodup_cons, List.mem_cons, not_or] at hn2
    obtain ⟨⟨hab, ha⟩, hb, hlr⟩ := hn2
    have hbl : b ∉ l := fun h => hb (by simp [h])
    rw [red_append, red_cons, red_cons]
    have h1 : push f (VS.red f [] l) a = a :: VS.red f [] l := by
      cases hs : VS.red f [] l with
      | nil => rfl
      | cons t s =>
        have ht : t ∈ l := by
          have : t ∈ VS.red f [] l := by rw [hs]; simp
          rcases red_mem this with h | h
          · cases h
          · exact h
        rw [push_cons, e1, if_neg]
        intro e
        subst e
        exact hbl ht
    have h2 : push f (a :: VS.red f [] l) b = VS.red f [] l := by
      rw [push_cons, if_pos e2.symm]
    rw [h1, h2, ← red_append]
    exact ih hlr
end VS
set_option Elab.async false
set_option linter.all false
namespace VS
/-! ### mats as rows of mates, and as strings that join spots -/
def ring (u d : Nat) : List (Nat × Nat) := (List.range u).map (fun i => (0, i)) ++ (List.range d).reverse.map (fun i => (1, i))
def idx (u : Nat) (s : Nat × Nat) : Nat := s.1 * u + s.2
def roundL (n m : Nat) : List Nat := List.range n ++ (List.range m).reverse.map (n + ·)
theorem ring_idx (u d : Nat) : (ring u d).map (idx u) = roundL u d := by
  unfold ring roundL
  rw [List.map_append, List.map_map, List.map_map]
  congr 1
  · conv => rhs; rw [← List.map_id (List.range u)]
    apply List.map_congr_left
    intro i _
    simp [idx]
  · apply List.map_congr_left
    intro i _
    simp [idx]
theorem roundL_perm (n m : Nat) : (roundL n m).Perm (List.range (n + m)) := by
  unfold roundL
  rw [List.range_add]
  exact List.Perm.append_left _ ((List.reverse_perm _).map _)
theorem roundL_nodup (n m : Nat) : (roundL n m).Nodup := (roundL_perm n m).nodup_iff.mpr List.nodup_range
theorem mem_roundL {n m i : Nat} : i ∈ roundL n m ↔ i < n + m := by rw [(roundL_perm n m).mem_iff, List.mem_range]
theorem ring_len (u d : Nat) : (ring u d).length = u + d := by simp [ring]
theorem nodup_of_map {α β : Type} {f : α → β} {xs : List α} (h : (xs.map f).Nodup) : xs.Nodup := by
  induction xs with
  | nil => simp
  | cons x xs ih =>
    simp only [List.map_cons, List.nodup_cons] at h ⊢
    exact ⟨fun hx => h.1 (List.mem_map_of_mem hx), ih h.2⟩
theorem map_inj {α β : Type} {f : α → β} {xs : List α} (h : (xs.map f).Nodup) {a b : α} (ha : a ∈ xs) (hb : b ∈ xs) (e : f a = f b) : a = b := by
  induction xs with
  | nil => cases ha
  | cons x xs ih =>
    simp only [List.map_cons, List.nodup_cons] at h
    rcases List.mem_cons.mp ha with h1 | h1 <;> rcases List.mem_cons.mp hb with h2 | h2
    · rw [h1, h2]
    · subst h1; exact absurd (e ▸ List.mem_map_of_mem h2) h.1
    · subst h2; exact absurd (e ▸ List.mem_map_of_mem h1) h.1
    · exact ih h.2 h1 h2
theorem ring_map_nodup (u d : Nat) : ((ring u d).map (idx u)).Nodup := by rw [ring_idx]; exact roundL_nodup u d
theorem ring_nodup (u d : Nat) : (ring u d).Nodup := nodup_of_map (ring_map_nodup u d)
theorem idx_lt {u d : Nat} {s : Nat × Nat} (h : s ∈ ring u d) : idx u s < u + d := mem_roundL.mp (by rw [← ring_idx]; exact List.mem_map_of_mem h)
theorem idx_of {u d i : Nat} (h : i < u + d) : ∃ s ∈ ring u d, idx u s = i := by
  have : i ∈ (ring u d).map (idx u) := by rw [ring_idx]; exact mem_roundL.mpr h
  obtain ⟨s, h1, h2⟩ := List.mem_map.mp this
  exact ⟨s, h1, h2⟩
theorem mem_ends {α : Type} {ps : List (α × α)} {a : α} : a ∈ ends ps ↔ ∃ p ∈ ps, a = p.1 ∨ a = p.2 := by
  unfold ends
  simp [List.mem_flatMap]
theorem ends_ne {α : Type} : ∀ {ps : List (α × α)}, (ends ps).Nodup → ∀ p ∈ ps, p.1 ≠ p.2
  | q :: ps, h, p, hp => by
    have h : (q.1 :: q.2 :: ends ps).Nodup := h
    simp only [List.nodup_cons, List.mem_cons, not_or] at h
    rcases List.mem_cons.mp hp with rfl | hp
    · exact h.1.1
    · exact ends_ne h.2.2 p hp
structure Row (u d : Nat) (ps : List ((Nat × Nat) × (Nat × Nat))) (row : List Nat) : Prop where
  len : row.length = u + d
  at_ : ∀ p ∈ ps, row[idx u p.1]? = some (idx u p.2) ∧ row[idx u p.2]? = some (idx u p.1)
structure IsMat (n m : Nat) (row : List Nat) : Prop where
  pos : 0 < n + m
  len : row.length = n + m
  lt : ∀ i j, row[i]? = some j → j < n + m ∧ j ≠ i ∧ row[j]? = some i
  nc : NC (fun i => row.getD i 0) (roundL n m)
theorem Row.get {u d : Nat} {ps : List ((Nat × Nat) × (Nat × Nat))} {row : List Nat} (h : Row u d ps row) (hp : (ends ps).Perm (ring u d)) {i : Nat} (hi : i < u + d) :
    ∃ a b : Nat × Nat, ((a, b) ∈ ps ∨ (b, a) ∈ ps) ∧ idx u a = i ∧ row[i]? = some (idx u b) ∧ row[idx u b]? = some i := by
  obtain ⟨s, hs, rfl⟩ := idx_of hi
  obtain ⟨p, hp1, e⟩ := mem_ends.mp (hp.mem_iff.mpr hs)
  obtain ⟨h1, h2⟩ := h.at_ p hp1
  rcases e with rfl | rfl
  · exact ⟨p.1, p.2, .inl hp1, rfl, h1, h2⟩
  · exact ⟨p.2, p.1, .inr hp1, rfl, h2, h1⟩
theorem Row.uniq {u d : Nat} {ps : List ((Nat × Nat) × (Nat × Nat))} {r1 r2 : List Nat} (h1 : Row u d ps r1) (h2 : Row u d ps r2) (hp : (ends ps).Perm (ring u d)) : r1 = r2 := by
  apply List.ext_getElem?
  intro i
  by_cases hi : i < u + d
  · obtain ⟨a, b, hm, hi2, e, _⟩ := h1.get hp hi
    rcases hm with hm | hm
    · have := (h2.at_ _ hm).1; rw [hi2] at this; rw [e, this]
    · have := (h2.at_ _ hm).2; rw [hi2] at this; rw [e, this]
  · rw [List.getElem?_eq_none (by have := h1.len; omega), List.getElem?_eq_none (by have := h2.len; omega)]
theorem Row.mat {u d : Nat} {ps : List ((Nat × Nat) × (Nat × Nat))} {row : List Nat} (h : Row u d ps row) (hc : NCP (ring u d) ps) (h0 : 0 < u + d) : IsMat u d row := by
  have hp := hc.ends
  have hn := hp.nodup_iff.mpr (ring_nodup u d)
  refine ⟨h0, h.len, fun i j e => ?_, ?_⟩
  · have hi : i < u + d := by have := (List.getElem?_eq_some_iff.mp e).1; have := h.len; omega
    obtain ⟨a, b, hm, rfl, e1, e2⟩ := h.get hp hi
    rw [e] at e1
    cases e1
    have ha : a ∈ ring u d := hp.mem_iff.mp (mem_ends.mpr (by rcases hm with h | h; exact ⟨_, h, .inl rfl⟩; exact ⟨_, h, .inr rfl⟩))
    have hb : b ∈ ring u d := hp.mem_iff.mp (mem_ends.mpr (by rcases hm with h | h; exact ⟨_, h, .inr rfl⟩; exact ⟨_, h, .inl rfl⟩))
    refine ⟨idx_lt hb, fun e => ?_, e2⟩
    have := map_inj (ring_map_nodup u d) hb ha e
    subst this
    rcases hm with h | h <;> exact ends_ne hn _ h rfl
  · rw [← ring_idx]
    refine NCP.nc (hc.map (idx u)) fun q hq => ?_
    obtain ⟨p, hp1, rfl⟩ := List.mem_map.mp hq
    obtain ⟨h1, h2⟩ := h.at_ p hp1
    simp only [List.getD_eq_getElem?_getD, h1, h2]
    exact ⟨rfl, rfl⟩
/-- the strings, written into a row -/
def madeL (u : Nat) (ps : List ((Nat × Nat) × (Nat × Nat))) (row : List Nat) : List Nat := ps.foldl (fun row p => (row.set (idx u p.1) (idx u p.2)).set (idx u p.2) (idx u p.1)) row
theorem madeL_spec {u : Nat} : ∀ {ps : List ((Nat × Nat) × (Nat × Nat))} {row : List Nat}, ((ends ps).map (idx u)).Nodup → (∀ i ∈ (ends ps).map (idx u), i < row.length) →
    (madeL u ps row).length = row.length ∧ (∀ p ∈ ps, (madeL u ps row)[idx u p.1]? = some (idx u p.2) ∧ (madeL u ps row)[idx u p.2]? = some (idx u p.1)) ∧ ∀ i, i ∉ (ends ps).map (idx u) → (madeL u ps row)[i]? = row[i]?
  | [], row, _, _ => ⟨rfl, (by simp), fun i _ => rfl⟩
  | q :: ps, row, hn, hl => by
    have hn' : (idx u q.1 :: idx u q.2 :: (ends ps).map (idx u)).Nodup := hn
    have hl' : ∀ i ∈ (idx u q.1 :: idx u q.2 :: (ends ps).map (idx u)), i < row.length := hl
    simp only [List.nodup_cons, List.mem_cons, not_or] at hn'
    obtain ⟨⟨h1, h2⟩, h3, h4⟩ := hn'
    have l1 := hl' (idx u q.1) (by simp)
    have l2 := hl' (idx u q.2) (by simp)
    obtain ⟨e1, e2, e3⟩ := madeL_spec (u := u) (ps := ps) (row := (row.set (idx u q.1) (idx u q.2)).set (idx u q.2) (idx u q.1)) h4 (by
      intro i hi
      rw [List.length_set, List.length_set]
      exact hl' i (by simp [hi]))
    refine ⟨by simpa [madeL] using e1, fun p hp => ?_, fun i hi => ?_⟩
    · rcases List.mem_cons.mp hp with rfl | hp
      · refine ⟨?_, ?_⟩
        · show (madeL u ps _)[_]? = _
          rw [e3 _ h2, List.getElem?_set_ne (by omega), List.getElem?_set_self (by omega)]
        · show (madeL u ps _)[_]? = _
          rw [e3 _ h3, List.getElem?_set_self (by rw [List.length_set]; omega)]
      · exact e2 p hp
    · have hi' : i ∉ (idx u q.1 :: idx u q.2 :: (ends ps).map (idx u)) := hi
      simp only [List.mem_cons, not_or] at hi'
      show (madeL u ps _)[_]? = _
      rw [e3 _ hi'.2.2, List.getElem?_set_ne (by omega), List.getElem?_set_ne (by omega)]
theorem madeL_row {u d : Nat} {ps : List ((Nat × Nat) × (Nat × Nat))} (hp : (ends ps).Perm (ring u d)) : Row u d ps (madeL u ps (List.replicate (u + d) 0)) := by
  have hm := hp.map (idx u)
  obtain ⟨e1, e2, _⟩ := madeL_spec (u := u) (ps := ps) (row := List.replicate (u + d) 0) (hm.nodup_iff.mpr (ring_map_nodup u d)) (by
    intro i hi
    rw [List.length_replicate]
    have := hm.mem_iff.mp hi
    rw [ring_idx] at this
    exact mem_roundL.mp this)
  exact ⟨by rw [e1, List.length_replicate], e2⟩
def flipS (s : Nat × Nat) : Nat × Nat := (1 - s.1, s.2)
def sideS (u d : Nat) (s : Nat × Nat) : Nat × Nat := (s.1, (if s.1 = 0 then u else d) - 1 - s.2)
theorem range_rev (n : Nat) : (List.range n).map (fun i => n - 1 - i) = (List.range n).reverse := by
  apply List.ext_getElem
  · simp
  · intro i h1 h2
    simp at h1
    simp
/-! the strings of a mat by draws -/
theorem nested {α : Type} (z : α) : ∀ (k : Nat) (R : List α), R.length = 2 * k → NCP R ((List.range k).map fun i => (R.getD i z, R.getD (R.length - 1 - i) z))
  | 0, R, h => by
    have : R = [] := List.eq_nil_of_length_eq_zero (by omega)
    subst this
    exact .nil
  | k + 1, R, h => by
    match R, h with
    | a :: R1, h =>
      have hne : R1 ≠ [] := by intro e; subst e; simp at h; omega
      obtain ⟨m, b, rfl⟩ : ∃ m b, R1 = m ++ [b] := ⟨R1.dropLast, R1.getLast hne, (List.dropLast_concat_getLast hne).symm⟩
      have hm : m.length = 2 * k := by simp at h; omega
      have ih := (nested z k m hm).wrap (a := a) (b := b)
      rw [List.range_succ_eq_map, List.map_cons, List.map_map]
      have e1 : (a :: (m ++ [b])).length - 1 - 0 = m.length + 1 := by simp
      rw [e1]
      have e2 : (a :: (m ++ [b])).getD (m.length + 1) z = b := by simp
      rw [e2]
      have e3 : (List.range k).map ((fun i => ((a :: (m ++ [b])).getD i z, (a :: (m ++ [b])).getD ((a :: (m ++ [b])).length - 1 - i) z)) ∘ Nat.succ) = (List.range k).map fun i => (m.getD i z, m.getD (m.length - 1 - i) z) := by
        apply List.map_congr_left
        intro i hi
        have hi := List.mem_range.mp hi
        have e4 : (a :: (m ++ [b])).length - 1 - (i + 1) = (m.length - 1 - i) + 1 := by simp; omega
        simp only [Function.comp_apply, Nat.succ_eq_add_one]
        rw [e4]
        simp only [List.getD_cons_succ]
        rw [List.getD_eq_getElem?_getD, List.getD_eq_getElem?_getD, List.getElem?_append_left (by omega), List.getElem?_append_left (by omega), ← List.getD_eq_getElem?_getD, ← List.getD_eq_getElem?_getD]
      rw [e3]
      exact ih
end VS
set_option Elab.async false
set_option linter.all false
namespace VS
/-! ### round about: places on the ring -/
def ringAt (u d p : Nat) : Nat × Nat := if p < u then (0, p) else (1, u + d - 1 - p)
def posOf (u d : Nat) (s : Nat × Nat) : Nat := if s.1 = 0 then s.2 else u + d - 1 - s.2
theorem ring_get {u d p : Nat} (h : p < u + d) : (ring u d)[p]? = some (ringAt u d p) := by
  unfold ring ringAt
  by_cases hp : p < u
  · rw [List.getElem?_append_left (by simpa using hp), if_pos hp]
    simp [hp]
  · rw [List.getElem?_append_right (by simp; omega), if_neg hp]
    simp only [List.length_map, List.length_range, List.getElem?_map]
    rw [List.getElem?_reverse (by simp; omega)]
    rw [List.getElem?_range (by simp; omega)]
    simp
    omega
/-- one back, round about -/
def prevP (n p : Nat) : Nat := if p = 0 then n - 1 else p - 1
def prevS (u d : Nat) (s : Nat × Nat) : Nat × Nat := ringAt u d (prevP (u + d) (posOf u d s))
/-- k back -/
def backP (n k p : Nat) : Nat := if k ≤ p then p - k else p + n - k
def backS (u d k : Nat) (s : Nat × Nat) : Nat × Nat := ringAt u d (backP (u + d) k (posOf u d s))
end VS
set_option Elab.async false
set_option linter.all false
namespace VS
/-! ### strings by their places round about -/
def roundAt (n N p : Nat) : Nat := if p < n then p else n + (N - 1 - p)
theorem roundAt_lt {n N p : Nat} (hn : n ≤ N) (h : p < N) : roundAt n N p < N := by unfold roundAt; split <;> omega
theorem roundAt_inv {n N p : Nat} (hn : n ≤ N) (h : p < N) : roundAt n N (roundAt n N p) = p := by unfold roundAt; (repeat' split) <;> omega
theorem roundAt_inj {n N p q : Nat} (hn : n ≤ N) (h : p < N) (h2 : q < N) (e : roundAt n N p = roundAt n N q) : p = q := by
  rw [← roundAt_inv hn h, e, roundAt_inv hn h2]
theorem idx_ringAt {n m p : Nat} (h : p < n + m) : idx n (ringAt n m p) = roundAt n (n + m) p := by
  unfold ringAt roundAt
  split
  · simp [idx]
  · simp [idx]
theorem ring_range (n m : Nat) : ring n m = (List.range (n + m)).map (ringAt n m) := by
  apply List.ext_getElem?
  intro p
  by_cases hp : p < n + m
  · rw [ring_get hp, List.getElem?_map, List.getElem?_range hp]; rfl
  · rw [List.getElem?_eq_none (by rw [ring_len]; omega), List.getElem?_eq_none (by simp; omega)]
theorem roundL_range (n m : Nat) : roundL n m = (List.range (n + m)).map (roundAt n (n + m)) := by
  rw [← ring_idx, ring_range, List.map_map]
  refine List.map_congr_left fun p hp => ?_
  exact idx_ringAt (List.mem_range.mp hp)
theorem roundL_at {n m p : Nat} (h : p < n + m) : (roundL n m)[p]? = some (roundAt n (n + m) p) := by
  rw [roundL_range, List.getElem?_map, List.getElem?_range h]; rfl
abbrev Prs := List (Nat × Nat)
def spotP (n m : Nat) (qs : Prs) : List ((Nat × Nat) × (Nat × Nat)) := qs.map fun q => (ringAt n m q.1, ringAt n m q.2)
theorem NCP.spot {n m : Nat} {qs : Prs} (h : NCP (List.range (n + m)) qs) : NCP (ring n m) (spotP n m qs) := by
  rw [ring_range]; exact h.map (ringAt n m)
theorem pr_lt {N : Nat} {qs : Prs} (h : (ends qs).Perm (List.range N)) {q : Nat × Nat} (hq : q ∈ qs) : q.1 < N ∧ q.2 < N :=
  ⟨List.mem_range.mp (h.mem_iff.mp (mem_ends.mpr ⟨q, hq, .inl rfl⟩)), List.mem_range.mp (h.mem_iff.mp (mem_ends.mpr ⟨q, hq, .inr rfl⟩))⟩
/-- a row by places -/
theorem spot_row {n m : Nat} {qs : Prs} {row : List Nat} (h : (ends qs).Perm (List.range (n + m))) (hl : row.length = n + m)
    (ha : ∀ q ∈ qs, row[roundAt n (n + m) q.1]? = some (roundAt n (n + m) q.2) ∧ row[roundAt n (n + m) q.2]? = some (roundAt n (n + m) q.1)) : Row n m (spotP n m qs) row := by
  refine ⟨hl, fun p hp => ?_⟩
  obtain ⟨q, hq, rfl⟩ := List.mem_map.mp hp
  obtain ⟨l1, l2⟩ := pr_lt h hq
  simp only
  rw [idx_ringAt l1, idx_ringAt l2]
  exact ha q hq
/-- the mates of the places -/
structure Pls (N : Nat) (qs : Prs) (pl : List Nat) : Prop where
  len : pl.length = N
  at_ : ∀ q ∈ qs, pl[q.1]? = some q.2 ∧ pl[q.2]? = some q.1
theorem Pls.get {N : Nat} {qs : Prs} {pl : List Nat} (h : Pls N qs pl) (hp : (ends qs).Perm (List.range N)) {i : Nat} (hi : i < N) :
    ∃ j, pl[i]? = some j ∧ j < N ∧ ((i, j) ∈ qs ∨ (j, i) ∈ qs) := by
  obtain ⟨q, hq, e⟩ := mem_ends.mp (hp.mem_iff.mpr (List.mem_range.mpr hi))
  obtain ⟨l1, l2⟩ := pr_lt hp hq
  obtain ⟨h1, h2⟩ := h.at_ q hq
  rcases e with rfl | rfl
  · exact ⟨q.2, h1, l2, .inl hq⟩
  · exact ⟨q.1, h2, l1, .inr hq⟩
/-- a row of mates in the places' order -/
theorem Pls.row {n m : Nat} {qs : Prs} {pl row : List Nat} (h : Pls (n + m) qs pl) (hp : (ends qs).Perm (List.range (n + m))) (hl : row.length = n + m)
    (hr : ∀ p j : Nat, pl[p]? = some j → row[roundAt n (n + m) p]? = some (roundAt n (n + m) j)) : Row n m (spotP n m qs) row :=
  spot_row hp hl fun q hq => ⟨hr _ _ (h.at_ q hq).1, hr _ _ (h.at_ q hq).2⟩
/-- the places of bent -/
def benL (n m k : Nat) : List Nat := List.range n ++ ((List.range (m - k)).map fun i => n + k + i) ++ ((List.range k).map fun i => n + m - 1 - (m - k + i))
/-! ### round about each peg opens a string or ends the one opened last -/
structure Open (N i : Nat) (S : List Nat) (qs : Prs) : Prop where
  few : S.length ≤ N - i
  even : 2 ∣ N - i - S.length
  perm : (S ++ ends qs).Perm (List.range i)
  nc : ∀ (rest : List Nat) (ps : Prs), NCP (S ++ rest) ps → NCP (List.range i ++ rest) (qs ++ ps)
theorem Open.start {N : Nat} (h : 2 ∣ N) : Open N 0 [] [] := ⟨by simp, by simpa using h, by simp [ends], fun rest ps h => by simpa using h⟩
theorem Open.push {N i : Nat} {S : List Nat} {qs : Prs} (h : Open N i S qs) (hi : i < N) (hs : S = [] ∨ S.length < N - i) : Open N (i + 1) (S ++ [i]) qs := by
  have f := h.few
  have e := h.even
  have hl : S.length + 2 ≤ N - i := by
    rcases hs with rfl | hs
    · simp at e; simp; omega
    · omega
  refine ⟨by simp; omega, by simp; omega, ?_, fun rest ps hn => ?_⟩
  · rw [List.range_succ]
    refine List.Perm.trans ?_ (h.perm.append_right [i])
    rw [List.append_assoc, List.append_assoc]
    exact List.Perm.append_left _ List.perm_append_comm
  · rw [List.range_succ, List.append_assoc]
    exact h.nc _ _ (by simpa using hn)
theorem Open.pop {N i t : Nat} {S : List Nat} {qs : Prs} (h : Open N i (S ++ [t]) qs) (hi : i < N) : Open N (i + 1) S (qs ++ [(t, i)]) := by
  have f := h.few
  have e := h.even
  simp at f e
  refine ⟨by omega, by omega, ?_, fun rest ps hn => ?_⟩
  · rw [List.range_succ]
    refine List.Perm.trans ?_ (h.perm.append_right [i])
    have : ends (qs ++ [(t, i)]) = ends qs ++ [t, i] := by simp [ends]
    rw [this, List.append_assoc, List.append_assoc]
    refine List.Perm.append_left _ ?_
    have : ends qs ++ [t, i] = (ends qs ++ [t]) ++ [i] := by simp
    rw [this, ← List.append_assoc]
    exact List.perm_append_comm.append_right _
  · have := h.nc (i :: rest) ((t, i) :: ps) (by
      have := NCP.cons (l := S) (r := rest) (a := t) (b := i) hn
      simpa using this)
    rw [List.range_succ]
    simpa using this
theorem Open.end_ {N : Nat} {S : List Nat} {qs : Prs} (h : Open N N S qs) : S = [] ∧ NCP (List.range N) qs := by
  have f := h.few
  have hS : S = [] := List.eq_nil_of_length_eq_zero (by omega)
  subst hS
  refine ⟨rfl, ?_⟩
  have := h.nc [] [] (by simpa using NCP.nil)
  simpa using this
theorem Open.lt {N i : Nat} {S : List Nat} {qs : Prs} (h : Open N i S qs) {x : Nat} (hx : x ∈ S) : x < i := List.mem_range.mp (h.perm.mem_iff.mp (by simp [hx]))
theorem Open.ltE {N i : Nat} {S : List Nat} {qs : Prs} (h : Open N i S qs) {x : Nat} (hx : x ∈ ends qs) : x < i := List.mem_range.mp (h.perm.mem_iff.mp (by simp [hx]))
theorem Open.dis {N i : Nat} {S : List Nat} {qs : Prs} (h : Open N i S qs) {x : Nat} (hx : x ∈ S) : x ∉ ends qs := by
  have hn := h.perm.nodup_iff.mpr List.nodup_range
  rw [List.nodup_append] at hn
  intro hm
  exact hn.2.2 x hx x hm rfl
end VS
set_option Elab.async false
set_option linter.all false
namespace VS
/-! ### pairings of places, and hooks put behind them -/
def Pr (N : Nat) (f : Nat → Nat) : Prop := ∀ p, p < N → f p < N ∧ f p ≠ p ∧ f (f p) = p
def hkF (a b : Nat) (f : Nat → Nat) (p : Nat) : Nat :=
  if p = a then b else if p = b then a else if f p = a then f b else if f p = b then f a else f p
def hkR (a b : Nat) (f : Nat → Nat) : Nat := if f a = b then 1 else 0
/-! ### rows of mates -/
def rowF (row : List Nat) (p : Nat) : Nat := row.getD p 0
def PrR (n : Nat) (row : List Nat) : Prop := row.length = 2 * n ∧ Pr (2 * n) (rowF row)
def hkL (n i : Nat) (row : List Nat) : List Nat :=
  if rowF row (n + i) = n + i + 1 then row
  else (((row.set (rowF row (n + i)) (rowF row (n + i + 1))).set (rowF row (n + i + 1)) (rowF row (n + i))).set (n + i) (n + i + 1)).set (n + i + 1) (n + i)
theorem row_ext {N : Nat} {a b : List Nat} (ha : a.length = N) (hb : b.length = N) (h : ∀ p, p < N → rowF a p = rowF b p) : a = b := by
  refine List.ext_getElem (by omega) fun p h1 h2 => ?_
  have := h p (by omega)
  unfold rowF at this
  simpa [List.getD_eq_getElem?_getD, List.getElem?_eq_getElem h1, List.getElem?_eq_getElem h2] using this
def hkN (n i : Nat) (row : List Nat) : Nat := hkR (n + i) (n + i + 1) (rowF row)
/-! ### the values of words -/
def stepV (n : Nat) (s : Nat × List Nat) (i : Nat) : Nat × List Nat := (s.1 + hkN n i s.2, hkL n i s.2)
def strR (n : Nat) : List Nat := (List.range n).map (n + ·) ++ List.range n
def valF (n : Nat) (s : Nat × List Nat) (w : List Nat) : Nat × List Nat := w.foldl (stepV n) s
def valW (n : Nat) (w : List Nat) : Nat × List Nat := valF n (0, strR n) w
theorem strR_pr (n : Nat) : PrR n (strR n) := by
  refine ⟨by simp [strR]; omega, fun p hp => ?_⟩
  have e : ∀ q, q < 2 * n → rowF (strR n) q = if q < n then n + q else q - n := fun q hq => by
    unfold rowF strR
    rw [List.getD_eq_getElem?_getD]
    by_cases h : q < n
    · rw [List.getElem?_append_left (by simpa using h)]
      simp [h]
    · rw [List.getElem?_append_right (by simp; omega)]
      simp only [List.length_map, List.length_range, if_neg h]
      rw [List.getElem?_range (by omega)]
      rfl
  rw [e p hp]
  split
  · rename_i h
    refine ⟨by omega, by omega, ?_⟩
    rw [e (n + p) (by omega), if_neg (by omega)]; omega
  · rename_i h
    refine ⟨by omega, by omega, ?_⟩
    rw [e (p - n) (by omega), if_pos (by omega)]; omega
end VS
set_option Elab.async false
set_option linter.all false
namespace VS
/-! ### walking through two mats -/
def wk (A H : Nat → Nat) (n m : Nat) : Nat → Bool → Nat → List Bool → Option (Nat × List Bool)
  | 0, _, _, _ => none
  | f + 1, true, a, ps => if a < n then some (a, ps) else wk A H n m f false (H (a - n)) (ps.set (a - n) true)
  | f + 1, false, a, ps => if m ≤ a then some (n + a - m, ps) else wk A H n m f true (A (n + a)) (ps.set a true)
theorem wk_t {A H : Nat → Nat} {n m f a : Nat} {ps : List Bool} : wk A H n m (f + 1) true a ps = if a < n then some (a, ps) else wk A H n m f false (H (a - n)) (ps.set (a - n) true) := rfl
theorem wk_f {A H : Nat → Nat} {n m f a : Nat} {ps : List Bool} : wk A H n m (f + 1) false a ps = if m ≤ a then some (n + a - m, ps) else wk A H n m f true (A (n + a)) (ps.set a true) := rfl
def hookF (n i q : Nat) : Nat := if q = i then i + 1 else if q = i + 1 then i else if q = n + i then n + i + 1 else if q = n + i + 1 then n + i else if q < n then n + q else q - n
def bt (ps : List Bool) (q : Nat) : Bool := ps.getD q false
theorem bt_set {ps : List Bool} {j q : Nat} (hj : j < ps.length) : bt (ps.set j true) q = if q = j then true else bt ps q := by
  unfold bt
  simp only [List.getD_eq_getElem?_getD, List.getElem?_set]
  by_cases h : j = q
  · subst h; simp [hj]
  · have h' : ¬ q = j := fun z => h z.symm
    simp [h, h']
/-- the pegs between that a walk may pass -/
def Tq (A : Nat → Nat) (n i q : Nat) : Prop := (q ≠ i ∧ q ≠ i + 1) ∨ A (n + i) ≠ n + i + 1
structure Wd (A : Nat → Nat) (n i : Nat) (ps ps' : List Bool) : Prop where
  len : ps'.length = n
  up : ∀ q, bt ps q = true → bt ps' q = true
  dn : ∀ q, bt ps' q = true → bt ps q = true ∨ Tq A n i q
theorem Wd.refl {A : Nat → Nat} {n i : Nat} {ps : List Bool} (h : ps.length = n) : Wd A n i ps ps := ⟨h, fun _ h => h, fun _ h => .inl h⟩
theorem Wd.set {A : Nat → Nat} {n i j : Nat} {ps ps' : List Bool} (h : Wd A n i ps ps') (hj : j < n) (ht : Tq A n i j) : Wd A n i ps (ps'.set j true) := by
  refine ⟨by rw [List.length_set]; exact h.len, fun q hq => ?_, fun q hq => ?_⟩
  · rw [bt_set (by rw [h.len]; exact hj)]
    split
    · rfl
    · exact h.up q hq
  · rw [bt_set (by rw [h.len]; exact hj)] at hq
    split at hq
    · rename_i e; subst e; exact .inr ht
    · exact h.dn q hq
/-- where a walk begins -/
def wkS (A H : Nat → Nat) (n m p : Nat) : Bool × Nat := if p < n then (true, A p) else (false, H (m + p - n))
/-- the row of a hook -/
def hookR (n i : Nat) : List Nat := ((((strR n).set i (i + 1)).set (i + 1) i).set (n + i) (n + i + 1)).set (n + i + 1) (n + i)
theorem strR_len (n : Nat) : (strR n).length = 2 * n := (strR_pr n).1
theorem strR_get {n q : Nat} (hq : q < 2 * n) : rowF (strR n) q = if q < n then n + q else q - n := by
  unfold rowF strR
  rw [List.getD_eq_getElem?_getD]
  by_cases h : q < n
  · rw [List.getElem?_append_left (by simpa using h)]
    simp [h]
  · rw [List.getElem?_append_right (by simp; omega)]
    simp only [List.length_map, List.length_range, if_neg h]
    rw [List.getElem?_range (by omega)]
    rfl
end VS
set_option Elab.async false
set_option linter.all false
set_option maxRecDepth 100000
namespace VS
/-! ### strings whose ends meet are joined, pair by pair -/
/-- a and b meet: what hangs on both is one string -/
def jn (a b : Nat) (e : Nat → Nat) (x : Nat) : Nat :=
  if x = a then a else if x = b then b else if x = e a then e b else if x = e b then e a else e x
def el (s : Nat × (Nat → Nat)) (p : Nat × Nat) : Nat × (Nat → Nat) :=
  (if s.2 p.1 = p.2 then s.1 + 1 else s.1, jn p.1 p.2 s.2)
def Iv (e : Nat → Nat) : Prop := ∀ x, e (e x) = x
theorem jn_iv {a b : Nat} {e : Nat → Nat} (h : Iv e) (hab : a ≠ b) (ha : e a ≠ a) (hb : e b ≠ b) : Iv (jn a b e) := by
  intro x
  have h1 := h x; have h2 := h a; have h3 := h b
  unfold jn
  grind (splits := 40)
theorem jn_fix {a b x : Nat} {e : Nat → Nat} (h : Iv e) (hab : a ≠ b) (ha : e a ≠ a) (hb : e b ≠ b) : jn a b e x = x ↔ x = a ∨ x = b ∨ e x = x := by
  have h1 := h x; have h2 := h a; have h3 := h b
  unfold jn
  grind (splits := 40)
theorem jn_out {a b x : Nat} {e : Nat → Nat} (h : Iv e) (hx : x ≠ a) (hy : x ≠ b) (h1 : e x ≠ a) (h2 : e x ≠ b) : jn a b e x = e x := by
  have q1 := h x; have q2 := h a; have q3 := h b
  unfold jn
  grind (splits := 40)
theorem jn_a {a b x : Nat} {e : Nat → Nat} (h : Iv e) (hx : x ≠ a) (hy : x ≠ b) (h1 : e x = a) : jn a b e x = e b := by
  have q1 := h x
  unfold jn
  grind (splits := 40)
theorem jn_b {a b x : Nat} {e : Nat → Nat} (h : Iv e) (hx : x ≠ a) (hy : x ≠ b) (h1 : e x = b) (hb : e b ≠ b) : jn a b e x = e a := by
  have q1 := h x; have q2 := h a
  unfold jn
  grind (splits := 40)
theorem jn_comm {a b c d : Nat} {e : Nat → Nat} (h : Iv e) (hab : a ≠ b) (hcd : c ≠ d) (hac : a ≠ c) (had : a ≠ d) (hbc : b ≠ c) (hbd : b ≠ d) (ha : e a ≠ a) (hb : e b ≠ b) (hc : e c ≠ c) (hd : e d ≠ d) : jn c d (jn a b e) = jn a b (jn c d e) := by
  funext x
  have h1 := h x; have h2 := h a; have h3 := h b; have h4 := h c; have h5 := h d
  unfold jn
  grind (splits := 40)
theorem el_comm {r a b c d : Nat} {e : Nat → Nat} (h : Iv e) (hab : a ≠ b) (hcd : c ≠ d) (hac : a ≠ c) (had : a ≠ d) (hbc : b ≠ c) (hbd : b ≠ d) (ha : e a ≠ a) (hb : e b ≠ b) (hc : e c ≠ c) (hd : e d ≠ d) : el (el (r, e) (a, b)) (c, d) = el (el (r, e) (c, d)) (a, b) := by
  unfold el
  refine Prod.ext ?_ (jn_comm h hab hcd hac had hbc hbd ha hb hc hd)
  have h2 := h a; have h3 := h b; have h4 := h c; have h5 := h d
  show (if jn a b e c = d then _ else _) = (if jn c d e a = b then _ else _)
  simp only []
  unfold jn
  grind (splits := 40)
/-- pairs with no end in common -/
def Ap (p q : Nat × Nat) : Prop := p.1 ≠ q.1 ∧ p.1 ≠ q.2 ∧ p.2 ≠ q.1 ∧ p.2 ≠ q.2
theorem Ap.symm {p q : Nat × Nat} (h : Ap p q) : Ap q p := ⟨fun z => h.1 z.symm, fun z => h.2.2.1 z.symm, fun z => h.2.1 z.symm, fun z => h.2.2.2 z.symm⟩
structure OkL (e : Nat → Nat) (L : List (Nat × Nat)) : Prop where
  iv : Iv e
  pw : L.Pairwise Ap
  own : ∀ p ∈ L, p.1 ≠ p.2 ∧ e p.1 ≠ p.1 ∧ e p.2 ≠ p.2
def elL (s : Nat × (Nat → Nat)) (L : List (Nat × Nat)) : Nat × (Nat → Nat) := L.foldl el s
theorem OkL.tail {e : Nat → Nat} {p : Nat × Nat} {L : List (Nat × Nat)} (h : OkL e (p :: L)) : OkL (jn p.1 p.2 e) L := by
  have hp := h.own p (by simp)
  have hw := List.pairwise_cons.mp h.pw
  refine ⟨jn_iv h.iv hp.1 hp.2.1 hp.2.2, hw.2, fun q hq => ⟨(h.own q (by simp [hq])).1, fun z => ?_, fun z => ?_⟩⟩
  · have hq' := h.own q (by simp [hq])
    have ap := hw.1 q hq
    rcases (jn_fix h.iv hp.1 hp.2.1 hp.2.2).mp z with z | z | z
    · exact ap.1 z.symm
    · exact ap.2.2.1 z.symm
    · exact hq'.2.1 z
  · have hq' := h.own q (by simp [hq])
    have ap := hw.1 q hq
    rcases (jn_fix h.iv hp.1 hp.2.1 hp.2.2).mp z with z | z | z
    · exact ap.2.1 z.symm
    · exact ap.2.2.2 z.symm
    · exact hq'.2.2 z
theorem OkL.perm {e : Nat → Nat} {L M : List (Nat × Nat)} (h : OkL e L) (p : L.Perm M) : OkL e M :=
  ⟨h.iv, (p.pairwise_iff fun {a b} => Ap.symm).mp h.pw, fun q hq => h.own q (p.mem_iff.mpr hq)⟩
theorem elL_perm {L M : List (Nat × Nat)} (p : L.Perm M) : ∀ {s : Nat × (Nat → Nat)}, OkL s.2 L → elL s L = elL s M := by
  induction p with
  | nil => intro s h; rfl
  | cons a p ih => intro s h; exact ih (s := el s a) h.tail
  | swap a b l =>
    intro s h
    have ha := h.own a (by simp)
    have hb := h.own b (by simp)
    have ap := (List.pairwise_cons.mp h.pw).1 a (by simp)
    show elL (el (el s b) a) l = elL (el (el s a) b) l
    have := el_comm (r := s.1) h.iv hb.1 ha.1 ap.1 ap.2.1 ap.2.2.1 ap.2.2.2 hb.2.1 hb.2.2 ha.2.1 ha.2.2
    rw [show el (el s b) a = el (el s a) b from this]
  | trans p q ih1 ih2 => intro s h; rw [ih1 h, ih2 (h.perm p)]
theorem elL_snoc (s : Nat × (Nat → Nat)) (L : List (Nat × Nat)) (p : Nat × Nat) : elL s (L ++ [p]) = el (elL s L) p := by
  unfold elL; rw [List.foldl_append]; rfl
theorem elL_app (s : Nat × (Nat → Nat)) (L M : List (Nat × Nat)) : elL s (L ++ M) = elL (elL s L) M := by
  unfold elL; rw [List.foldl_append]
/-- an end of one of the pairs -/
def Pt (L : List (Nat × Nat)) (x : Nat) : Prop := ∃ p ∈ L, x = p.1 ∨ x = p.2
theorem elL_iv : ∀ {L : List (Nat × Nat)} {s : Nat × (Nat → Nat)}, OkL s.2 L → Iv (elL s L).2
  | [], _, h => h.iv
  | p :: L, s, h => elL_iv (L := L) (s := el s p) h.tail
theorem elL_fix : ∀ {L : List (Nat × Nat)} {s : Nat × (Nat → Nat)} {x : Nat}, OkL s.2 L → ((elL s L).2 x = x ↔ Pt L x ∨ s.2 x = x)
  | [], s, x, h => by
    show s.2 x = x ↔ _
    constructor
    · exact .inr
    · rintro (⟨p, hp, _⟩ | h)
      · cases hp
      · exact h
  | p :: L, s, x, h => by
    have ih := elL_fix (L := L) (s := el s p) (x := x) h.tail
    have hp := h.own p (by simp)
    show (elL (el s p) L).2 x = x ↔ _
    rw [ih]
    have jf := jn_fix (x := x) h.iv hp.1 hp.2.1 hp.2.2
    show (Pt L x ∨ jn p.1 p.2 s.2 x = x) ↔ _
    rw [jf]
    constructor
    · rintro (⟨q, hq, z⟩ | z | z | z)
      · exact .inl ⟨q, by simp [hq], z⟩
      · exact .inl ⟨p, by simp, .inl z⟩
      · exact .inl ⟨p, by simp, .inr z⟩
      · exact .inr z
    · rintro (⟨q, hq, z⟩ | z)
      · rcases List.mem_cons.mp hq with rfl | hq
        · rcases z with z | z
          · exact .inr (.inl z)
          · exact .inr (.inr (.inl z))
        · exact .inl ⟨q, hq, z⟩
      · exact .inr (.inr (.inr z))
theorem OkL.init {e : Nat → Nat} {L M : List (Nat × Nat)} (h : OkL e (L ++ M)) : OkL e L := ⟨h.iv, (List.pairwise_append.mp h.pw).1, fun p hp => h.own p (by simp [hp])⟩
theorem OkL.sub {e : Nat → Nat} {L M : List (Nat × Nat)} (h : OkL e M) (hs : L.Sublist M) : OkL e L := ⟨h.iv, h.pw.sublist hs, fun p hp => h.own p (hs.subset hp)⟩
/-! ### the way along the strings -/
def Glu (L : List (Nat × Nat)) (y z : Nat) : Prop := (y, z) ∈ L ∨ (z, y) ∈ L
inductive Wl (e : Nat → Nat) (L : List (Nat × Nat)) : Nat → Nat → Nat → Prop
  | stop {y : Nat} : ¬ Pt L y → Wl e L 0 y y
  | step {k y z w : Nat} : Glu L y z → Wl e L k (e z) w → Wl e L (k + 1) y w
theorem Glu.pt {L : List (Nat × Nat)} {y z : Nat} (h : Glu L y z) : Pt L y := by
  rcases h with h | h
  · exact ⟨_, h, .inl rfl⟩
  · exact ⟨_, h, .inr rfl⟩
theorem Wl.glue {e : Nat → Nat} {L : List (Nat × Nat)} {p : Nat × Nat} {a b k2 w : Nat} (hg : Glu (L ++ [p]) a b) : ∀ {k y : Nat}, Wl e L k y a → Wl e (L ++ [p]) k2 (e b) w → Wl e (L ++ [p]) (k + 1 + k2) y w := by
  intro k y h h2
  induction h with
  | stop _ => rw [show 0 + 1 + k2 = k2 + 1 by omega]; exact .step hg h2
  | @step k y z w' g r ih =>
    rw [show k + 1 + 1 + k2 = (k + 1 + k2) + 1 by omega]
    refine .step ?_ (ih hg)
    rcases g with g | g
    · exact .inl (List.mem_append_left _ g)
    · exact .inr (List.mem_append_left _ g)
theorem Wl.more {e : Nat → Nat} {L : List (Nat × Nat)} {p : Nat × Nat} {k y w : Nat} (h : Wl e L k y w) (hw : ¬ Pt (L ++ [p]) w) : Wl e (L ++ [p]) k y w := by
  induction h with
  | stop _ => exact .stop hw
  | @step k y z w' g r ih =>
    refine .step ?_ (ih hw)
    rcases g with g | g
    · exact .inl (List.mem_append_left _ g)
    · exact .inr (List.mem_append_left _ g)
theorem pt_snoc {L : List (Nat × Nat)} {p : Nat × Nat} {x : Nat} : Pt (L ++ [p]) x ↔ Pt L x ∨ x = p.1 ∨ x = p.2 := by
  constructor
  · rintro ⟨q, hq, z⟩
    rcases List.mem_append.mp hq with h | h
    · exact .inl ⟨q, h, z⟩
    · obtain rfl := List.mem_singleton.mp h
      exact .inr z
  · rintro (⟨q, hq, z⟩ | z)
    · exact ⟨q, by simp [hq], z⟩
    · exact ⟨p, by simp, z⟩
/-- where the way leads -/
theorem way_ok {e : Nat → Nat} {r : Nat} : ∀ (L : List (Nat × Nat)), OkL e L.reverse → ∀ x, ¬ Pt L.reverse x → e x ≠ x → ∃ k, k + 1 ≤ 2 ^ L.length ∧ Wl e L.reverse k (e x) ((elL (r, e) L.reverse).2 x)
  | [], h, x, hx, he => ⟨0, by simp, .stop fun ⟨p, hp, _⟩ => by cases hp⟩
  | p :: L, h, x, hx, he => by
    rw [List.reverse_cons] at h hx ⊢
    have h0 := h.init
    have ih := way_ok (r := r) L h0
    obtain ⟨F, hF⟩ : ∃ F, F = (elL (r, e) L.reverse).2 := ⟨_, rfl⟩
    have iv : Iv F := hF ▸ elL_iv (s := (r, e)) h0
    have fix : ∀ y, F y = y ↔ Pt L.reverse y ∨ e y = y := fun y => hF ▸ elL_fix (s := (r, e)) h0
    rw [elL_snoc]
    show ∃ k, _ ∧ Wl e _ k (e x) (jn p.1 p.2 (elL (r, e) L.reverse).2 x)
    simp only [← hF] at ih ⊢
    have hxL : ¬ Pt L.reverse x := fun z => hx (pt_snoc.mpr (.inl z))
    have hx1 : x ≠ p.1 := fun z => hx (pt_snoc.mpr (.inr (.inl z)))
    have hx2 : x ≠ p.2 := fun z => hx (pt_snoc.mpr (.inr (.inr z)))
    have own := h.own p (by simp)
    have pw := (List.pairwise_append.mp h.pw).2.2
    have n1 : ¬ Pt L.reverse p.1 := by
      rintro ⟨q, hq, z⟩
      have := pw q hq p (by simp)
      rcases z with z | z
      · exact this.1 z.symm
      · exact this.2.2.1 z.symm
    have n2 : ¬ Pt L.reverse p.2 := by
      rintro ⟨q, hq, z⟩
      have := pw q hq p (by simp)
      rcases z with z | z
      · exact this.2.1 z.symm
      · exact this.2.2.2 z.symm
    have f1 : F p.1 ≠ p.1 := fun z => by rcases (fix _).mp z with z | z; exact n1 z; exact own.2.1 z
    have f2 : F p.2 ≠ p.2 := fun z => by rcases (fix _).mp z with z | z; exact n2 z; exact own.2.2 z
    have fx : F x ≠ x := fun z => by rcases (fix _).mp z with z | z; exact hxL z; exact he z
    obtain ⟨k, hk, w⟩ := ih x hxL he
    have far : ∀ y, F y ≠ y → F y ≠ p.1 → F y ≠ p.2 → ¬ Pt (L.reverse ++ [p]) (F y) := fun y hy q1 q2 z => by
      rcases pt_snoc.mp z with z | z | z
      · exact hy ((iv y).symm.trans ((fix _).mpr (.inl z)) |>.symm)
      · exact q1 z
      · exact q2 z
    have pow : 2 ^ (p :: L).length = 2 ^ L.length + 2 ^ L.length := by rw [List.length_cons, Nat.pow_succ]; omega
    by_cases c1 : F x = p.1
    · obtain ⟨k2, hk2, w2⟩ := ih p.2 n2 own.2.2
      rw [jn_a iv hx1 hx2 c1]
      rw [c1] at w
      refine ⟨k + 1 + k2, by omega, Wl.glue (.inl (by simp)) w (w2.more (far _ f2 (fun z => ?_) f2))⟩
      have : p.2 = F p.1 := by rw [← z, iv]
      exact hx2 (by rw [this, ← c1, iv])
    · by_cases c2 : F x = p.2
      · obtain ⟨k2, hk2, w2⟩ := ih p.1 n1 own.2.1
        rw [jn_b iv hx1 hx2 c2 f2]
        rw [c2] at w
        refine ⟨k + 1 + k2, by omega, Wl.glue (.inr (by simp)) w (w2.more (far _ f1 f1 fun z => ?_))⟩
        have : p.1 = F p.2 := by rw [← z, iv]
        exact hx1 (by rw [this, ← c2, iv])
      · rw [jn_out iv hx1 hx2 c1 c2]
        exact ⟨k, by omega, w.more (far _ fx c1 c2)⟩
end VS
set_option Elab.async false
set_option linter.all false
set_option maxRecDepth 100000
namespace VS
/-! ### a mat behind another one: ends 0 .. n-1 above, n .. n+m-1 below the one, n+m .. n+2m-1 above the other, then those below it -/
section
variable (A H : Nat → Nat) (n m k : Nat)
def e0 (x : Nat) : Nat := if x < n + m then A x else if x < n + 2 * m + k then n + m + H (x - (n + m)) else x
def prs (Q : List Nat) : List (Nat × Nat) := Q.map fun q => (n + q, n + m + q)
def bhF : Nat × (Nat → Nat) := elL (0, e0 A H n m k) (prs n m (List.range m))
def Oue (x : Nat) : Prop := x < n ∨ (n + 2 * m ≤ x ∧ x < n + 2 * m + k)
def xp (p : Nat) : Nat := if p < n then p else p + 2 * m
def num (z : Nat) : Nat := if z < n then z else z - 2 * m
end
variable {A H : Nat → Nat} {n m k : Nat}
theorem e0_iv (hA : Pr (n + m) A) (hH : Pr (m + k) H) : Iv (e0 A H n m k) := by
  intro x
  unfold e0
  by_cases h1 : x < n + m
  · have := hA x h1
    rw [if_pos h1, if_pos this.1, this.2.2]
  · rw [if_neg h1]
    by_cases h2 : x < n + 2 * m + k
    · have := hH (x - (n + m)) (by omega)
      rw [if_pos h2, if_neg (by omega), if_pos (by omega), show n + m + H (x - (n + m)) - (n + m) = H (x - (n + m)) by omega, this.2.2]
      omega
    · rw [if_neg h2, if_neg h1, if_neg h2]
theorem e0_ne (hA : Pr (n + m) A) (hH : Pr (m + k) H) {x : Nat} (h : x < n + 2 * m + k) : e0 A H n m k x ≠ x := by
  unfold e0
  by_cases h1 : x < n + m
  · have := hA x h1
    rw [if_pos h1]; exact this.2.1
  · have := hH (x - (n + m)) (by omega)
    rw [if_neg h1, if_pos h]; omega
theorem e0_lt (hA : Pr (n + m) A) (hH : Pr (m + k) H) {x : Nat} (h : x < n + 2 * m + k) : e0 A H n m k x < n + 2 * m + k := by
  unfold e0
  by_cases h1 : x < n + m
  · have := hA x h1
    rw [if_pos h1]; omega
  · have := hH (x - (n + m)) (by omega)
    rw [if_neg h1, if_pos h]; omega
theorem prs_mem {Q : List Nat} {p : Nat × Nat} : p ∈ prs n m Q ↔ ∃ q ∈ Q, p = (n + q, n + m + q) := by
  unfold prs
  rw [List.mem_map]
  exact ⟨fun ⟨q, h, e⟩ => ⟨q, h, e.symm⟩, fun ⟨q, h, e⟩ => ⟨q, h, e.symm⟩⟩
theorem pt_prs {Q : List Nat} {y : Nat} : Pt (prs n m Q) y ↔ ∃ q ∈ Q, y = n + q ∨ y = n + m + q := by
  constructor
  · rintro ⟨p, hp, z⟩
    obtain ⟨q, hq, rfl⟩ := prs_mem.mp hp
    exact ⟨q, hq, z⟩
  · rintro ⟨q, hq, z⟩
    exact ⟨_, prs_mem.mpr ⟨q, hq, rfl⟩, z⟩
theorem pt_near {Q : List Nat} {q : Nat} (hl : ∀ q ∈ Q, q < m) (hq : q < m) : Pt (prs n m Q) (n + q) ↔ q ∈ Q := by
  rw [pt_prs]
  constructor
  · rintro ⟨p, hp, z⟩
    have := hl p hp
    obtain rfl : p = q := by omega
    exact hp
  · intro h; exact ⟨q, h, .inl rfl⟩
theorem pt_far {Q : List Nat} {q : Nat} (hl : ∀ q ∈ Q, q < m) (hq : q < m) : Pt (prs n m Q) (n + m + q) ↔ q ∈ Q := by
  rw [pt_prs]
  constructor
  · rintro ⟨p, hp, z⟩
    have := hl p hp
    obtain rfl : p = q := by omega
    exact hp
  · intro h; exact ⟨q, h, .inr rfl⟩
theorem out_pt {Q : List Nat} {x : Nat} (hl : ∀ q ∈ Q, q < m) (h : Oue n m k x) : ¬ Pt (prs n m Q) x := by
  rw [pt_prs]
  rintro ⟨p, hp, z⟩
  have := hl p hp
  unfold Oue at h
  omega
theorem prs_ok (hA : Pr (n + m) A) (hH : Pr (m + k) H) {Q : List Nat} (nd : Q.Nodup) (hl : ∀ q ∈ Q, q < m) : OkL (e0 A H n m k) (prs n m Q) := by
  refine ⟨e0_iv hA hH, ?_, fun p hp => ?_⟩
  · unfold prs
    rw [List.pairwise_map]
    refine List.Pairwise.imp_of_mem ?_ nd
    intro a b ha hb hab
    have h1 := hl a ha
    have h2 := hl b hb
    refine ⟨?_, ?_, ?_, ?_⟩ <;> simp only [] <;> omega
  · obtain ⟨q, hq, rfl⟩ := prs_mem.mp hp
    have := hl q hq
    exact ⟨by simp only []; omega, e0_ne hA hH (by simp only []; omega), e0_ne hA hH (by simp only []; omega)⟩
theorem prs_snoc (Q : List Nat) (q : Nat) : prs n m (Q ++ [q]) = prs n m Q ++ [(n + q, n + m + q)] := by
  unfold prs; rw [List.map_append]; rfl
theorem pt_step {Q : List Nat} {q y : Nat} : Pt (prs n m (Q ++ [q])) y ↔ Pt (prs n m Q) y ∨ y = n + q ∨ y = n + m + q := by
  rw [prs_snoc]; exact pt_snoc
/-- what stands after some pairs are joined -/
structure Sd (A H : Nat → Nat) (n m k : Nat) (Q : List Nat) (ps : List Bool) : Prop where
  nd : Q.Nodup
  lt : ∀ q ∈ Q, q < m
  len : ps.length = m
  fl : ∀ q, bt ps q = true ↔ q ∈ Q
/-- the numbers of rings and the ends -/
def fQ (A H : Nat → Nat) (n m k : Nat) (Q : List Nat) : Nat × (Nat → Nat) := elL (0, e0 A H n m k) (prs n m Q)
theorem fQ_snoc (Q : List Nat) (q : Nat) : fQ A H n m k (Q ++ [q]) = el (fQ A H n m k Q) (n + q, n + m + q) := by
  unfold fQ; rw [prs_snoc, elL_snoc]
theorem fQ_fix (hA : Pr (n + m) A) (hH : Pr (m + k) H) {Q : List Nat} (nd : Q.Nodup) (hl : ∀ q ∈ Q, q < m) {x : Nat} (hx : x < n + 2 * m + k) : (fQ A H n m k Q).2 x = x ↔ Pt (prs n m Q) x := by
  unfold fQ
  rw [elL_fix (prs_ok hA hH nd hl)]
  exact ⟨fun h => h.resolve_right (e0_ne hA hH hx), .inl⟩
theorem fQ_iv (hA : Pr (n + m) A) (hH : Pr (m + k) H) {Q : List Nat} (nd : Q.Nodup) (hl : ∀ q ∈ Q, q < m) : Iv (fQ A H n m k Q).2 := elL_iv (s := (0, e0 A H n m k)) (prs_ok hA hH nd hl)
theorem fQ_way (hA : Pr (n + m) A) (hH : Pr (m + k) H) {Q : List Nat} (nd : Q.Nodup) (hl : ∀ q ∈ Q, q < m) {x : Nat} (hx : x < n + 2 * m + k) (hp : ¬ Pt (prs n m Q) x) : ∃ j, j + 1 ≤ 2 ^ Q.length ∧ Wl (e0 A H n m k) (prs n m Q) j (e0 A H n m k x) ((fQ A H n m k Q).2 x) := by
  have := way_ok (r := 0) (prs n m Q).reverse (by rw [List.reverse_reverse]; exact prs_ok hA hH nd hl) x (by rwa [List.reverse_reverse]) (e0_ne hA hH hx)
  rw [List.reverse_reverse, List.length_reverse, show (prs n m Q).length = Q.length by simp [prs]] at this
  exact this
/-- what leads outside stays -/
theorem fQ_keep {Q : List Nat} {q x : Nat} (iv : Iv (fQ A H n m k Q).2) (hq : q < m) (hx : Oue n m k x) (hz : Oue n m k ((fQ A H n m k Q).2 x)) : (fQ A H n m k (Q ++ [q])).2 x = (fQ A H n m k Q).2 x := by
  rw [fQ_snoc]
  unfold Oue at hx hz
  exact jn_out iv (by simp only []; omega) (by simp only []; omega) (by simp only []; omega) (by simp only []; omega)
theorem fQ_keeps (hA : Pr (n + m) A) (hH : Pr (m + k) H) {x : Nat} (hx : Oue n m k x) : ∀ (R Q : List Nat), (Q ++ R).Nodup → (∀ q ∈ Q ++ R, q < m) → Oue n m k ((fQ A H n m k Q).2 x) → (fQ A H n m k (Q ++ R)).2 x = (fQ A H n m k Q).2 x
  | [], Q, _, _, _ => by rw [List.append_nil]
  | r :: R, Q, nd, hl, hz => by
    have e : Q ++ r :: R = (Q ++ [r]) ++ R := by simp
    rw [e] at nd hl ⊢
    have n1 : (Q ++ [r]).Nodup := nd.sublist (List.sublist_append_left _ _)
    have n0 : Q.Nodup := n1.sublist (List.sublist_append_left _ _)
    have k1 := fQ_keep (fQ_iv hA hH n0 fun q hq => hl q (by simp [hq])) (hl r (by simp)) hx hz
    rw [fQ_keeps hA hH hx R (Q ++ [r]) nd hl (by rw [k1]; exact hz), k1]
/-- all pairs, in whatever order -/
theorem nodup_full {Q : List Nat} (nd : Q.Nodup) (hl : ∀ q ∈ Q, q < m) : ∃ R, (Q ++ R).Nodup ∧ (∀ q ∈ Q ++ R, q < m) ∧ (Q ++ R).Perm (List.range m) := by
  refine ⟨(List.range m).filter (fun q => decide (q ∉ Q)), ?_, ?_, ?_⟩
  · rw [List.nodup_append]
    refine ⟨nd, List.nodup_range.filter _, fun a ha b hb e => ?_⟩
    subst e
    have := (List.mem_filter.mp hb).2
    exact (of_decide_eq_true this) ha
  · intro q hq
    rcases List.mem_append.mp hq with h | h
    · exact hl q h
    · exact List.mem_range.mp (List.mem_filter.mp h).1
  · refine (List.perm_ext_iff_of_nodup ?_ List.nodup_range).mpr fun q => ?_
    · rw [List.nodup_append]
      refine ⟨nd, List.nodup_range.filter _, fun a ha b hb e => ?_⟩
      subst e
      have := (List.mem_filter.mp hb).2
      exact (of_decide_eq_true this) ha
    · rw [List.mem_append, List.mem_filter, List.mem_range]
      constructor
      · rintro (h | h)
        · exact hl q h
        · exact h.1
      · intro h
        by_cases c : q ∈ Q
        · exact .inl c
        · exact .inr ⟨h, decide_eq_true c⟩
theorem fQ_perm (hA : Pr (n + m) A) (hH : Pr (m + k) H) {Q R : List Nat} (nd : Q.Nodup) (hl : ∀ q ∈ Q, q < m) (p : Q.Perm R) : fQ A H n m k Q = fQ A H n m k R :=
  elL_perm (p.map _) (prs_ok hA hH nd hl)
theorem fQ_full (hA : Pr (n + m) A) (hH : Pr (m + k) H) {Q : List Nat} (nd : Q.Nodup) (hl : ∀ q ∈ Q, q < m) {x : Nat} (hx : Oue n m k x) (hz : Oue n m k ((fQ A H n m k Q).2 x)) : (bhF A H n m k).2 x = (fQ A H n m k Q).2 x := by
  obtain ⟨R, h1, h2, h3⟩ := nodup_full nd hl
  rw [← fQ_keeps hA hH hx R Q h1 h2 hz, fQ_perm hA hH h1 h2 h3]
  rfl
/-! ### the way from one peg outside to another, marked -/
def pt (n m : Nat) (b : Bool) (a : Nat) : Nat := if b = true then a else n + m + a
theorem sd_set {Q : List Nat} {ps : List Bool} {q : Nat} (h : Sd A H n m k Q ps) (hq : q < m) (hn : q ∉ Q) : Sd A H n m k (Q ++ [q]) (ps.set q true) := by
  refine ⟨?_, fun x hx => ?_, by rw [List.length_set]; exact h.len, fun x => ?_⟩
  · rw [List.nodup_append]
    exact ⟨h.nd, by simp, fun a ha b hb e => by rw [List.mem_singleton] at hb; subst e; subst hb; exact hn ha⟩
  · rcases List.mem_append.mp hx with z | z
    · exact h.lt x z
    · rw [List.mem_singleton.mp z]; exact hq
  · rw [bt_set (by rw [h.len]; exact hq)]
    by_cases c : x = q
    · subst c; simp
    · rw [if_neg c, h.fl]
      simp [c]
theorem sd_same {Q : List Nat} {ps : List Bool} {q : Nat} (h : Sd A H n m k Q ps) (hq : q ∈ Q) : Sd A H n m k Q (ps.set q true) := by
  refine ⟨h.nd, h.lt, by rw [List.length_set]; exact h.len, fun x => ?_⟩
  rw [bt_set (by rw [h.len]; exact h.lt q hq)]
  by_cases c : x = q
  · subst c; simp [hq]
  · rw [if_neg c, h.fl]
theorem wk_all (hA : Pr (n + m) A) (hH : Pr (m + k) H) {x : Nat} (hx : Oue n m k x) {c r : Nat} {ps' : List Bool} : ∀ (f : Nat) (b : Bool) (a : Nat) (ps : List Bool) (Q : List Nat), Sd A H n m k Q ps → pt n m b a < n + 2 * m + k → (b = true → a < n + m) → (∃ j, Wl (e0 A H n m k) (prs n m Q) j (pt n m b a) ((fQ A H n m k Q).2 x)) → (∀ y, Pt (prs n m Q) y → Oue n m k (e0 A H n m k y) ∨ Pt (prs n m Q) (e0 A H n m k y) ∨ e0 A H n m k y = pt n m b a) → (Oue n m k (e0 A H n m k (pt n m b a)) ∨ Pt (prs n m Q) (e0 A H n m k (pt n m b a))) → (fQ A H n m k Q).1 = c → wk A H n m f b a ps = some (r, ps') →
    ∃ R, Sd A H n m k (Q ++ R) ps' ∧ (∀ y, Pt (prs n m (Q ++ R)) y → Oue n m k (e0 A H n m k y) ∨ Pt (prs n m (Q ++ R)) (e0 A H n m k y)) ∧ (fQ A H n m k (Q ++ R)).1 = c ∧ Oue n m k ((fQ A H n m k (Q ++ R)).2 x) ∧ r = num n m ((fQ A H n m k (Q ++ R)).2 x)
  | 0, b, a, ps, Q, h, hb, ha, hw, hc, hc2, h1, hk => by cases hk
  | f + 1, b, a, ps, Q, h, hb, ha, ⟨j, hw⟩, hc, hc2, h1, hk => by
    -- at an end outside
    have fin : ∀ z, Oue n m k z → z = pt n m b a → (fQ A H n m k Q).2 x = z := fun z hz e => by
      rw [← e] at hw
      cases hw with
      | stop _ => rfl
      | step g _ => exact absurd g.pt (out_pt h.lt hz)
    have fin2 : Oue n m k (pt n m b a) → ∀ y, Pt (prs n m Q) y → Oue n m k (e0 A H n m k y) ∨ Pt (prs n m Q) (e0 A H n m k y) := fun ho y hy => by
      rcases hc y hy with z | z | z
      · exact .inl z
      · exact .inr z
      · rw [z]; exact .inl ho
    -- at a pair: c0 the end, d0 its partner
    have go : ∀ (q c0 d0 : Nat) (b' : Bool) (a' : Nat), q < m → c0 = pt n m b a → (c0 = n + q ∧ d0 = n + m + q ∨ c0 = n + m + q ∧ d0 = n + q) → e0 A H n m k d0 = pt n m b' a' → (b' = true → a' < n + m) → wk A H n m f b' a' (ps.set q true) = some (r, ps') → ∃ R, Sd A H n m k (Q ++ R) ps' ∧ (∀ y, Pt (prs n m (Q ++ R)) y → Oue n m k (e0 A H n m k y) ∨ Pt (prs n m (Q ++ R)) (e0 A H n m k y)) ∧ (fQ A H n m k (Q ++ R)).1 = c ∧ Oue n m k ((fQ A H n m k (Q ++ R)).2 x) ∧ r = num n m ((fQ A H n m k (Q ++ R)).2 x) := by
      intro q c0 d0 b' a' hq hc0 hcd he hb' hk
      have dl : d0 < n + 2 * m + k := by omega
      have ptb : pt n m b' a' < n + 2 * m + k := by rw [← he]; exact e0_lt hA hH dl
      have cd : ∀ y, y = n + q ∨ y = n + m + q ↔ y = c0 ∨ y = d0 := fun y => by omega
      by_cases hin : q ∈ Q
      · have cin : Pt (prs n m Q) c0 := pt_prs.mpr ⟨q, hin, (cd c0).mpr (.inl rfl)⟩
        have din : Pt (prs n m Q) d0 := pt_prs.mpr ⟨q, hin, (cd d0).mpr (.inr rfl)⟩
        refine wk_all hA hH hx f b' a' _ Q (sd_same h hin) ptb hb' ?_ (fun y hy => ?_) ?_ h1 hk
        · rw [← hc0] at hw
          cases hw with
          | stop z => exact absurd cin z
          | @step j' _ z _ g w =>
            have : z = d0 := by
              rcases g with g | g
              · obtain ⟨q', hq', e⟩ := prs_mem.mp g
                have := h.lt q' hq'
                have e1 := (Prod.mk.inj e).1
                have e2 := (Prod.mk.inj e).2
                omega
              · obtain ⟨q', hq', e⟩ := prs_mem.mp g
                have := h.lt q' hq'
                have e1 := (Prod.mk.inj e).1
                have e2 := (Prod.mk.inj e).2
                omega
            subst this
            rw [he] at w
            exact ⟨_, w⟩
        · rcases hc y hy with z | z | z
          · exact .inl z
          · exact .inr (.inl z)
          · rw [z, ← hc0]; exact .inr (.inl cin)
        · rw [← he, e0_iv hA hH]; exact .inr din
      · have cnin : ¬ Pt (prs n m Q) c0 := fun z => by
          rcases hcd with e | e
          · rw [e.1, pt_near h.lt hq] at z; exact hin z
          · rw [e.1, pt_far h.lt hq] at z; exact hin z
        have dnin : ¬ Pt (prs n m Q) d0 := fun z => by
          rcases hcd with e | e
          · rw [e.2, pt_far h.lt hq] at z; exact hin z
          · rw [e.2, pt_near h.lt hq] at z; exact hin z
        have fx : (fQ A H n m k Q).2 x = c0 := by
          rw [← hc0] at hw
          cases hw with
          | stop _ => rfl
          | step g _ => exact absurd g.pt cnin
        have iv := fQ_iv hA hH h.nd h.lt
        have fc : (fQ A H n m k Q).2 c0 = x := by rw [← fx, iv]
        have nd := sd_set h hq hin
        have xo : x ≠ n + q ∧ x ≠ n + m + q := by unfold Oue at hx; omega
        have ring : (fQ A H n m k (Q ++ [q])).1 = c := by
          rw [fQ_snoc]
          show (if (fQ A H n m k Q).2 (n + q) = n + m + q then _ else _) = c
          rw [if_neg, h1]
          intro z
          rcases hcd with e | e
          · rw [← e.1, fc] at z; exact xo.2 z
          · have : (fQ A H n m k Q).2 (n + m + q) = n + q := by rw [← z, iv]
            rw [← e.1, fc] at this; exact xo.1 this
        have f1 : (fQ A H n m k Q).2 d0 ≠ d0 := fun z => dnin ((fQ_fix hA hH h.nd h.lt dl).mp z)
        have fx2 : (fQ A H n m k (Q ++ [q])).2 x = (fQ A H n m k Q).2 d0 := by
          rw [fQ_snoc]
          rcases hcd with e | e
          · rw [e.2]; exact jn_a iv xo.1 xo.2 (fx.trans e.1)
          · rw [e.2]; exact jn_b iv xo.1 xo.2 (fx.trans e.1) (by rw [← e.1, fc]; rw [e.1]; exact xo.2)
        obtain ⟨R, q1, q2, q3, q4, q5⟩ := wk_all hA hH hx f b' a' _ (Q ++ [q]) nd ptb hb' (by
          obtain ⟨j2, _, w2⟩ := fQ_way hA hH h.nd h.lt dl dnin
          rw [he] at w2
          rw [fx2, prs_snoc]
          refine ⟨j2, w2.more fun z => ?_⟩
          have fd : (fQ A H n m k Q).2 ((fQ A H n m k Q).2 d0) = d0 := iv d0
          have dlt : (fQ A H n m k Q).2 d0 < n + 2 * m + k := by
            rcases Nat.lt_or_ge ((fQ A H n m k Q).2 d0) (n + 2 * m + k) with q | q
            · exact q
            · have : (fQ A H n m k Q).2 ((fQ A H n m k Q).2 d0) = (fQ A H n m k Q).2 d0 := by
                refine (elL_fix (s := (0, e0 A H n m k)) (prs_ok hA hH h.nd h.lt)).mpr (.inr ?_)
                show e0 A H n m k _ = _
                unfold e0
                rw [if_neg (by omega), if_neg (by omega)]
              exact absurd (this.symm.trans fd) f1
          rcases pt_snoc.mp z with z | z
          · have := (fQ_fix hA hH h.nd h.lt dlt).mpr z
            exact f1 (this.symm.trans fd)
          · rcases (cd _).mp z with z | z
            · rw [z, fc] at fd
              have := (cd d0).mpr (.inr rfl)
              omega
            · exact f1 z) (fun y hy => by
          rcases pt_step.mp hy with z | z
          · rcases hc y z with z | z | z
            · exact .inl z
            · exact .inr (.inl (pt_step.mpr (.inl z)))
            · rw [z, ← hc0]; exact .inr (.inl (pt_step.mpr (.inr ((cd c0).mpr (.inl rfl)))))
          · rcases (cd y).mp z with z | z
            · rw [z, hc0]
              rcases hc2 with z | z
              · exact .inl z
              · exact .inr (.inl (pt_step.mpr (.inl z)))
            · rw [z]; exact .inr (.inr he)) (by rw [← he, e0_iv hA hH]; exact .inr (pt_step.mpr (.inr ((cd d0).mpr (.inr rfl))))) ring hk
        have e : Q ++ [q] ++ R = Q ++ (q :: R) := by simp
        rw [e] at q1 q2 q3 q4 q5
        exact ⟨q :: R, q1, q2, q3, q4, q5⟩
    cases b with
    | true =>
      rw [wk_t] at hk
      have pb : pt n m true a = a := rfl
      have ha := ha rfl
      by_cases c1 : a < n
      · rw [if_pos c1] at hk
        cases hk
        have ho : Oue n m k (pt n m true r) := .inl c1
        have e := fin _ ho rfl
        refine ⟨[], by rw [List.append_nil]; exact h, by rw [List.append_nil]; exact fin2 ho, by rw [List.append_nil]; exact h1, by rw [List.append_nil, e]; exact ho, ?_⟩
        rw [List.append_nil, e]
        unfold num; rw [pb, if_pos c1]
      · rw [if_neg c1] at hk
        have hh := hH (a - n) (by omega)
        refine go (a - n) a (n + m + (a - n)) false (H (a - n)) (by omega) pb.symm (.inl ⟨by omega, rfl⟩) ?_ (fun z => by cases z) hk
        unfold e0 pt
        rw [if_neg (by omega), if_pos (by omega), if_neg (by simp), show n + m + (a - n) - (n + m) = a - n by omega]
    | false =>
      rw [wk_f] at hk
      have pb : pt n m false a = n + m + a := rfl
      by_cases c1 : m ≤ a
      · rw [if_pos c1] at hk
        cases hk
        have ho : Oue n m k (pt n m false a) := .inr ⟨by omega, hb⟩
        have e := fin _ ho rfl
        refine ⟨[], by rw [List.append_nil]; exact h, by rw [List.append_nil]; exact fin2 ho, by rw [List.append_nil]; exact h1, by rw [List.append_nil, e]; exact ho, ?_⟩
        rw [List.append_nil, e]
        unfold num; rw [pb, if_neg (by omega)]; omega
      · rw [if_neg c1] at hk
        have hh := hA (n + a) (by omega)
        refine go a (n + m + a) (n + a) true (A (n + a)) (by omega) pb.symm (.inr ⟨rfl, rfl⟩) ?_ (fun _ => hh.1) hk
        unfold e0 pt
        rw [if_pos (by omega), if_pos rfl]
/-- the way ends -/
theorem wk_some (hA : Pr (n + m) A) (hH : Pr (m + k) H) {w : Nat} (hw : Oue n m k w) {j y : Nat} (h : Wl (e0 A H n m k) (prs n m (List.range m)) j y w) : ∀ (b : Bool) (a : Nat) (ps : List Bool), y = pt n m b a → (b = true → a < n + m) → y < n + 2 * m + k → ∃ r ps', wk A H n m (j + 1) b a ps = some (r, ps') := by
  induction h with
  | @stop y hy =>
    intro b a ps e ha hb
    subst e
    cases b with
    | true =>
      have pb : pt n m true a = a := rfl
      have := ha rfl
      rw [wk_t, if_pos (by unfold Oue at hw; omega)]
      exact ⟨_, _, rfl⟩
    | false =>
      have pb : pt n m false a = n + m + a := rfl
      rw [wk_f, if_pos (by unfold Oue at hw; omega)]
      exact ⟨_, _, rfl⟩
  | @step j y z w' g r ih =>
    intro b a ps e ha hb
    have ih := ih hw
    have yz : ∃ q, q < m ∧ (y = n + q ∧ z = n + m + q ∨ y = n + m + q ∧ z = n + q) := by
      rcases g with g | g
      · obtain ⟨q', hq', e⟩ := prs_mem.mp g
        exact ⟨q', List.mem_range.mp hq', .inl ⟨(Prod.mk.inj e).1, (Prod.mk.inj e).2⟩⟩
      · obtain ⟨q', hq', e⟩ := prs_mem.mp g
        exact ⟨q', List.mem_range.mp hq', .inr ⟨(Prod.mk.inj e).2, (Prod.mk.inj e).1⟩⟩
    obtain ⟨q, hq, yz⟩ := yz
    subst e
    have ez : e0 A H n m k z < n + 2 * m + k := e0_lt hA hH (by omega)
    cases b with
    | true =>
      have pb : pt n m true a = a := rfl
      have := ha rfl
      rw [wk_t, if_neg (by omega)]
      refine ih false (H (a - n)) _ ?_ (fun z => by cases z) ez
      unfold e0 pt
      rw [if_neg (by omega), if_pos (by omega), if_neg (by simp), show z - (n + m) = a - n by omega]
    | false =>
      have pb : pt n m false a = n + m + a := rfl
      rw [wk_f, if_neg (by omega)]
      have hh := hA (n + a) (by omega)
      refine ih true (A (n + a)) _ ?_ (fun _ => hh.1) ez
      unfold e0 pt
      rw [if_pos (by omega), if_pos rfl, show z = n + a by omega]
/-- all pegs outside -/
structure Md (A H : Nat → Nat) (n m k : Nat) (Q : List Nat) (ps : List Bool) : Prop where
  sd : Sd A H n m k Q ps
  cl : ∀ y, Pt (prs n m Q) y → Oue n m k (e0 A H n m k y) ∨ Pt (prs n m Q) (e0 A H n m k y)
theorem far_all (hA : Pr (n + m) A) (hH : Pr (m + k) H) {Q : List Nat} {ps : List Bool} {p c : Nat} (h : Md A H n m k Q ps) (hc : (fQ A H n m k Q).1 = c) (hp : p < n + k) : ∃ ps' R, wk A H n m (2 ^ m + 1) (wkS A H n m p).1 (wkS A H n m p).2 ps = some (num n m ((bhF A H n m k).2 (xp n m p)), ps') ∧ Md A H n m k (Q ++ R) ps' ∧ (fQ A H n m k (Q ++ R)).1 = c ∧ Oue n m k ((fQ A H n m k (Q ++ R)).2 (xp n m p)) := by
  have hx : Oue n m k (xp n m p) := by unfold Oue xp; split <;> omega
  have xl : xp n m p < n + 2 * m + k := by unfold xp; split <;> omega
  have st : pt n m (wkS A H n m p).1 (wkS A H n m p).2 = e0 A H n m k (xp n m p) := by
    by_cases c1 : p < n
    · have e1 : xp n m p = p := if_pos c1
      have e2 : wkS A H n m p = (true, A p) := if_pos c1
      rw [e1, e2]
      show A p = e0 A H n m k p
      unfold e0
      rw [if_pos (by omega)]
    · have e1 : xp n m p = p + 2 * m := if_neg c1
      have e2 : wkS A H n m p = (false, H (m + p - n)) := if_neg c1
      rw [e1, e2]
      show n + m + H (m + p - n) = e0 A H n m k (p + 2 * m)
      unfold e0
      rw [if_neg (by omega), if_pos (by omega), show p + 2 * m - (n + m) = m + p - n by omega]
  have sb : (wkS A H n m p).1 = true → (wkS A H n m p).2 < n + m := fun z => by
    unfold wkS at z ⊢
    by_cases c1 : p < n
    · rw [if_pos c1]; exact (hA p (by omega)).1
    · rw [if_neg c1] at z; cases z
  have full := fQ_way hA hH (Q := List.range m) (List.nodup_range) (fun q hq => List.mem_range.mp hq) xl (out_pt (fun q hq => List.mem_range.mp hq) hx)
  obtain ⟨j, hj, w⟩ := full
  have zo : Oue n m k ((fQ A H n m k (List.range m)).2 (xp n m p)) := by
    have iv := fQ_iv hA hH (Q := List.range m) List.nodup_range (fun q hq => List.mem_range.mp hq)
    have f0 : (fQ A H n m k (List.range m)).2 (xp n m p) ≠ xp n m p := fun z => out_pt (fun q hq => List.mem_range.mp hq) hx ((fQ_fix hA hH List.nodup_range (fun q hq => List.mem_range.mp hq) xl).mp z)
    have fl : (fQ A H n m k (List.range m)).2 (xp n m p) < n + 2 * m + k := by
      rcases Nat.lt_or_ge ((fQ A H n m k (List.range m)).2 (xp n m p)) (n + 2 * m + k) with q | q
      · exact q
      · have : (fQ A H n m k (List.range m)).2 ((fQ A H n m k (List.range m)).2 (xp n m p)) = (fQ A H n m k (List.range m)).2 (xp n m p) := by
          refine (elL_fix (s := (0, e0 A H n m k)) (prs_ok hA hH List.nodup_range (fun q hq => List.mem_range.mp hq))).mpr (.inr ?_)
          show e0 A H n m k _ = _
          unfold e0
          rw [if_neg (by omega), if_neg (by omega)]
        exact absurd (this.symm.trans (iv _)) f0
    have np : ¬ Pt (prs n m (List.range m)) ((fQ A H n m k (List.range m)).2 (xp n m p)) := fun z => f0 (((fQ_fix hA hH List.nodup_range (fun q hq => List.mem_range.mp hq) fl).mpr z).symm.trans (iv _))
    unfold Oue
    rcases Nat.lt_or_ge ((fQ A H n m k (List.range m)).2 (xp n m p)) n with q | q
    · exact .inl q
    · refine .inr ⟨?_, fl⟩
      rcases Nat.lt_or_ge ((fQ A H n m k (List.range m)).2 (xp n m p)) (n + 2 * m) with q2 | q2
      · exfalso
        apply np
        rw [pt_prs]
        rcases Nat.lt_or_ge ((fQ A H n m k (List.range m)).2 (xp n m p)) (n + m) with q3 | q3
        · exact ⟨(fQ A H n m k (List.range m)).2 (xp n m p) - n, List.mem_range.mpr (by omega), .inl (by omega)⟩
        · exact ⟨(fQ A H n m k (List.range m)).2 (xp n m p) - n - m, List.mem_range.mpr (by omega), .inr (by omega)⟩
      · exact q2
  obtain ⟨r, ps', hk⟩ := wk_some hA hH zo w _ _ ps st.symm sb (e0_lt hA hH xl)
  rw [List.length_range] at hj
  have hk : wk A H n m (2 ^ m + 1) (wkS A H n m p).1 (wkS A H n m p).2 ps = some (r, ps') := by
    have mono : ∀ f b a ps r ps', wk A H n m f b a ps = some (r, ps') → wk A H n m (f + 1) b a ps = some (r, ps') := by
      intro f
      induction f with
      | zero => intro b a ps r ps' h; cases h
      | succ f ih =>
        intro b a ps r ps' h
        cases b with
        | true =>
          rw [wk_t] at h ⊢
          split
          · rename_i c; rw [if_pos c] at h; exact h
          · rename_i c; rw [if_neg c] at h; exact ih _ _ _ _ _ h
        | false =>
          rw [wk_f] at h ⊢
          split
          · rename_i c; rw [if_pos c] at h; exact h
          · rename_i c; rw [if_neg c] at h; exact ih _ _ _ _ _ h
    have more : ∀ d, wk A H n m (j + 1 + d) (wkS A H n m p).1 (wkS A H n m p).2 ps = some (r, ps') := by
      intro d
      induction d with
      | zero => exact hk
      | succ d ih => exact mono _ _ _ _ _ _ ih
    have := more (2 ^ m - j)
    rwa [show j + 1 + (2 ^ m - j) = 2 ^ m + 1 by omega] at this
  obtain ⟨R, q1, q2, q3, q4, q5⟩ := wk_all (c := c) hA hH hx _ _ _ _ Q h.sd (by rw [st]; exact e0_lt hA hH xl) sb (by
    obtain ⟨j, _, w⟩ := fQ_way hA hH h.sd.nd h.sd.lt xl (out_pt h.sd.lt hx)
    rw [st]; exact ⟨j, w⟩) (fun y hy => by
      rcases h.cl y hy with z | z
      · exact .inl z
      · exact .inr (.inl z)) (by rw [st, e0_iv hA hH]; exact .inl hx) hc hk
  refine ⟨ps', R, ?_, ⟨q1, q2⟩, q3, q4⟩
  rw [hk, q5, fQ_full hA hH q1.nd q1.lt hx q4]
end VS
set_option Elab.async false
set_option linter.all false
set_option maxRecDepth 100000
namespace VS
variable {A H : Nat → Nat} {n m k : Nat}
/-! ### rings that no way from outside passes -/
theorem nodup_len {Q : List Nat} (nd : Q.Nodup) (hl : ∀ q ∈ Q, q < m) : Q.length ≤ m := by
  obtain ⟨R, _, _, h⟩ := nodup_full nd hl
  have := h.length_eq
  rw [List.length_append, List.length_range] at this
  omega
theorem fQ_big (hA : Pr (n + m) A) (hH : Pr (m + k) H) {Q : List Nat} (nd : Q.Nodup) (hl : ∀ q ∈ Q, q < m) {x : Nat} (hx : x < n + 2 * m + k) (hp : ¬ Pt (prs n m Q) x) : (fQ A H n m k Q).2 x < n + 2 * m + k := by
  have iv := fQ_iv hA hH nd hl
  rcases Nat.lt_or_ge ((fQ A H n m k Q).2 x) (n + 2 * m + k) with q | q
  · exact q
  · have : (fQ A H n m k Q).2 ((fQ A H n m k Q).2 x) = (fQ A H n m k Q).2 x := by
      refine (elL_fix (s := (0, e0 A H n m k)) (prs_ok hA hH nd hl)).mpr (.inr ?_)
      show e0 A H n m k _ = _
      unfold e0
      rw [if_neg (by omega), if_neg (by omega)]
    exact absurd ((fQ_fix hA hH nd hl hx).mp (this.symm.trans (iv x))) hp
structure Lp (A H : Nat → Nat) (n m k : Nat) (Q : List Nat) (s c : Nat) : Prop where
  sQ : s ∉ Q
  sm : s < m
  nd : Q.Nodup
  lt : ∀ q ∈ Q, q < m
  fc : (fQ A H n m k Q).2 (n + s) = c
  c0 : Pt (prs n m Q) (e0 A H n m k c) ∨ e0 A H n m k c = n + s
  cl : ∀ y, Pt (prs n m Q) y → Oue n m k (e0 A H n m k y) ∨ Pt (prs n m Q) (e0 A H n m k y) ∨ e0 A H n m k y = n + s ∨ e0 A H n m k y = c
  s0 : Pt (prs n m Q) (e0 A H n m k (n + s)) ∨ e0 A H n m k (n + s) = c
  no : ∀ x, Oue n m k x → Oue n m k ((fQ A H n m k Q).2 x)
theorem Lp.at (hA : Pr (n + m) A) (hH : Pr (m + k) H) {Q : List Nat} {s c : Nat} (h : Lp A H n m k Q s c) : ¬ Oue n m k c ∧ c < n + 2 * m + k ∧ c ≠ n + s ∧ ¬ Pt (prs n m Q) c := by
  have iv := fQ_iv hA hH h.nd h.lt
  have sl : n + s < n + 2 * m + k := by have := h.sm; omega
  have np : ¬ Pt (prs n m Q) (n + s) := by rw [pt_near h.lt h.sm]; exact h.sQ
  have fb := fQ_big hA hH h.nd h.lt sl np
  rw [h.fc] at fb
  have fcc : (fQ A H n m k Q).2 c = n + s := by rw [← h.fc, iv]
  refine ⟨fun o => ?_, fb, fun z => ?_, fun z => ?_⟩
  · have := h.no c o
    rw [fcc] at this
    have := h.sm
    unfold Oue at *
    omega
  · exact np ((fQ_fix hA hH h.nd h.lt sl).mp (h.fc.trans z))
  · have := (fQ_fix hA hH h.nd h.lt fb).mpr z
    rw [fcc] at this
    exact np (this ▸ z)
theorem Lp.half (hA : Pr (n + m) A) (hH : Pr (m + k) H) {Q : List Nat} {s c d q : Nat} (h : Lp A H n m k Q s c) (hcd : c = n + q ∧ d = n + m + q ∨ c = n + m + q ∧ d = n + q) (hq : q < m) (hs : q ≠ s) : q ∉ Q ∧ Lp A H n m k (Q ++ [q]) s (e0 A H n m k d) ∧ (fQ A H n m k (Q ++ [q])).1 = (fQ A H n m k Q).1 := by
  obtain ⟨a1, a2, a3, a4⟩ := h.at hA hH
  have sm := h.sm
  have iv := fQ_iv hA hH h.nd h.lt
  have ie := e0_iv hA hH
  have hin : q ∉ Q := fun z => a4 (pt_prs.mpr ⟨q, z, by rcases hcd with e | e; exact .inl e.1; exact .inr e.1⟩)
  have dl : d < n + 2 * m + k := by omega
  have dout : ¬ Oue n m k d := by unfold Oue; omega
  have dnin : ¬ Pt (prs n m Q) d := fun z => by
    rcases hcd with e | e
    · rw [e.2, pt_far h.lt hq] at z; exact hin z
    · rw [e.2, pt_near h.lt hq] at z; exact hin z
  have ynin : ¬ Pt (prs n m Q) (e0 A H n m k d) := fun z => by
    rcases h.cl _ z with o | o | o | o
    · rw [ie] at o; exact dout o
    · rw [ie] at o; exact dnin o
    · rw [ie] at o; omega
    · rw [ie] at o; omega
  obtain ⟨j, _, w⟩ := fQ_way hA hH h.nd h.lt dl dnin
  have fd : (fQ A H n m k Q).2 d = e0 A H n m k d := by
    generalize hz : (fQ A H n m k Q).2 d = z at w
    cases w with
    | stop _ => rfl
    | step g _ => exact absurd g.pt ynin
  have fcc : (fQ A H n m k Q).2 c = n + s := by rw [← h.fc, iv]
  have cd : ∀ y, y = n + q ∨ y = n + m + q ↔ y = c ∨ y = d := fun y => by omega
  have fd1 : e0 A H n m k d ≠ d := e0_ne hA hH dl
  refine ⟨hin, ⟨?_, sm, ?_, ?_, ?_, ?_, ?_, ?_, ?_⟩, ?_⟩
  · intro z
    rcases List.mem_append.mp z with z | z
    · exact h.sQ z
    · exact hs (List.mem_singleton.mp z).symm
  · rw [List.nodup_append]
    exact ⟨h.nd, by simp, fun a ha b hb e => by rw [List.mem_singleton] at hb; subst e; subst hb; exact hin ha⟩
  · intro x hx
    rcases List.mem_append.mp hx with z | z
    · exact h.lt x z
    · rw [List.mem_singleton.mp z]; exact hq
  · rw [fQ_snoc]
    rcases hcd with e | e
    · have := jn_a (a := n + q) (b := n + m + q) iv (x := n + s) (by omega) (by omega) (h.fc.trans e.1)
      rw [← e.2, fd] at this
      exact e.2 ▸ this
    · have := jn_b (a := n + q) (b := n + m + q) iv (x := n + s) (by omega) (by omega) (h.fc.trans e.1) (by rw [← e.1, fcc]; omega)
      rw [← e.2, fd] at this
      exact e.2 ▸ this
  · rw [ie]; exact .inl (pt_step.mpr (.inr ((cd d).mpr (.inr rfl))))
  · intro y hy
    rcases pt_step.mp hy with z | z
    · rcases h.cl y z with o | o | o | o
      · exact .inl o
      · exact .inr (.inl (pt_step.mpr (.inl o)))
      · exact .inr (.inr (.inl o))
      · rw [o]; exact .inr (.inl (pt_step.mpr (.inr ((cd c).mpr (.inl rfl)))))
    · rcases (cd y).mp z with z | z
      · rw [z]
        rcases h.c0 with o | o
        · exact .inr (.inl (pt_step.mpr (.inl o)))
        · exact .inr (.inr (.inl o))
      · rw [z]; exact .inr (.inr (.inr rfl))
  · rcases h.s0 with o | o
    · exact .inl (pt_step.mpr (.inl o))
    · rw [o]; exact .inl (pt_step.mpr (.inr ((cd c).mpr (.inl rfl))))
  · intro x hx
    rw [fQ_keep iv hq hx (h.no x hx)]
    exact h.no x hx
  · rw [fQ_snoc]
    show (if (fQ A H n m k Q).2 (n + q) = n + m + q then _ else _) = _
    rw [if_neg]
    intro z
    rcases hcd with e | e
    · rw [← e.1, fcc] at z; omega
    · have : (fQ A H n m k Q).2 (n + m + q) = n + q := by rw [← z, iv]
      rw [← e.1, fcc] at this; omega
/-- a ring is shut -/
theorem Lp.shut (hA : Pr (n + m) A) (hH : Pr (m + k) H) {Q : List Nat} {s : Nat} (h : Lp A H n m k Q s (n + m + s)) : (Q ++ [s]).Nodup ∧ (∀ q ∈ Q ++ [s], q < m) ∧ (fQ A H n m k (Q ++ [s])).1 = (fQ A H n m k Q).1 + 1 ∧ (∀ y, Pt (prs n m (Q ++ [s])) y → Oue n m k (e0 A H n m k y) ∨ Pt (prs n m (Q ++ [s])) (e0 A H n m k y)) ∧ ∀ x, Oue n m k x → Oue n m k ((fQ A H n m k (Q ++ [s])).2 x) := by
  have iv := fQ_iv hA hH h.nd h.lt
  refine ⟨?_, fun x hx => ?_, ?_, fun y hy => ?_, fun x hx => ?_⟩
  · rw [List.nodup_append]
    exact ⟨h.nd, by simp, fun a ha b hb e => by rw [List.mem_singleton] at hb; subst e; subst hb; exact h.sQ ha⟩
  · rcases List.mem_append.mp hx with z | z
    · exact h.lt x z
    · rw [List.mem_singleton.mp z]; exact h.sm
  · rw [fQ_snoc]
    exact if_pos h.fc
  · rcases pt_step.mp hy with z | z | z
    · rcases h.cl y z with o | o | o | o
      · exact .inl o
      · exact .inr (pt_step.mpr (.inl o))
      · rw [o]; exact .inr (pt_step.mpr (.inr (.inl rfl)))
      · rw [o]; exact .inr (pt_step.mpr (.inr (.inr rfl)))
    · rw [z]
      rcases h.s0 with o | o
      · exact .inr (pt_step.mpr (.inl o))
      · rw [o]; exact .inr (pt_step.mpr (.inr (.inr rfl)))
    · rw [z]
      rcases h.c0 with o | o
      · exact .inr (pt_step.mpr (.inl o))
      · rw [o]; exact .inr (pt_step.mpr (.inr (.inl rfl)))
  · rw [fQ_keep iv h.sm hx (h.no x hx)]
    exact h.no x hx
/-- along a loose ring -/
def lrW (A H : Nat → Nat) (n m : Nat) : Nat → Nat → List Bool → Option (List Bool)
  | 0, _, _ => none
  | f + 1, at_, ps => if bt ps at_ = true then some ps else if n ≤ A (n + at_) ∧ A (n + at_) < n + m ∧ H (A (n + at_) - n) < m then lrW A H n m f (H (A (n + at_) - n)) ((ps.set at_ true).set (A (n + at_) - n) true) else none
theorem lrW_e {A H : Nat → Nat} {n m f a : Nat} {ps : List Bool} : lrW A H n m (f + 1) a ps = if bt ps a = true then some ps else if n ≤ A (n + a) ∧ A (n + a) < n + m ∧ H (A (n + a) - n) < m then lrW A H n m f (H (A (n + a) - n)) ((ps.set a true).set (A (n + a) - n) true) else none := rfl
/-- the flags: those joined, and the first one of the ring -/
structure Fl (m : Nat) (Q : List Nat) (s : Nat) (ps : List Bool) : Prop where
  len : ps.length = m
  fl : ∀ q, bt ps q = true ↔ q ∈ Q ∨ q = s
theorem Fl.set {Q : List Nat} {s q : Nat} {ps : List Bool} (h : Fl m Q s ps) (hq : q < m) : Fl m (Q ++ [q]) s (ps.set q true) := by
  refine ⟨by rw [List.length_set, h.len], fun x => ?_⟩
  rw [bt_set (by rw [h.len]; exact hq)]
  by_cases c : x = q
  · subst c; simp
  · rw [if_neg c, h.fl]; simp [c]
theorem e0_near {a : Nat} (h : a < m) : e0 A H n m k (n + a) = A (n + a) := by
  unfold e0; rw [if_pos (by omega)]
theorem e0_far {a : Nat} (h : a < m) : e0 A H n m k (n + m + a) = n + m + H a := by
  unfold e0; rw [if_neg (by omega), if_pos (by omega), show n + m + a - (n + m) = a by omega]
theorem Lp.near (hA : Pr (n + m) A) (hH : Pr (m + k) H) {Q : List Nat} {s a : Nat} (ha : a < m) (h : Lp A H n m k Q s (e0 A H n m k (n + a))) : ∃ q, q < m ∧ q ≠ s ∧ A (n + a) = n + q ∧ e0 A H n m k (n + a) = n + q := by
  obtain ⟨a1, a2, a3, a4⟩ := h.at hA hH
  rw [e0_near ha] at a1 a2 a3 a4 ⊢
  have := (hA (n + a) (by omega)).1
  unfold Oue at a1
  exact ⟨A (n + a) - n, by omega, by omega, by omega, by omega⟩
theorem Lp.far (hA : Pr (n + m) A) (hH : Pr (m + k) H) {Q : List Nat} {s a : Nat} (ha : a < m) (h : Lp A H n m k Q s (e0 A H n m k (n + m + a))) : H a < m ∧ e0 A H n m k (n + m + a) = n + m + H a := by
  obtain ⟨a1, a2, a3, a4⟩ := h.at hA hH
  rw [e0_far ha] at a1 a2 a3 a4 ⊢
  unfold Oue at a1
  exact ⟨by omega, rfl⟩
theorem lrW_in (hA : Pr (n + m) A) (hH : Pr (m + k) H) {s : Nat} : ∀ (f a : Nat) (Q : List Nat) (ps : List Bool), Lp A H n m k Q s (n + m + a) → a < m → Fl m Q s ps → m + 1 ≤ Q.length + f → ∃ ps' R, lrW A H n m f a ps = some ps' ∧ Fl m (Q ++ R) s ps' ∧ Lp A H n m k (Q ++ R) s (n + m + s) ∧ (fQ A H n m k (Q ++ R)).1 = (fQ A H n m k Q).1
  | 0, a, Q, ps, h, ha, hf, hl => by
    have := nodup_len h.nd h.lt
    omega
  | f + 1, a, Q, ps, h, ha, hf, hl => by
    rw [lrW_e]
    by_cases c : a = s
    · subst c
      rw [if_pos ((hf.fl a).mpr (.inr rfl))]
      exact ⟨ps, [], rfl, by rw [List.append_nil]; exact hf, by rw [List.append_nil]; exact h, by rw [List.append_nil]⟩
    · obtain ⟨n1, h1, r1⟩ := h.half hA hH (d := n + a) (.inr ⟨rfl, rfl⟩) ha c
      obtain ⟨q, hq, qs, e1, e2⟩ := h1.near hA hH ha
      rw [e2] at h1
      obtain ⟨n2, h2, r2⟩ := h1.half hA hH (d := n + m + q) (.inl ⟨rfl, rfl⟩) hq qs
      obtain ⟨e3, e4⟩ := h2.far hA hH hq
      rw [e4] at h2
      have nf : ¬ bt ps a = true := fun z => by
        rcases (hf.fl a).mp z with z | z
        · exact n1 z
        · exact c z
      have e5 : A (n + a) - n = q := by omega
      rw [if_neg nf, e5, if_pos ⟨by omega, by omega, e3⟩]
      obtain ⟨ps', R, q1, q2, q3, q4⟩ := lrW_in hA hH f (H q) (Q ++ [a] ++ [q]) _ h2 e3 ((hf.set ha).set hq) (by simp only [List.length_append, List.length_singleton]; omega)
      have e : Q ++ [a] ++ [q] ++ R = Q ++ (a :: q :: R) := by simp
      rw [e] at q2 q3 q4
      exact ⟨ps', a :: q :: R, q1, q2, q3, by rw [q4, r2, r1]⟩
theorem lrW_ok (hA : Pr (n + m) A) (hH : Pr (m + k) H) {s : Nat} {Q : List Nat} {ps : List Bool} (h : Md A H n m k Q ps) (no : ∀ x, Oue n m k x → Oue n m k ((fQ A H n m k Q).2 x)) (hs : s < m) (hb : bt ps s = false) : ∃ ps' R, lrW A H n m (m + 2) s ps = some ps' ∧ Md A H n m k (Q ++ R) ps' ∧ (fQ A H n m k (Q ++ R)).1 = (fQ A H n m k Q).1 + 1 ∧ (∀ x, Oue n m k x → Oue n m k ((fQ A H n m k (Q ++ R)).2 x)) ∧ s ∈ Q ++ R := by
  have sQ : s ∉ Q := fun z => by rw [(h.sd.fl s).mpr z] at hb; cases hb
  have ie := e0_iv hA hH
  have sl : n + s < n + 2 * m + k := by omega
  have np : ¬ Pt (prs n m Q) (n + s) := by rw [pt_near h.sd.lt hs]; exact sQ
  have ynin : ¬ Pt (prs n m Q) (e0 A H n m k (n + s)) := fun z => by
    rcases h.cl _ z with o | o
    · rw [ie] at o; unfold Oue at o; omega
    · rw [ie] at o; exact np o
  have fd : (fQ A H n m k Q).2 (n + s) = e0 A H n m k (n + s) := by
    obtain ⟨j, _, w⟩ := fQ_way hA hH h.sd.nd h.sd.lt sl np
    generalize hz : (fQ A H n m k Q).2 (n + s) = z at w
    cases w with
    | stop _ => rfl
    | step g _ => exact absurd g.pt ynin
  have h0 : Lp A H n m k Q s (e0 A H n m k (n + s)) := ⟨sQ, hs, h.sd.nd, h.sd.lt, fd, .inr (ie _), fun y hy => by
    rcases h.cl y hy with z | z
    · exact .inl z
    · exact .inr (.inl z), .inr rfl, no⟩
  obtain ⟨q, hq, qs, e1, e2⟩ := h0.near hA hH hs
  rw [e2] at h0
  obtain ⟨n2, h2, r2⟩ := h0.half hA hH (d := n + m + q) (.inl ⟨rfl, rfl⟩) hq qs
  obtain ⟨e3, e4⟩ := h2.far hA hH hq
  rw [e4] at h2
  have f0 : Fl m Q s (ps.set s true) := by
    refine ⟨by rw [List.length_set, h.sd.len], fun x => ?_⟩
    rw [bt_set (by rw [h.sd.len]; exact hs)]
    by_cases c : x = s
    · subst c; simp
    · rw [if_neg c, h.sd.fl]; simp [c]
  obtain ⟨ps', R, q1, q2, q3, q4⟩ := lrW_in hA hH (m + 1) (H q) (Q ++ [q]) _ h2 e3 (f0.set hq) (by omega)
  obtain ⟨s1, s2, s3, s4, s5⟩ := q3.shut hA hH
  have e : Q ++ [q] ++ R ++ [s] = Q ++ (q :: R ++ [s]) := by simp
  rw [e] at s1 s2 s3 s4 s5
  refine ⟨ps', q :: R ++ [s], ?_, ⟨⟨s1, s2, q2.len, fun x => ?_⟩, s4⟩, by rw [s3, q4, r2], s5, by simp⟩
  · rw [show m + 2 = (m + 1) + 1 by omega, lrW_e, if_neg (by rw [hb]; simp), show A (n + s) - n = q by omega, if_pos ⟨by omega, by omega, e3⟩, q1]
  · rw [q2.fl, ← e]
    simp only [List.mem_append, List.mem_singleton]
end VS
set_option Elab.async false
set_option linter.all false
set_option maxRecDepth 100000
namespace VS
variable {A H : Nat → Nat} {n m k : Nat}
/-- rings and mates of the other one behind the one -/
def bhL (ra rh : List Nat) (n m k : Nat) : Nat × List Nat :=
  ((bhF (rowF ra) (rowF rh) n m k).1, (List.range (n + k)).map fun p => num n m ((bhF (rowF ra) (rowF rh) n m k).2 (xp n m p)))
theorem bhL_len (ra rh : List Nat) : (bhL ra rh n m k).2.length = n + k := by simp [bhL]
theorem bhL_get {ra rh : List Nat} {p : Nat} (h : p < n + k) : rowF (bhL ra rh n m k).2 p = num n m ((bhF (rowF ra) (rowF rh) n m k).2 (xp n m p)) := by
  show (List.map _ (List.range (n + k))).getD p 0 = _
  rw [List.getD_eq_getElem?_getD, List.getElem?_map, List.getElem?_range h]
  rfl
theorem bhF_out (hA : Pr (n + m) A) (hH : Pr (m + k) H) {x : Nat} (hx : Oue n m k x) : Oue n m k ((bhF A H n m k).2 x) ∧ (bhF A H n m k).2 x ≠ x ∧ (bhF A H n m k).2 ((bhF A H n m k).2 x) = x := by
  have hl : ∀ q ∈ List.range m, q < m := fun q hq => List.mem_range.mp hq
  have iv := fQ_iv hA hH List.nodup_range hl
  have xl : x < n + 2 * m + k := by unfold Oue at hx; omega
  have np := out_pt hl hx
  have f0 : (fQ A H n m k (List.range m)).2 x ≠ x := fun z => np ((fQ_fix hA hH List.nodup_range hl xl).mp z)
  have fb := fQ_big hA hH List.nodup_range hl xl np
  refine ⟨?_, f0, iv x⟩
  have np2 : ¬ Pt (prs n m (List.range m)) ((fQ A H n m k (List.range m)).2 x) := fun z => f0 (((fQ_fix hA hH List.nodup_range hl fb).mpr z).symm.trans (iv x))
  show Oue n m k ((fQ A H n m k (List.range m)).2 x)
  rw [pt_prs] at np2
  unfold Oue
  rcases Nat.lt_or_ge ((fQ A H n m k (List.range m)).2 x) n with q | q
  · exact .inl q
  · refine .inr ⟨?_, fb⟩
    rcases Nat.lt_or_ge ((fQ A H n m k (List.range m)).2 x) (n + 2 * m) with q2 | q2
    · exfalso
      apply np2
      rcases Nat.lt_or_ge ((fQ A H n m k (List.range m)).2 x) (n + m) with q3 | q3
      · exact ⟨(fQ A H n m k (List.range m)).2 x - n, List.mem_range.mpr (by omega), .inl (by omega)⟩
      · exact ⟨(fQ A H n m k (List.range m)).2 x - n - m, List.mem_range.mpr (by omega), .inr (by omega)⟩
    · exact q2
theorem xp_out {p : Nat} (h : p < n + k) : Oue n m k (xp n m p) := by unfold Oue xp; split <;> omega
theorem num_xp {z : Nat} (h : Oue n m k z) : num n m z < n + k ∧ xp n m (num n m z) = z := by
  unfold Oue at h
  by_cases c : z < n
  · have e : num n m z = z := if_pos c
    rw [e]
    exact ⟨by omega, if_pos c⟩
  · have e : num n m z = z - 2 * m := if_neg c
    rw [e]
    exact ⟨by omega, by unfold xp; rw [if_neg (by omega)]; omega⟩
theorem xp_num {p : Nat} : num n m (xp n m p) = p := by
  by_cases c : p < n
  · have e : xp n m p = p := if_pos c
    rw [e]; exact if_pos c
  · have e : xp n m p = p + 2 * m := if_neg c
    rw [e]; unfold num; rw [if_neg (by omega)]; omega
theorem bhL_pr {ra rh : List Nat} (hA : Pr (n + m) (rowF ra)) (hH : Pr (m + k) (rowF rh)) : Pr (n + k) (rowF (bhL ra rh n m k).2) := by
  intro p hp
  obtain ⟨h1, h2, h3⟩ := bhF_out hA hH (xp_out (m := m) hp)
  obtain ⟨h4, h5⟩ := num_xp h1
  rw [bhL_get hp]
  refine ⟨h4, fun z => h2 ?_, ?_⟩
  · rw [← h5, z]
  · rw [bhL_get h4, h5, h3, xp_num]
/-! ### a hook behind -/
theorem elL_shift (c : Nat) : ∀ (L : List (Nat × Nat)) (r : Nat) (e : Nat → Nat), elL (r + c, e) L = ((elL (r, e) L).1 + c, (elL (r, e) L).2)
  | [], r, e => rfl
  | p :: L, r, e => by
    show elL (el (r + c, e) p) L = ((elL (el (r, e) p) L).1 + c, (elL (el (r, e) p) L).2)
    have : el (r + c, e) p = ((el (r, e) p).1 + c, (el (r, e) p).2) := by
      unfold el
      refine Prod.ext ?_ rfl
      simp only []
      split <;> omega
    rw [this]
    exact elL_shift c L _ _
end VS
set_option Elab.async false
set_option linter.all false
set_option maxRecDepth 100000
namespace VS
/-! ### no two cross behind one another -/
theorem NC.app {α : Type} {f : α → α} {l r : List α} (h : NC f l) (h2 : NC f r) : NC f (l ++ r) := by
  induction h with
  | nil => exact h2
  | @cons l0 r0 a b e1 e2 _ ih =>
    have := NC.cons (l := l0) (r := r0 ++ r) e1 e2 (by simpa using ih)
    simpa using this
theorem NC.join0 {e : Nat → Nat} (iv : Iv e) {C : List Nat} (h : NC e C) : ∀ {a b : Nat} {R : List Nat}, C = a :: b :: R → C.Nodup → e a ≠ a → e b ≠ b → NC (jn a b e) R := by
  induction h with
  | nil => intro a b R h; cases h
  | @cons l r x y e1 e2 hn ih =>
    intro a b R h nd ha hb
    match l, h with
    | [], h =>
      obtain ⟨w1, w2⟩ := List.cons.inj h
      subst w1
      obtain ⟨w3, w4⟩ := List.cons.inj w2
      subst w3
      subst w4
      refine NC.congr (R := r) hn fun z hz => ?_
      have n1 : x ∉ y :: r := (List.nodup_cons.mp nd).1
      have n2 : y ∉ r := (List.nodup_cons.mp (List.nodup_cons.mp nd).2).1
      have z1 : z ≠ x := fun w => n1 (by rw [← w]; simp [hz])
      have z2 : z ≠ y := fun w => n2 (by rw [← w]; exact hz)
      refine jn_out iv z1 z2 (fun w => z2 ?_) (fun w => z1 ?_)
      · rw [← iv z, w, e1]
      · rw [← iv z, w, e2]
    | [a'], h =>
      obtain ⟨w1, w2⟩ := List.cons.inj h
      subst w1
      obtain ⟨w3, w4⟩ := List.cons.inj w2
      subst w3
      subst w4
      have n1 : a' ∉ x :: y :: r := (List.nodup_cons.mp nd).1
      have nd2 := (List.nodup_cons.mp nd).2
      have n2 : x ∉ y :: r := (List.nodup_cons.mp nd2).1
      have n3 : y ∉ r := (List.nodup_cons.mp (List.nodup_cons.mp nd2).2).1
      have ax : a' ≠ x := fun w => n1 (by simp [w])
      have ay : a' ≠ y := fun w => n1 (by simp [w])
      have xy : x ≠ y := fun w => n2 (by simp [w])
      have := NC.map (R := a' :: r) (g := jn a' x e) (fun z => if z = a' then y else z) hn (fun z hz => by
        have i1 := iv z; have i2 := iv a'; have i3 := iv x
        rcases List.mem_cons.mp hz with rfl | hz
        · rw [if_pos rfl, if_neg ha]
          unfold jn
          rw [if_neg (fun w => ay w.symm), if_neg (fun w => xy w.symm)]
          by_cases c : y = e z
          · rw [if_pos c, e1, ← c]
          · rw [if_neg c, if_pos e1.symm]
        · have za : z ≠ a' := fun w => n1 (by rw [← w]; simp [hz])
          have zx : z ≠ x := fun w => n2 (by rw [← w]; simp [hz])
          have zy : z ≠ y := fun w => n3 (by rw [← w]; exact hz)
          rw [if_neg za]
          unfold jn
          rw [if_neg za, if_neg zx]
          by_cases c : z = e a'
          · rw [if_pos c, e1, if_pos (by rw [c, i2])]
          · rw [if_neg c, if_neg (by rw [e1]; exact zy), if_neg (fun w => c (by rw [← w, i1]))])
      rw [List.map_cons, if_pos rfl] at this
      rw [show r.map (fun z => if z = a' then y else z) = r from by
        conv => rhs; rw [← List.map_id r]
        refine List.map_congr_left fun z hz => ?_
        rw [if_neg (fun w => n1 (by rw [← w]; simp [hz]))]; rfl] at this
      exact this
    | a' :: b' :: l', h =>
      obtain ⟨w1, w2⟩ := List.cons.inj h
      subst w1
      obtain ⟨w3, w4⟩ := List.cons.inj w2
      subst w3
      subst w4
      have nd1 : (a' :: b' :: (l' ++ r)).Nodup := by
        refine nd.sublist ?_
        refine List.Sublist.cons_cons _ (List.Sublist.cons_cons _ ?_)
        exact List.Sublist.append (List.Sublist.refl _) (List.Sublist.cons _ (List.Sublist.cons _ (List.Sublist.refl _)))
      have := ih (a := a') (b := b') (R := l' ++ r) (by simp) (by simpa using nd1) ha hb
      have nd0 : (a' :: b' :: (l' ++ x :: y :: r)).Nodup := by simpa using nd
      have n1 := (List.nodup_cons.mp nd0).1
      have n2 := (List.nodup_cons.mp (List.nodup_cons.mp nd0).2).1
      have xa : x ≠ a' := fun w => n1 (by simp [← w])
      have xb : x ≠ b' := fun w => n2 (by simp [← w])
      have ya : y ≠ a' := fun w => n1 (by simp [← w])
      have yb : y ≠ b' := fun w => n2 (by simp [← w])
      refine NC.cons (l := l') (r := r) ?_ ?_ this
      · rw [jn_out iv xa xb (by rw [e1]; exact ya) (by rw [e1]; exact yb), e1]
      · rw [jn_out iv ya yb (by rw [e2]; exact xa) (by rw [e2]; exact xb), e2]
theorem NC.join {e : Nat → Nat} (iv : Iv e) {L R : List Nat} {a b : Nat} (h : NC e (L ++ a :: b :: R)) (nd : (L ++ a :: b :: R).Nodup) (ha : e a ≠ a) (hb : e b ≠ b) : NC (jn a b e) (L ++ R) := by
  have h1 : NC e (a :: b :: (R ++ L)) := by
    have := NC.rot (l := L) (r := a :: b :: R) h
    simpa using this
  have n1 : (a :: b :: (R ++ L)).Nodup := by
    have : (L ++ a :: b :: R).Perm (a :: b :: (R ++ L)) := by
      have := List.perm_append_comm (l₁ := L) (l₂ := a :: b :: R)
      simpa using this
    exact this.nodup_iff.mp nd
  exact NC.rot (NC.join0 iv h1 rfl n1 ha hb)
/-- round about, behind j pairs -/
def circ (n m k j : Nat) : List Nat := List.range n ++ ((List.range (m - j)).reverse.map (fun i => n + j + i) ++ ((List.range (m - j)).map (fun i => n + m + j + i) ++ (List.range k).reverse.map (fun i => n + 2 * m + i)))
theorem circ_step {n m k j : Nat} (hj : j < m) : ∃ L R, circ n m k j = L ++ (n + j) :: (n + m + j) :: R ∧ circ n m k (j + 1) = L ++ R := by
  refine ⟨List.range n ++ (List.range (m - (j + 1))).reverse.map (fun i => n + (j + 1) + i), (List.range (m - (j + 1))).map (fun i => n + m + (j + 1) + i) ++ (List.range k).reverse.map (fun i => n + 2 * m + i), ?_, ?_⟩
  · unfold circ
    have e : m - j = (m - (j + 1)) + 1 := by omega
    have e1 : (List.range (m - j)).map (fun i => n + m + j + i) = (n + m + j) :: (List.range (m - (j + 1))).map (fun i => n + m + (j + 1) + i) := by
      rw [e, List.range_succ_eq_map, List.map_cons, List.map_map]
      congr 1
      refine List.map_congr_left fun i _ => ?_
      show n + m + j + (i + 1) = _
      omega
    have e2 : (List.range (m - j)).reverse.map (fun i => n + j + i) = (List.range (m - (j + 1))).reverse.map (fun i => n + (j + 1) + i) ++ [n + j] := by
      rw [e, List.range_succ_eq_map, List.reverse_cons, List.map_append, ← List.map_reverse, List.map_map]
      congr 1
      refine List.map_congr_left fun i _ => ?_
      show n + j + (i + 1) = _
      omega
    rw [e1, e2]
    simp
  · unfold circ
    simp
theorem circ_nodup (n m k j : Nat) (hj : j ≤ m) : (circ n m k j).Nodup := by
  have mp : ∀ (c N : Nat), ((List.range N).map fun i => c + i).Nodup := fun c N => by
    unfold List.Nodup
    rw [List.pairwise_map]
    exact List.nodup_range.imp fun h => by omega
  unfold circ
  rw [List.nodup_append]
  refine ⟨List.nodup_range, ?_, ?_⟩
  · rw [List.nodup_append]
    refine ⟨?_, ?_, ?_⟩
    · rw [List.map_reverse]; exact (List.reverse_perm _).nodup_iff.mpr (mp _ _)
    · rw [List.nodup_append]
      refine ⟨mp _ _, ?_, ?_⟩
      · rw [List.map_reverse]; exact (List.reverse_perm _).nodup_iff.mpr (mp _ _)
      · intro a ha b hb
        simp only [List.mem_map, List.mem_reverse, List.mem_range] at ha hb
        obtain ⟨i, hi, rfl⟩ := ha
        obtain ⟨i', hi', rfl⟩ := hb
        omega
    · intro a ha b hb
      simp only [List.mem_append, List.mem_map, List.mem_reverse, List.mem_range] at ha hb
      obtain ⟨i, hi, rfl⟩ := ha
      rcases hb with ⟨i', hi', rfl⟩ | ⟨i', hi', rfl⟩ <;> omega
  · intro a ha b hb
    simp only [List.mem_append, List.mem_map, List.mem_reverse, List.mem_range] at ha hb
    rcases hb with ⟨i', hi', rfl⟩ | ⟨i', hi', rfl⟩ | ⟨i', hi', rfl⟩ <;> omega
variable {n m k : Nat} {ra rh : List Nat}
theorem IsMat.pr {n m : Nat} {row : List Nat} (h : IsMat n m row) : Pr (n + m) (rowF row) := by
  intro p hp
  have hl := h.len
  have : row[p]? = some (rowF row p) := by
    unfold rowF
    rw [List.getD_eq_getElem?_getD, List.getElem?_eq_getElem (by omega)]; rfl
  obtain ⟨h1, h2, h3⟩ := h.lt p _ this
  refine ⟨h1, h2, ?_⟩
  show row.getD (rowF row p) 0 = p
  rw [List.getD_eq_getElem?_getD, h3]; rfl
theorem bh_circ (hA : IsMat n m ra) (hH : IsMat m k rh) : ∀ j, j ≤ m → NC (fQ (rowF ra) (rowF rh) n m k (List.range j)).2 (circ n m k j) := by
  have pA := hA.pr
  have pH := hH.pr
  intro j
  induction j with
  | zero =>
    intro _
    have e : circ n m k 0 = roundL n m ++ (roundL m k).map (fun i => n + m + i) := by
      unfold circ roundL
      rw [List.map_append, List.map_map, Nat.sub_zero]
      have e1 : (List.range m).reverse.map (fun i => n + 0 + i) = (List.range m).reverse.map (fun i => n + i) := List.map_congr_left fun i _ => by omega
      have e2 : (List.range m).map (fun i => n + m + 0 + i) = (List.range m).map (fun i => n + m + i) := List.map_congr_left fun i _ => by omega
      have e3 : (List.range k).reverse.map (fun i => n + 2 * m + i) = (List.range k).reverse.map ((fun i => n + m + i) ∘ fun i => m + i) := List.map_congr_left fun i _ => by show _ = n + m + (m + i); omega
      rw [e1, e2, e3]
      simp
    show NC (e0 (rowF ra) (rowF rh) n m k) _
    rw [e]
    refine NC.app ?_ ?_
    · refine NC.congr hA.nc fun x hx => ?_
      have := mem_roundL.mp hx
      unfold e0
      rw [if_pos this]; rfl
    · refine NC.map _ hH.nc fun x hx => ?_
      have := mem_roundL.mp hx
      show e0 _ _ _ _ _ (n + m + x) = n + m + rowF rh x
      unfold e0
      rw [if_neg (by omega), if_pos (by omega), show n + m + x - (n + m) = x by omega]
  | succ j ih =>
    intro hj
    have ih := ih (by omega)
    obtain ⟨L, R, e1, e2⟩ := circ_step (n := n) (k := k) (show j < m by omega)
    rw [e1] at ih
    rw [e2, List.range_succ, fQ_snoc]
    have hl : ∀ q ∈ List.range j, q < m := fun q hq => by have := List.mem_range.mp hq; omega
    have nd := circ_nodup n m k j (by omega)
    rw [e1] at nd
    refine NC.join (fQ_iv pA pH List.nodup_range hl) ih nd (fun z => ?_) (fun z => ?_)
    · have := (fQ_fix pA pH List.nodup_range hl (by omega)).mp z
      rw [pt_near hl (by omega)] at this
      exact absurd (List.mem_range.mp this) (by omega)
    · have := (fQ_fix pA pH List.nodup_range hl (by omega)).mp z
      rw [pt_far hl (by omega)] at this
      exact absurd (List.mem_range.mp this) (by omega)
/-- a mat behind a mat is a mat -/
theorem bh_mat (hA : IsMat n m ra) (hH : IsMat m k rh) (h0 : 0 < n + k) : IsMat n k (bhL ra rh n m k).2 := by
  have pA := hA.pr
  have pH := hH.pr
  have pr := bhL_pr pA pH
  refine ⟨h0, bhL_len _ _, fun i j h => ?_, ?_⟩
  · have hi : i < n + k := by
      have := (List.getElem?_eq_some_iff.mp h).1
      rwa [bhL_len] at this
    have ge : ∀ p, p < n + k → (bhL ra rh n m k).2[p]? = some (rowF (bhL ra rh n m k).2 p) := fun p hp => by
      unfold rowF
      rw [List.getD_eq_getElem?_getD, List.getElem?_eq_getElem (by rw [bhL_len]; exact hp)]; rfl
    obtain ⟨p1, p2, p3⟩ := pr i hi
    rw [ge i hi] at h
    have h := Option.some.inj h
    subst h
    exact ⟨p1, p2, by rw [ge _ p1, p3]⟩
  · have c := bh_circ hA hH m (Nat.le_refl _)
    have e : circ n m k m = (roundL n k).map (xp n m) := by
      unfold circ roundL
      rw [Nat.sub_self, List.map_append, List.map_map]
      simp only [List.range_zero, List.reverse_nil, List.map_nil, List.nil_append]
      congr 1
      · conv => lhs; rw [← List.map_id (List.range n)]
        refine List.map_congr_left fun i hi => ?_
        exact (if_pos (List.mem_range.mp hi)).symm
      · refine List.map_congr_left fun i _ => ?_
        show _ = xp n m (n + i)
        unfold xp
        rw [if_neg (by omega)]
        omega
    rw [e] at c
    have c2 := NC.map (g := fun i => (bhL ra rh n m k).2.getD i 0) (num n m) c fun x hx => by
      obtain ⟨p, hp, rfl⟩ := List.mem_map.mp hx
      have hp := mem_roundL.mp hp
      rw [xp_num]
      exact bhL_get hp
    rw [List.map_map] at c2
    rwa [show (roundL n k).map (num n m ∘ xp n m) = roundL n k from by
      conv => rhs; rw [← List.map_id (roundL n k)]
      refine List.map_congr_left fun p _ => ?_
      exact xp_num] at c2
end VS
set_option Elab.async false
set_option linter.all false
set_option maxRecDepth 100000
namespace VS
variable {n m k j : Nat} {row ra rb : List Nat}
theorem mat_of (h0 : 0 < n + m) (hl : row.length = n + m) (pr : Pr (n + m) (rowF row)) (nc : NC (rowF row) (roundL n m)) : IsMat n m row := by
  refine ⟨h0, hl, fun i x h => ?_, nc⟩
  have ge : ∀ p, p < n + m → row[p]? = some (rowF row p) := fun p hp => by
    unfold rowF
    rw [List.getD_eq_getElem?_getD, List.getElem?_eq_getElem (by rw [hl]; exact hp)]; rfl
  have hi : i < n + m := by
    have := (List.getElem?_eq_some_iff.mp h).1
    rwa [hl] at this
  obtain ⟨p1, p2, p3⟩ := pr i hi
  rw [ge i hi] at h
  have h := Option.some.inj h
  subst h
  exact ⟨p1, p2, by rw [ge _ p1, p3]⟩
theorem strR_mat (h : 0 < n) : IsMat n n (strR n) := by
  refine mat_of (by omega) (by rw [strR_len]; omega) (by have := (strR_pr n).2; rwa [show 2 * n = n + n by omega] at this) ?_
  have hl : (roundL n n).length = 2 * n := by simp [roundL]; omega
  refine (nested 0 n (roundL n n) hl).nc fun p hp => ?_
  obtain ⟨i, hi, rfl⟩ := List.mem_map.mp hp
  have hi := List.mem_range.mp hi
  have e1 : (roundL n n).getD i 0 = i := by
    unfold roundL
    rw [List.getD_eq_getElem?_getD, List.getElem?_append_left (by simpa using hi), List.getElem?_range hi]; rfl
  have e2 : (roundL n n).getD ((roundL n n).length - 1 - i) 0 = n + i := by
    rw [hl]
    unfold roundL
    rw [List.getD_eq_getElem?_getD, List.getElem?_append_right (by simp; omega), List.getElem?_map, List.length_range, List.getElem?_reverse (by simp; omega), List.length_range, List.getElem?_range (by omega)]
    simp
    omega
  simp only [e1, e2]
  rw [strR_get (by omega), strR_get (by omega), if_pos hi, if_neg (by omega)]
  exact ⟨rfl, by omega⟩
theorem IsMat.prR (h : IsMat n n row) : PrR n row := ⟨by rw [h.len]; omega, by have := h.pr; rwa [show n + n = 2 * n by omega] at this⟩
/-- above and below exchanged -/
def upF (n m x : Nat) : Nat := if n ≤ x then x - n else x + m
def upsR (n m : Nat) (row : List Nat) : List Nat := (row.map (upF n m)).drop n ++ (row.map (upF n m)).take n
/-- the one on the left of the other -/
def beA (n k x : Nat) : Nat := if x < n then x else x + k
def beB (n m k x : Nat) : Nat := if x < k then x + n else x + n + m
def besR (n m k : Nat) (ra rb : List Nat) : List Nat := (ra.map (beA n k)).take n ++ (rb.map (beB n m k)).take k ++ (ra.map (beA n k)).drop n ++ (rb.map (beB n m k)).drop k
end VS
set_option Elab.async false
set_option linter.all false
set_option maxRecDepth 100000
namespace VS
/-! ### the same joining under other names -/
structure Rlb (S : Nat → Prop) (φ : Nat → Nat) (e e' : Nat → Nat) : Prop where
  inj : ∀ x y, S x → S y → φ x = φ y → x = y
  cl : ∀ x, S x → S (e x)
  at_ : ∀ x, S x → e' (φ x) = φ (e x)
def mapP2 (φ : Nat → Nat) (L : List (Nat × Nat)) : List (Nat × Nat) := L.map fun p => (φ p.1, φ p.2)
theorem jn_rlb {S : Nat → Prop} {φ e e' : Nat → Nat} {a b : Nat} (h : Rlb S φ e e') (ha : S a) (hb : S b) : Rlb S φ (jn a b e) (jn (φ a) (φ b) e') := by
  refine ⟨h.inj, fun x hx => ?_, fun x hx => ?_⟩
  · unfold jn
    split
    · exact ha
    · split
      · exact hb
      · split
        · exact h.cl b hb
        · split
          · exact h.cl a ha
          · exact h.cl x hx
  · have i1 : φ x = φ a ↔ x = a := ⟨h.inj x a hx ha, fun z => by rw [z]⟩
    have i2 : φ x = φ b ↔ x = b := ⟨h.inj x b hx hb, fun z => by rw [z]⟩
    have i3 : φ x = φ (e a) ↔ x = e a := ⟨h.inj x _ hx (h.cl a ha), fun z => by rw [z]⟩
    have i4 : φ x = φ (e b) ↔ x = e b := ⟨h.inj x _ hx (h.cl b hb), fun z => by rw [z]⟩
    unfold jn
    rw [h.at_ a ha, h.at_ b hb, h.at_ x hx]
    simp only [i1, i2, i3, i4]
    split
    · rfl
    · split
      · rfl
      · split
        · rfl
        · split <;> rfl
theorem elL_rlb {S : Nat → Prop} {φ : Nat → Nat} : ∀ (L : List (Nat × Nat)) (r : Nat) (e e' : Nat → Nat), Rlb S φ e e' → (∀ p ∈ L, S p.1 ∧ S p.2) → (elL (r, e') (mapP2 φ L)).1 = (elL (r, e) L).1 ∧ (∀ x, S x → (elL (r, e') (mapP2 φ L)).2 (φ x) = φ ((elL (r, e) L).2 x)) ∧ ∀ z, (∀ x, S x → z ≠ φ x) → (elL (r, e') (mapP2 φ L)).2 z = e' z
  | [], r, e, e', h, _ => ⟨rfl, fun x hx => h.at_ x hx, fun z _ => rfl⟩
  | p :: L, r, e, e', h, hp => by
    obtain ⟨h1, h2⟩ := hp p (by simp)
    have j := jn_rlb h h1 h2
    have e1 : el (r, e') (φ p.1, φ p.2) = ((el (r, e) p).1, jn (φ p.1) (φ p.2) e') := by
      refine Prod.ext ?_ rfl
      show (if e' (φ p.1) = φ p.2 then r + 1 else r) = if e p.1 = p.2 then r + 1 else r
      rw [h.at_ _ h1]
      by_cases c : e p.1 = p.2
      · rw [if_pos c, if_pos (by rw [c])]
      · rw [if_neg c, if_neg fun z => c (h.inj _ _ (h.cl _ h1) h2 z)]
    have e2 : el (r, e) p = ((el (r, e) p).1, jn p.1 p.2 e) := rfl
    obtain ⟨q1, q2, q3⟩ := elL_rlb L (el (r, e) p).1 _ _ j fun q hq => hp q (by simp [hq])
    have t1 : elL (r, e') (mapP2 φ (p :: L)) = elL ((el (r, e) p).1, jn (φ p.1) (φ p.2) e') (mapP2 φ L) := by
      show elL (el (r, e') (φ p.1, φ p.2)) (mapP2 φ L) = _
      rw [e1]
    have t2 : elL (r, e) (p :: L) = elL ((el (r, e) p).1, jn p.1 p.2 e) L := rfl
    rw [t1, t2]
    refine ⟨q1, q2, fun z hz => ?_⟩
    rw [q3 z hz]
    unfold jn
    rw [if_neg (hz _ h1), if_neg (hz _ h2), h.at_ _ h1, h.at_ _ h2, if_neg (hz _ (h.cl _ h1)), if_neg (hz _ (h.cl _ h2))]
/-! ### three mats behind one another, either way -/
section
variable {n m k j : Nat} {ra rb rc : List Nat}
/-- the strings of all three -/
def e3 (ra rb rc : List Nat) (n m k j : Nat) (x : Nat) : Nat := if x < n + 2 * m + k then e0 (rowF ra) (rowF rb) n m k x else if x < n + 2 * m + 2 * k + j then n + 2 * m + k + rowF rc (x - (n + 2 * m + k)) else x
theorem e3_iv (hA : Pr (n + m) (rowF ra)) (hB : Pr (m + k) (rowF rb)) (hC : Pr (k + j) (rowF rc)) : Iv (e3 ra rb rc n m k j) := by
  intro x
  have h1 := e0_iv hA hB x
  unfold e3
  by_cases c1 : x < n + 2 * m + k
  · have := e0_lt hA hB c1
    rw [if_pos c1, if_pos this, h1]
  · rw [if_neg c1]
    by_cases c2 : x < n + 2 * m + 2 * k + j
    · have := hC (x - (n + 2 * m + k)) (by omega)
      rw [if_pos c2, if_neg (by omega), if_pos (by omega), show n + 2 * m + k + rowF rc (x - (n + 2 * m + k)) - (n + 2 * m + k) = rowF rc (x - (n + 2 * m + k)) by omega, this.2.2]
      omega
    · rw [if_neg c2, if_neg c1, if_neg c2]
theorem e3_ne (hA : Pr (n + m) (rowF ra)) (hB : Pr (m + k) (rowF rb)) (hC : Pr (k + j) (rowF rc)) {x : Nat} (h : x < n + 2 * m + 2 * k + j) : e3 ra rb rc n m k j x ≠ x := by
  unfold e3
  by_cases c1 : x < n + 2 * m + k
  · rw [if_pos c1]; exact e0_ne hA hB c1
  · have := hC (x - (n + 2 * m + k)) (by omega)
    rw [if_neg c1, if_pos h]; omega
def P1 (n m : Nat) : List (Nat × Nat) := prs n m (List.range m)
def P2 (n m k : Nat) : List (Nat × Nat) := prs (n + 2 * m) k (List.range k)
theorem P12_ok (hA : Pr (n + m) (rowF ra)) (hB : Pr (m + k) (rowF rb)) (hC : Pr (k + j) (rowF rc)) : OkL (e3 ra rb rc n m k j) (P1 n m ++ P2 n m k) := by
  refine ⟨e3_iv hA hB hC, ?_, fun p hp => ?_⟩
  · have w : ∀ a b, (prs a b (List.range b)).Pairwise Ap := fun a b => by
      unfold prs
      rw [List.pairwise_map]
      refine List.Pairwise.imp_of_mem ?_ List.nodup_range
      intro x y hx hy hxy
      have h1 := List.mem_range.mp hx
      have h2 := List.mem_range.mp hy
      refine ⟨?_, ?_, ?_, ?_⟩ <;> simp only [] <;> omega
    unfold P1 P2
    rw [List.pairwise_append]
    refine ⟨w n m, w (n + 2 * m) k, fun a ha b hb => ?_⟩
    obtain ⟨q, hq, rfl⟩ := prs_mem.mp ha
    obtain ⟨q', hq', rfl⟩ := prs_mem.mp hb
    have h1 := List.mem_range.mp hq
    have h2 := List.mem_range.mp hq'
    refine ⟨?_, ?_, ?_, ?_⟩ <;> simp only [] <;> omega
  · rcases List.mem_append.mp hp with h | h
    · obtain ⟨q, hq, rfl⟩ := prs_mem.mp h
      have h1 := List.mem_range.mp hq
      exact ⟨by simp only []; omega, e3_ne hA hB hC (by simp only []; omega), e3_ne hA hB hC (by simp only []; omega)⟩
    · obtain ⟨q, hq, rfl⟩ := prs_mem.mp h
      have h1 := List.mem_range.mp hq
      exact ⟨by simp only []; omega, e3_ne hA hB hC (by simp only []; omega), e3_ne hA hB hC (by simp only []; omega)⟩
theorem mapP2_prs (φ : Nat → Nat) (n m n' m' : Nat) (Q : List Nat) (h : ∀ q ∈ Q, φ (n + q) = n' + q ∧ φ (n + m + q) = n' + m' + q) : mapP2 φ (prs n m Q) = prs n' m' Q := by
  unfold mapP2 prs
  rw [List.map_map]
  refine List.map_congr_left fun q hq => ?_
  obtain ⟨h1, h2⟩ := h q hq
  show (φ (n + q), φ (n + m + q)) = _
  rw [h1, h2]
theorem mapP2_id (L : List (Nat × Nat)) : mapP2 (fun x => x) L = L := by
  unfold mapP2
  rw [show (fun p : Nat × Nat => (p.1, p.2)) = id from rfl, List.map_id]
/-- first the one behind the other, then the third -/
theorem way_left (hA : Pr (n + m) (rowF ra)) (hB : Pr (m + k) (rowF rb)) (hC : Pr (k + j) (rowF rc)) :
    (elL (0, e3 ra rb rc n m k j) (P1 n m ++ P2 n m k)).1 = (bhL ra rb n m k).1 + (bhL (bhL ra rb n m k).2 rc n k j).1 ∧ ∀ p, p < n + j → rowF (bhL (bhL ra rb n m k).2 rc n k j).2 p = (fun z => if z < n then z else z - 2 * m - 2 * k) ((elL (0, e3 ra rb rc n m k j) (P1 n m ++ P2 n m k)).2 (if p < n then p else p + 2 * m + 2 * k)) := by
  have hAB := bhL_pr hA hB
  have r1 : Rlb (fun x => x < n + 2 * m + k) (fun x => x) (e0 (rowF ra) (rowF rb) n m k) (e3 ra rb rc n m k j) := ⟨fun x y _ _ h => h, fun x hx => e0_lt hA hB hx, fun x hx => by unfold e3; rw [if_pos hx]⟩
  obtain ⟨a1, a2, a3⟩ := elL_rlb (P1 n m) 0 _ _ r1 (fun p hp => by
    obtain ⟨q, hq, rfl⟩ := prs_mem.mp hp
    have h1 := List.mem_range.mp hq
    exact ⟨by simp only []; omega, by simp only []; omega⟩)
  rw [mapP2_id] at a1 a2 a3
  obtain ⟨f1, hf1⟩ : ∃ f1, f1 = (elL (0, e3 ra rb rc n m k j) (P1 n m)).2 := ⟨_, rfl⟩
  rw [← hf1] at a2 a3
  have R : (elL (0, e3 ra rb rc n m k j) (P1 n m)).1 = (bhL ra rb n m k).1 := a1
  have bo := fun {x} h => bhF_out hA hB (x := x) h
  have r2 : Rlb (fun x => x < n + 2 * k + j) (xp n m) (e0 (rowF (bhL ra rb n m k).2) (rowF rc) n k j) f1 := by
    refine ⟨fun x y _ _ h => by rw [← xp_num (n := n) (m := m) (p := x), h, xp_num], fun x hx => e0_lt hAB hC hx, fun x hx => ?_⟩
    by_cases c : x < n + k
    · have ox := xp_out (m := m) c
      have e1 : e0 (rowF (bhL ra rb n m k).2) (rowF rc) n k j x = num n m ((bhF (rowF ra) (rowF rb) n m k).2 (xp n m x)) := by
        unfold e0
        rw [if_pos c, bhL_get c]
      rw [e1, (num_xp (bo ox).1).2]
      exact a2 _ (by unfold Oue at ox; omega)
    · have e1 : e0 (rowF (bhL ra rb n m k).2) (rowF rc) n k j x = n + k + rowF rc (x - (n + k)) := by
        unfold e0
        rw [if_neg c, if_pos hx]
      have e2 : xp n m x = x + 2 * m := by unfold xp; rw [if_neg (by omega)]
      rw [e1, e2, a3 _ fun y hy => by omega]
      have e3' : xp n m (n + k + rowF rc (x - (n + k))) = n + k + rowF rc (x - (n + k)) + 2 * m := by unfold xp; rw [if_neg (by omega)]
      rw [e3']
      unfold e3
      rw [if_neg (by omega), if_pos (by omega), show x + 2 * m - (n + 2 * m + k) = x - (n + k) by omega]
      omega
  obtain ⟨b1, b2, _⟩ := elL_rlb (prs n k (List.range k)) (elL (0, e3 ra rb rc n m k j) (P1 n m)).1 _ _ r2 (fun p hp => by
    obtain ⟨q, hq, rfl⟩ := prs_mem.mp hp
    have h1 := List.mem_range.mp hq
    exact ⟨by simp only []; omega, by simp only []; omega⟩)
  rw [mapP2_prs (xp n m) n k (n + 2 * m) k _ (fun q hq => by
    have h1 := List.mem_range.mp hq
    constructor
    · unfold xp; rw [if_neg (by omega)]; omega
    · unfold xp; rw [if_neg (by omega)]; omega)] at b1 b2
  have tot : elL (0, e3 ra rb rc n m k j) (P1 n m ++ P2 n m k) = elL ((elL (0, e3 ra rb rc n m k j) (P1 n m)).1, f1) (prs (n + 2 * m) k (List.range k)) := by
    rw [elL_app, hf1]; rfl
  rw [tot]
  have sh := elL_shift (elL (0, e3 ra rb rc n m k j) (P1 n m)).1 (prs n k (List.range k)) 0 (e0 (rowF (bhL ra rb n m k).2) (rowF rc) n k j)
  rw [Nat.zero_add] at sh
  rw [sh] at b1 b2
  refine ⟨?_, fun p hp => ?_⟩
  · rw [b1, R, Nat.add_comm]; rfl
  · have ox := xp_out (n := n) (m := k) (k := j) hp
    rw [bhL_get hp]
    have e4 : (if p < n then p else p + 2 * m + 2 * k) = xp n m (xp n k p) := by
      unfold xp
      by_cases c : p < n
      · rw [if_pos c, if_pos c, if_pos c]
      · rw [if_neg c, if_neg c, if_neg (by omega)]; omega
    rw [e4, b2 _ (by unfold Oue at ox; omega)]
    have oz := (bhF_out hAB hC ox).1
    show num n k ((bhF _ _ n k j).2 (xp n k p)) = (fun z => if z < n then z else z - 2 * m - 2 * k) (xp n m ((bhF _ _ n k j).2 (xp n k p)))
    generalize (bhF (rowF (bhL ra rb n m k).2) (rowF rc) n k j).2 (xp n k p) = z at oz
    unfold Oue at oz
    unfold num xp
    simp only []
    by_cases c : z < n
    · rw [if_pos c, if_pos c, if_pos c]
    · rw [if_neg c, if_neg c, if_neg (by omega)]; omega
/-- first the third behind the other, then all behind the one -/
theorem way_right (hA : Pr (n + m) (rowF ra)) (hB : Pr (m + k) (rowF rb)) (hC : Pr (k + j) (rowF rc)) :
    (elL (0, e3 ra rb rc n m k j) (P2 n m k ++ P1 n m)).1 = (bhL rb rc m k j).1 + (bhL ra (bhL rb rc m k j).2 n m j).1 ∧ ∀ p, p < n + j → rowF (bhL ra (bhL rb rc m k j).2 n m j).2 p = (fun z => if z < n then z else z - 2 * m - 2 * k) ((elL (0, e3 ra rb rc n m k j) (P2 n m k ++ P1 n m)).2 (if p < n then p else p + 2 * m + 2 * k)) := by
  have hBC := bhL_pr hB hC
  have r1 : Rlb (fun x => x < m + 2 * k + j) (fun x => n + m + x) (e0 (rowF rb) (rowF rc) m k j) (e3 ra rb rc n m k j) := by
    refine ⟨fun x y _ _ h => by omega, fun x hx => e0_lt hB hC hx, fun x hx => ?_⟩
    unfold e3 e0
    by_cases c : x < m + k
    · rw [if_pos (by omega), if_neg (by omega), if_pos (by omega), if_pos c, show n + m + x - (n + m) = x by omega]
    · rw [if_neg (by omega), if_pos (by omega), if_neg c, if_pos hx, show n + m + x - (n + 2 * m + k) = x - (m + k) by omega]
      omega
  obtain ⟨a1, a2, a3⟩ := elL_rlb (prs m k (List.range k)) 0 _ _ r1 (fun p hp => by
    obtain ⟨q, hq, rfl⟩ := prs_mem.mp hp
    have h1 := List.mem_range.mp hq
    exact ⟨by simp only []; omega, by simp only []; omega⟩)
  rw [mapP2_prs (fun x => n + m + x) m k (n + 2 * m) k _ (fun q hq => by
    constructor <;> omega)] at a1 a2 a3
  obtain ⟨f1, hf1⟩ : ∃ f1, f1 = (elL (0, e3 ra rb rc n m k j) (P2 n m k)).2 := ⟨_, rfl⟩
  have R : (elL (0, e3 ra rb rc n m k j) (P2 n m k)).1 = (bhL rb rc m k j).1 := a1
  have a2 : ∀ x, x < m + 2 * k + j → f1 (n + m + x) = n + m + (bhF (rowF rb) (rowF rc) m k j).2 x := fun x hx => by rw [hf1]; exact a2 x hx
  have a3 : ∀ z, (∀ x, x < m + 2 * k + j → z ≠ n + m + x) → f1 z = e3 ra rb rc n m k j z := fun z hz => by rw [hf1]; exact a3 z hz
  have bo := fun {x} h => bhF_out hB hC (x := x) h
  obtain ⟨χ, hχ⟩ : ∃ χ : Nat → Nat, χ = fun q => if q < n + 2 * m then q else q + 2 * k := ⟨_, rfl⟩
  have χ1 : ∀ q, q < n + 2 * m → χ q = q := fun q hq => by rw [hχ]; exact if_pos hq
  have χ2 : ∀ q, ¬ q < n + 2 * m → χ q = q + 2 * k := fun q hq => by rw [hχ]; exact if_neg hq
  have χx : ∀ p, χ (n + m + p) = n + m + xp m k p := fun p => by
    unfold xp
    by_cases c : p < m
    · rw [if_pos c, χ1 _ (by omega)]
    · rw [if_neg c, χ2 _ (by omega)]; omega
  have r2 : Rlb (fun x => x < n + 2 * m + j) χ (e0 (rowF ra) (rowF (bhL rb rc m k j).2) n m j) f1 := by
    refine ⟨fun x y _ _ h => ?_, fun x hx => e0_lt hA hBC hx, fun x hx => ?_⟩
    · by_cases c1 : x < n + 2 * m
      · by_cases c2 : y < n + 2 * m
        · rwa [χ1 x c1, χ1 y c2] at h
        · rw [χ1 x c1, χ2 y c2] at h; omega
      · by_cases c2 : y < n + 2 * m
        · rw [χ2 x c1, χ1 y c2] at h; omega
        · rw [χ2 x c1, χ2 y c2] at h; omega
    · by_cases c : x < n + m
      · have hx2 := hA x c
        have e1 : e0 (rowF ra) (rowF (bhL rb rc m k j).2) n m j x = rowF ra x := by unfold e0; rw [if_pos c]
        rw [e1, χ1 x (by omega), χ1 _ (by omega), a3 x fun y hy => by omega]
        unfold e3 e0
        rw [if_pos (by omega), if_pos c]
      · obtain ⟨p, hp⟩ : ∃ p, x = n + m + p := ⟨x - (n + m), by omega⟩
        subst hp
        have hp : p < m + j := by omega
        have ox := xp_out (m := k) hp
        have e1 : e0 (rowF ra) (rowF (bhL rb rc m k j).2) n m j (n + m + p) = n + m + num m k ((bhF (rowF rb) (rowF rc) m k j).2 (xp m k p)) := by
          unfold e0
          rw [if_neg (by omega), if_pos (by omega), show n + m + p - (n + m) = p by omega, bhL_get hp]
        rw [e1, χx, χx, (num_xp (bo ox).1).2, a2 _ (by unfold Oue at ox; omega)]
  obtain ⟨b1, b2, _⟩ := elL_rlb (P1 n m) (elL (0, e3 ra rb rc n m k j) (P2 n m k)).1 _ _ r2 (fun p hp => by
    obtain ⟨q, hq, rfl⟩ := prs_mem.mp hp
    have h1 := List.mem_range.mp hq
    exact ⟨by simp only []; omega, by simp only []; omega⟩)
  have em : mapP2 χ (P1 n m) = P1 n m := mapP2_prs χ n m n m _ fun q hq => by
    have h1 := List.mem_range.mp hq
    exact ⟨χ1 _ (by omega), χ1 _ (by omega)⟩
  rw [em] at b1 b2
  have tot : elL (0, e3 ra rb rc n m k j) (P2 n m k ++ P1 n m) = elL ((elL (0, e3 ra rb rc n m k j) (P2 n m k)).1, f1) (P1 n m) := by
    rw [elL_app, hf1]
  rw [tot]
  have sh := elL_shift (elL (0, e3 ra rb rc n m k j) (P2 n m k)).1 (P1 n m) 0 (e0 (rowF ra) (rowF (bhL rb rc m k j).2) n m j)
  rw [Nat.zero_add] at sh
  rw [sh] at b1 b2
  refine ⟨?_, fun p hp => ?_⟩
  · rw [b1, R, Nat.add_comm]; rfl
  · have ox := xp_out (n := n) (m := m) (k := j) hp
    rw [bhL_get hp]
    have e4 : (if p < n then p else p + 2 * m + 2 * k) = χ (xp n m p) := by
      unfold xp
      by_cases c : p < n
      · rw [if_pos c, if_pos c, χ1 _ (by omega)]
      · rw [if_neg c, if_neg c, χ2 _ (by omega)]
    rw [e4, b2 _ (by unfold Oue at ox; omega)]
    have oz := (bhF_out hA hBC ox).1
    show num n m ((bhF _ _ n m j).2 (xp n m p)) = (fun z => if z < n then z else z - 2 * m - 2 * k) (χ ((bhF _ _ n m j).2 (xp n m p)))
    generalize (bhF (rowF ra) (rowF (bhL rb rc m k j).2) n m j).2 (xp n m p) = z at oz
    unfold Oue at oz
    unfold num
    simp only []
    by_cases c : z < n
    · rw [if_pos c, χ1 _ (by omega), if_pos c]
    · rw [if_neg c, χ2 _ (by omega), if_neg (by omega)]; omega
theorem bh_assoc (hA : Pr (n + m) (rowF ra)) (hB : Pr (m + k) (rowF rb)) (hC : Pr (k + j) (rowF rc)) :
    (bhL ra rb n m k).1 + (bhL (bhL ra rb n m k).2 rc n k j).1 = (bhL rb rc m k j).1 + (bhL ra (bhL rb rc m k j).2 n m j).1 ∧ (bhL (bhL ra rb n m k).2 rc n k j).2 = (bhL ra (bhL rb rc m k j).2 n m j).2 := by
  obtain ⟨l1, l2⟩ := way_left hA hB hC
  obtain ⟨r1, r2⟩ := way_right hA hB hC
  have p := elL_perm (s := (0, e3 ra rb rc n m k j)) (List.perm_append_comm (l₁ := P1 n m) (l₂ := P2 n m k)) (P12_ok hA hB hC)
  rw [p] at l1 l2
  refine ⟨by rw [← l1, ← r1], row_ext (N := n + j) (bhL_len _ _) (bhL_len _ _) fun q hq => by rw [l2 q hq, r2 q hq]⟩
end
end VS
set_option Elab.async false
set_option linter.all false
namespace VS
/-! how many mats there can be: by the words of opening and shutting -/
def wdS (f : Nat → Nat) : List Nat → List Nat → List Bool
  | _, [] => []
  | S, x :: R => match S with
    | y :: S' => if f x = y then false :: wdS f S' R else true :: wdS f (x :: y :: S') R
    | [] => true :: wdS f [x] R
def shS (f : Nat → Nat) : List Nat → List Nat → List Nat
  | S, [] => S
  | S, x :: R => match S with
    | y :: S' => if f x = y then shS f S' R else shS f (x :: y :: S') R
    | [] => shS f [x] R
def dy : Nat → Nat → List (List Bool)
  | h, 0 => if h = 0 then [[]] else []
  | 0, n + 1 => (dy 1 n).map (true :: ·)
  | h + 1, n + 1 => (dy (h + 2) n).map (true :: ·) ++ (dy h n).map (false :: ·)
theorem wd_inj {f g : Nat → Nat} : ∀ (R S : List Nat), (∀ x ∈ R, f (f x) = x ∧ g (g x) = x) → shS f S R = [] → shS g S R = [] → wdS f S R = wdS g S R → ∀ z, z ∈ S ∨ z ∈ R → f z = g z
  | [], S, _, h, _, _, z, hz => by
    have : S = [] := h
    subst this
    simp at hz
  | x :: R, [], hv, h, h2, e, z, hz => by
    have e' : wdS f [x] R = wdS g [x] R := by simpa [wdS] using e
    refine wd_inj R [x] (fun u hu => hv u (by simp [hu])) h h2 e' z ?_
    simpa using hz
  | x :: R, y :: S, hv, h, h2, e, z, hz => by
    have vx := hv x (by simp)
    simp only [shS] at h h2
    simp only [wdS] at e
    by_cases c : f x = y
    · by_cases c2 : g x = y
      · rw [if_pos c] at h e
        rw [if_pos c2] at h2 e
        have ih := wd_inj R S (fun u hu => hv u (by simp [hu])) h h2 (by simpa using e) z
        have fy : f y = x := by rw [← c]; exact vx.1
        have gy : g y = x := by rw [← c2]; exact vx.2
        rcases hz with hz | hz
        · rcases List.mem_cons.mp hz with rfl | hz
          · rw [fy, gy]
          · exact ih (.inl hz)
        · rcases List.mem_cons.mp hz with rfl | hz
          · rw [c, c2]
          · exact ih (.inr hz)
      · rw [if_pos c, if_neg c2] at e
        simp at e
    · by_cases c2 : g x = y
      · rw [if_neg c, if_pos c2] at e
        simp at e
      · rw [if_neg c] at h e
        rw [if_neg c2] at h2 e
        refine wd_inj R (x :: y :: S) (fun u hu => hv u (by simp [hu])) h h2 (by simpa using e) z ?_
        rcases hz with hz | hz
        · exact .inl (List.mem_cons_of_mem _ hz)
        · rcases List.mem_cons.mp hz with rfl | hz
          · exact .inl (by simp)
          · exact .inr hz
/-- what does not cross shuts -/
theorem sh_red (f : Nat → Nat) : ∀ (R S : List Nat), shS f S R = red f S R
  | [], S => rfl
  | x :: R, [] => by
    show shS f [x] R = red f (push f [] x) R
    rw [sh_red f R [x]]; rfl
  | x :: R, y :: S => by
    rw [red_cons, push_cons]
    simp only [shS]
    by_cases c : f x = y
    · rw [if_pos c, if_pos c.symm]; exact sh_red f R S
    · rw [if_neg c, if_neg (fun e => c e.symm)]; exact sh_red f R (x :: y :: S)
theorem sh_nc {f : Nat → Nat} {R : List Nat} (h : NC f R) (nd : R.Nodup) : shS f [] R = [] := by
  rw [sh_red]; exact h.red nd
theorem len_sub {α : Type} [DecidableEq α] : ∀ {xs ys : List α}, xs.Nodup → (∀ x ∈ xs, x ∈ ys) → xs.length ≤ ys.length
  | [], _, _, _ => Nat.zero_le _
  | x :: xs, ys, nd, h => by
    obtain ⟨n1, n2⟩ := List.nodup_cons.mp nd
    have hx := h x (by simp)
    have := len_sub (ys := ys.erase x) n2 fun y hy => by
      have hne : y ≠ x := fun e => n1 (by rw [← e]; exact hy)
      exact (List.mem_erase_of_ne hne).mpr (h y (by simp [hy]))
    rw [List.length_erase_of_mem hx] at this
    have : 0 < ys.length := List.length_pos_of_mem hx
    simp only [List.length_cons]
    omega
/-- the word of a mat -/
def wdM (n m : Nat) (row : List Nat) : List Bool := wdS (rowF row) [] (roundL n m)
theorem wdM_inj {n m : Nat} {r q : List Nat} (h : IsMat n m r) (h2 : IsMat n m q) (e : wdM n m r = wdM n m q) : r = q := by
  have key := wd_inj (roundL n m) [] (fun x hx => ⟨(h.pr x (mem_roundL.mp hx)).2.2, (h2.pr x (mem_roundL.mp hx)).2.2⟩) (sh_nc h.nc (roundL_nodup n m)) (sh_nc h2.nc (roundL_nodup n m)) e
  apply List.ext_getElem (by rw [h.len, h2.len])
  intro i hi _
  have := key i (.inr (mem_roundL.mpr (by rw [← h.len]; exact hi)))
  unfold rowF at this
  simp only [List.getD_eq_getElem?_getD] at this
  rwa [List.getElem?_eq_getElem hi, List.getElem?_eq_getElem] at this
end VS
set_option Elab.async false
set_option linter.all false
namespace VS
/-! the straight one ahead; how many rings at most -/
theorem bh_left {n : Nat} {rb : List Nat} (hB : PrR n rb) : bhL (strR n) rb n n n = (0, rb) := by
  have hB2 : Pr (n + n) (rowF rb) := by have := hB.2; rwa [show 2 * n = n + n by omega] at this
  have hS := (strR_pr n).2
  have hS2 : Pr (n + n) (rowF (strR n)) := by rwa [show 2 * n = n + n by omega] at hS
  have hl : ∀ q ∈ List.range n, q < n := fun q hq => List.mem_range.mp hq
  have near : ∀ q, q < n → e0 (rowF (strR n)) (rowF rb) n n n (n + q) = q := fun q hq => by
    unfold e0
    rw [if_pos (by omega), strR_get (by omega), if_neg (by omega)]; omega
  have top : ∀ q, q < n → e0 (rowF (strR n)) (rowF rb) n n n q = n + q := fun q hq => by
    unfold e0
    rw [if_pos (by omega), strR_get (by omega), if_pos hq]
  have oth : ∀ c, c < n + n → e0 (rowF (strR n)) (rowF rb) n n n (n + n + c) = n + n + rowF rb c := fun c hc => by
    unfold e0
    rw [if_neg (by omega), if_pos (by omega), show n + n + c - (n + n) = c by omega]
  have cnt : ∀ j, j ≤ n → (fQ (rowF (strR n)) (rowF rb) n n n (List.range j)).1 = 0 ∧ ∀ q, j ≤ q → q < n → (fQ (rowF (strR n)) (rowF rb) n n n (List.range j)).2 (n + q) = q := by
    intro j
    induction j with
    | zero => intro _; exact ⟨rfl, fun q _ hq => near q hq⟩
    | succ j ih =>
      intro hj
      obtain ⟨i1, i2⟩ := ih (by omega)
      have iv := fQ_iv hS2 hB2 (Q := List.range j) List.nodup_range (fun q hq => by have := List.mem_range.mp hq; omega)
      rw [List.range_succ, fQ_snoc]
      have fj := i2 j (Nat.le_refl _) (by omega)
      refine ⟨?_, fun q h1 h2 => ?_⟩
      · show (if (fQ (rowF (strR n)) (rowF rb) n n n (List.range j)).2 (n + j) = n + n + j then _ else _) = 0
        rw [if_neg (by omega), i1]
      · have fq := i2 q (by omega) h2
        show jn _ _ _ _ = _
        rw [jn_out iv (by simp only []; omega) (by simp only []; omega) (by simp only []; omega) (by simp only []; omega), fq]
  refine Prod.ext (cnt n (Nat.le_refl _)).1 (row_ext (N := n + n) (bhL_len _ _) (by rw [hB.1]; omega) fun p hp => ?_)
  rw [bhL_get hp]
  have ox := xp_out (m := n) hp
  have xl : xp n n p < n + 2 * n + n := by unfold Oue at ox; omega
  obtain ⟨j, _, w⟩ := fQ_way hS2 hB2 (Q := List.range n) List.nodup_range hl xl (out_pt hl ox)
  have fin : ∀ {j y w}, Oue n n n y → Wl (e0 (rowF (strR n)) (rowF rb) n n n) (prs n n (List.range n)) j y w → w = y := fun {j y w} ho h => by
    cases h with
    | stop _ => rfl
    | step g _ => exact absurd g.pt (out_pt hl ho)
  have stp : ∀ {j q c d w}, q < n → (c = n + q ∧ d = n + n + q ∨ c = n + n + q ∧ d = n + q) → Wl (e0 (rowF (strR n)) (rowF rb) n n n) (prs n n (List.range n)) j c w → ∃ j', Wl (e0 (rowF (strR n)) (rowF rb) n n n) (prs n n (List.range n)) j' (e0 (rowF (strR n)) (rowF rb) n n n d) w := fun {j q c d w} hq hcd h => by
    cases h with
    | stop z => exact absurd (pt_prs.mpr ⟨q, List.mem_range.mpr hq, by omega⟩) z
    | @step j' _ z _ g w =>
      have : z = d := by
        rcases g with g | g
        · obtain ⟨q', hq', e⟩ := prs_mem.mp g
          have := hl q' hq'
          have e1 := (Prod.mk.inj e).1
          have e2 := (Prod.mk.inj e).2
          omega
        · obtain ⟨q', hq', e⟩ := prs_mem.mp g
          have := hl q' hq'
          have e1 := (Prod.mk.inj e).1
          have e2 := (Prod.mk.inj e).2
          omega
      exact ⟨j', this ▸ w⟩
  -- from a string of the other on
  have one : ∀ {j c w}, c < n + n → Wl (e0 (rowF (strR n)) (rowF rb) n n n) (prs n n (List.range n)) j (n + n + c) w → num n n w = c := fun {j c w} hc h => by
    by_cases c1 : c < n
    · obtain ⟨j', h⟩ := stp (q := c) c1 (.inr ⟨rfl, rfl⟩) h
      rw [near _ c1] at h
      rw [fin (.inl c1) h]; exact if_pos c1
    · rw [fin (.inr ⟨by omega, by omega⟩) h]
      unfold num
      rw [if_neg (by omega)]; omega
  have w : Wl (e0 (rowF (strR n)) (rowF rb) n n n) (prs n n (List.range n)) j (e0 (rowF (strR n)) (rowF rb) n n n (xp n n p)) ((bhF (rowF (strR n)) (rowF rb) n n n).2 (xp n n p)) := w
  by_cases c : p < n
  · have e1 : xp n n p = p := if_pos c
    rw [e1] at w ⊢
    rw [top _ c] at w
    obtain ⟨j', w⟩ := stp (q := p) c (.inl ⟨rfl, rfl⟩) w
    rw [oth _ hp] at w
    exact one (hB2 p hp).1 w
  · have e1 : xp n n p = n + n + p := by unfold xp; rw [if_neg c]; omega
    rw [e1] at w ⊢
    rw [oth _ hp] at w
    exact one (hB2 p hp).1 w
theorem el_le (s : Nat × (Nat → Nat)) (p : Nat × Nat) : (el s p).1 ≤ s.1 + 1 := by
  unfold el
  simp only []
  split <;> omega
theorem elL_le : ∀ (L : List (Nat × Nat)) (s : Nat × (Nat → Nat)), (elL s L).1 ≤ s.1 + L.length
  | [], s => Nat.le_refl _
  | p :: L, s => by
    have := elL_le L (el s p)
    have := el_le s p
    show (elL (el s p) L).1 ≤ _
    simp only [List.length_cons]
    omega
theorem bhL_le (ra rh : List Nat) (n m k : Nat) : (bhL ra rh n m k).1 ≤ m := by
  have := elL_le (prs n m (List.range m)) (0, e0 (rowF ra) (rowF rh) n m k)
  show (elL _ _).1 ≤ m
  rw [show (prs n m (List.range m)).length = m by unfold prs; simp] at this
  omega
end VS
set_option Elab.async false
set_option linter.all false
namespace VS
/-! labels of joined ends -/
def lk (L : Nat → Nat) (p : Nat × Nat) (x : Nat) : Nat := if L x = L p.2 then L p.1 else L x
def lkL (L : Nat → Nat) (l : List (Nat × Nat)) : Nat → Nat := l.foldl lk L
/-- the strings told one by one: which ends have one label -/
structure LS (N : Nat) (e : Nat → Nat) (done : List Nat) (L : Nat → Nat) : Prop where
  iff_ : ∀ p q, p < N → q < N → (L p = L q ↔ p = q ∨ (q = e p ∧ (p ∈ done ∨ q ∈ done)))
theorem LS.step {N : Nat} {e : Nat → Nat} (hp : Pr N e) {done : List Nat} {L : Nat → Nat} (h : LS N e done L) (hd : ∀ d ∈ done, d < e d) {a : Nat} (ha : a < N) (hae : a < e a) (hn : a ∉ done) : LS N e (done ++ [a]) (lk L (a, e a)) := by
  obtain ⟨b1, b2, b3⟩ := hp a ha
  have hb : e a ∉ done := fun z => by have := hd _ z; rw [b3] at this; omega
  -- the other end is alone
  have al : ∀ p, p < N → (L p = L (e a) ↔ p = e a) := fun p hpn => by
    rw [h.iff_ p (e a) hpn b1]
    constructor
    · rintro (z | ⟨z, w⟩)
      · exact z
      · have : p = a := by rw [← b3, z, (hp p hpn).2.2]
        subst this
        rcases w with w | w
        · exact absurd w hn
        · exact absurd w hb
    · exact .inl
  have al2 : ∀ p, p < N → (L p = L a ↔ p = a) := fun p hpn => by
    rw [h.iff_ p a hpn ha]
    constructor
    · rintro (z | ⟨z, w⟩)
      · exact z
      · have : p = e a := by rw [z, (hp p hpn).2.2]
        subst this
        rcases w with w | w
        · exact absurd w hb
        · exact absurd w hn
    · exact .inl
  refine ⟨fun p q hpn hqn => ?_⟩
  unfold lk
  simp only
  have e1 := al p hpn
  have e2 := al q hqn
  have f1 := al2 p hpn
  have f2 := al2 q hqn
  have g := h.iff_ p q hpn hqn
  have ep := hp p hpn
  have eq := hp q hqn
  have mm : ∀ x, x ∈ done ++ [a] ↔ x ∈ done ∨ x = a := fun x => by simp
  rw [mm, mm]
  by_cases c1 : p = e a
  · rw [if_pos (e1.mpr c1)]
    by_cases c2 : q = e a
    · rw [if_pos (e2.mpr c2)]
      exact ⟨fun _ => .inl (by rw [c1, c2]), fun _ => rfl⟩
    · rw [if_neg (fun z => c2 (e2.mp z))]
      constructor
      · intro z
        have : q = a := f2.mp z.symm
        subst this
        exact .inr ⟨by rw [c1, b3], .inr (.inr rfl)⟩
      · rintro (z | ⟨z, w⟩)
        · exact absurd (by rw [← z, c1]) c2
        · have : q = a := by rw [z, c1, b3]
          rw [this]
  · rw [if_neg (fun z => c1 (e1.mp z))]
    by_cases c2 : q = e a
    · rw [if_pos (e2.mpr c2)]
      constructor
      · intro z
        have : p = a := f1.mp z
        subst this
        exact .inr ⟨c2, .inl (.inr rfl)⟩
      · rintro (z | ⟨z, w⟩)
        · exact absurd (by rw [z, c2]) c1
        · have : p = a := by rw [← ep.2.2, ← z, c2, b3]
          rw [this]
    · rw [if_neg (fun z => c2 (e2.mp z)), g]
      constructor
      · rintro (z | ⟨z, w | w⟩)
        · exact .inl z
        · exact .inr ⟨z, .inl (.inl w)⟩
        · exact .inr ⟨z, .inr (.inl w)⟩
      · rintro (z | ⟨z, (w | w) | (w | w)⟩)
        · exact .inl z
        · exact .inr ⟨z, .inl w⟩
        · exact absurd (by rw [z, w]) c2
        · exact .inr ⟨z, .inr w⟩
        · have : p = e a := by rw [← w, z, ep.2.2]
          exact absurd this c1
theorem LS.all {N : Nat} {e : Nat → Nat} (hp : Pr N e) : ∀ (l done : List Nat) (L : Nat → Nat), LS N e done L → (∀ d ∈ done, d < e d) → (∀ a ∈ l, a < N ∧ a < e a) → (done ++ l).Nodup → LS N e (done ++ l) (lkL L (l.map fun a => (a, e a)))
  | [], done, L, h, _, _, _ => by rw [List.append_nil]; exact h
  | a :: l, done, L, h, hd, hl, nd => by
    have na : a ∉ done := fun z => by
      rw [List.nodup_append] at nd
      exact nd.2.2 a z a (by simp) rfl
    have st := h.step hp hd (hl a (by simp)).1 (hl a (by simp)).2 na
    have := LS.all hp l (done ++ [a]) _ st (fun d hdd => by
      rcases List.mem_append.mp hdd with z | z
      · exact hd d z
      · rw [List.mem_singleton.mp z]; exact (hl a (by simp)).2) (fun x hx => hl x (by simp [hx])) (by rw [List.append_assoc]; exact nd)
    rw [List.append_assoc] at this
    exact this
/-- all strings told -/
theorem LS.full {N : Nat} {e : Nat → Nat} (hp : Pr N e) : ∀ p q, p < N → q < N → (lkL id (((List.range N).filter fun a => decide (a < e a)).map fun a => (a, e a)) p = lkL id (((List.range N).filter fun a => decide (a < e a)).map fun a => (a, e a)) q ↔ p = q ∨ q = e p) := by
  have h := LS.all hp ((List.range N).filter fun a => decide (a < e a)) [] id ⟨fun p q _ _ => by simp⟩ (by simp) (fun a ha => by
    obtain ⟨h1, h2⟩ := List.mem_filter.mp ha
    exact ⟨List.mem_range.mp h1, of_decide_eq_true h2⟩) (by rw [List.nil_append]; exact List.nodup_range.sublist List.filter_sublist)
  intro p q hpn hqn
  rw [h.iff_ p q hpn hqn]
  obtain ⟨p1, p2, p3⟩ := hp p hpn
  constructor
  · rintro (z | ⟨z, _⟩)
    · exact .inl z
    · exact .inr z
  · rintro (z | z)
    · exact .inl z
    · refine .inr ⟨z, ?_⟩
      rw [List.nil_append]
      rcases Nat.lt_or_gt_of_ne p2 with c | c
      · refine .inr (List.mem_filter.mpr ⟨List.mem_range.mpr hqn, decide_eq_true ?_⟩)
        rw [z, p3]; exact c
      · exact .inl (List.mem_filter.mpr ⟨List.mem_range.mpr hpn, decide_eq_true c⟩)
/-- the labels while ends are joined: R is of the shut rings -/
structure LJ (N : Nat) (L : Nat → Nat) (r : Nat) (e : Nat → Nat) (U : Nat → Prop) (R : List Nat) : Prop where
  iff_ : ∀ x y, x < N → y < N → U x → U y → (L x = L y ↔ x = y ∨ y = e x)
  cl : ∀ x, x < N → U x → e x < N ∧ U (e x) ∧ e x ≠ x ∧ e (e x) = x
  nd : R.Nodup
  len : R.length = r
  rg : ∀ v ∈ R, (∃ p, p < N ∧ L p = v) ∧ ∀ x, x < N → U x → L x ≠ v
  ot : ∀ p, p < N → L p ∈ R ∨ ∃ x, x < N ∧ U x ∧ L x = L p
theorem LJ.step {N : Nat} {L : Nat → Nat} {r : Nat} {e : Nat → Nat} {U : Nat → Prop} {R : List Nat} (h : LJ N L r e U R) {a b : Nat} (ha : a < N) (hb : b < N) (ua : U a) (ub : U b) (hab : a ≠ b) : ∃ R', LJ N (lk L (a, b)) (el (r, e) (a, b)).1 (el (r, e) (a, b)).2 (fun x => U x ∧ x ≠ a ∧ x ≠ b) R' := by
  obtain ⟨ca1, ca2, ca3, ca4⟩ := h.cl a ha ua
  obtain ⟨cb1, cb2, cb3, cb4⟩ := h.cl b hb ub
  have out : ∀ x, x ≠ a → x ≠ b → jn a b e x = if x = e a then e b else if x = e b then e a else e x := fun x h1 h2 => by
    unfold jn; rw [if_neg h1, if_neg h2]
  by_cases c : e a = b
  · have eb : e b = a := by rw [← c, ca4]
    have lab : L a = L b := (h.iff_ a b ha hb ua ub).mpr (.inr c.symm)
    have eL : lk L (a, b) = L := by
      funext x
      unfold lk
      by_cases z : L x = L b
      · simp only; rw [if_pos z, lab, z]
      · simp only; rw [if_neg z]
    have er : (el (r, e) (a, b)).1 = r + 1 := by unfold el; simp only; rw [if_pos c]
    have ee : ∀ x, x ≠ a → x ≠ b → (el (r, e) (a, b)).2 x = e x := fun x h1 h2 => by
      show jn a b e x = e x
      rw [out x h1 h2, c, eb, if_neg h2, if_neg h1]
    rw [eL, er]
    refine ⟨L a :: R, ?_, ?_, ?_, ?_, ?_, ?_⟩
    · rintro x y hx hy ⟨u1, u2, u3⟩ ⟨v1, _, _⟩
      rw [ee x u2 u3]
      exact h.iff_ x y hx hy u1 v1
    · rintro x hx ⟨u1, u2, u3⟩
      obtain ⟨d1, d2, d3, d4⟩ := h.cl x hx u1
      have n1 : e x ≠ a := fun z => u3 (by rw [← c, ← z, d4])
      have n2 : e x ≠ b := fun z => u2 (by rw [← eb, ← z, d4])
      rw [ee x u2 u3]
      exact ⟨d1, ⟨d2, n1, n2⟩, d3, by rw [ee _ n1 n2, d4]⟩
    · exact List.nodup_cons.mpr ⟨fun z => (h.rg _ z).2 a ha ua rfl, h.nd⟩
    · rw [List.length_cons, h.len]
    · intro v hv
      rcases List.mem_cons.mp hv with rfl | hv
      · refine ⟨⟨a, ha, rfl⟩, ?_⟩
        rintro x hx ⟨u1, u2, u3⟩ z
        rcases (h.iff_ a x ha hx ua u1).mp z.symm with w | w
        · exact u2 w.symm
        · exact u3 (by rw [w, c])
      · exact ⟨(h.rg v hv).1, fun x hx u => (h.rg v hv).2 x hx u.1⟩
    · intro p hp
      rcases h.ot p hp with z | ⟨x, hx, ux, z⟩
      · exact .inl (List.mem_cons_of_mem _ z)
      · by_cases c1 : x = a
        · exact .inl (by rw [← z, c1]; simp)
        · by_cases c2 : x = b
          · exact .inl (by rw [← z, c2, ← lab]; simp)
          · exact .inr ⟨x, hx, ⟨ux, c1, c2⟩, z⟩
  · have cb : e b ≠ a := fun z => c (by rw [← z, cb4])
    have lab : L a ≠ L b := fun z => by
      rcases (h.iff_ a b ha hb ua ub).mp z with w | w
      · exact hab w
      · exact c w.symm
    have er : (el (r, e) (a, b)).1 = r := by unfold el; simp only; rw [if_neg c]
    have eab : e a ≠ e b := fun z => hab (by rw [← ca4, z, cb4])
    have ee : ∀ x, x ≠ a → x ≠ b → (el (r, e) (a, b)).2 x = if x = e a then e b else if x = e b then e a else e x := out
    have la : ∀ x, x < N → U x → (L x = L a ↔ x = a ∨ x = e a) := fun x hx ux => by
      rw [eq_comm, h.iff_ a x ha hx ua ux]
      constructor
      · rintro (z | z)
        · exact .inl z.symm
        · exact .inr z
      · rintro (z | z)
        · exact .inl z.symm
        · exact .inr z
    have lb : ∀ x, x < N → U x → (L x = L b ↔ x = b ∨ x = e b) := fun x hx ux => by
      rw [eq_comm, h.iff_ b x hb hx ub ux]
      constructor
      · rintro (z | z)
        · exact .inl z.symm
        · exact .inr z
      · rintro (z | z)
        · exact .inl z.symm
        · exact .inr z
    rw [er]
    refine ⟨R, ?_, ?_, h.nd, h.len, ?_, ?_⟩
    · rintro x y hx hy ⟨u1, u2, u3⟩ ⟨v1, v2, v3⟩
      rw [ee x u2 u3]
      have x1 := la x hx u1
      have x2 := lb x hx u1
      have y1 := la y hy v1
      have y2 := lb y hy v1
      have xy := h.iff_ x y hx hy u1 v1
      unfold lk
      simp only
      by_cases p1 : x = e b
      · have q1 : x ≠ e a := fun z => eab (by rw [← z, p1])
        rw [if_pos (x2.mpr (.inr p1)), if_neg q1, if_pos p1]
        by_cases p2 : y = e b
        · rw [if_pos (y2.mpr (.inr p2))]
          exact ⟨fun _ => .inl (by rw [p1, p2]), fun _ => rfl⟩
        · rw [if_neg (fun z => (y2.mp z).elim v3 p2), eq_comm, y1]
          constructor
          · rintro (z | z)
            · exact absurd z v2
            · exact .inr z
          · rintro (z | z)
            · exact absurd (by rw [← z, p1]) p2
            · exact .inr z
      · rw [if_neg (fun z => (x2.mp z).elim u3 p1)]
        by_cases p2 : y = e b
        · rw [if_pos (y2.mpr (.inr p2)), x1]
          by_cases p3 : x = e a
          · rw [if_pos p3]
            exact ⟨fun _ => .inr p2, fun _ => .inr p3⟩
          · rw [if_neg p3, if_neg p1]
            constructor
            · rintro (z | z)
              · exact absurd z u2
              · exact absurd z p3
            · rintro (z | z)
              · exact absurd (by rw [z, p2]) p1
              · exfalso
                have : x = b := by rw [← (h.cl x hx u1).2.2.2, ← z, p2, cb4]
                exact u3 this
        · rw [if_neg (fun z => (y2.mp z).elim v3 p2)]
          by_cases p3 : x = e a
          · rw [if_pos p3, xy]
            constructor
            · rintro (z | z)
              · exact .inl z
              · exact absurd (by rw [z, p3, ca4]) v2
            · rintro (z | z)
              · exact .inl z
              · exact absurd z p2
          · rw [if_neg p3, if_neg p1]
            exact xy
    · rintro x hx ⟨u1, u2, u3⟩
      obtain ⟨d1, d2, d3, d4⟩ := h.cl x hx u1
      by_cases p1 : x = e a
      · have e1 : (el (r, e) (a, b)).2 x = e b := by rw [ee x u2 u3, if_pos p1]
        have n3 : e b ≠ e a := fun z => eab z.symm
        have e2 : (el (r, e) (a, b)).2 (e b) = e a := by rw [ee _ cb cb3, if_neg n3, if_pos rfl]
        rw [e1]
        exact ⟨cb1, ⟨cb2, cb, cb3⟩, fun z => n3 (by rw [z, p1]), by rw [e2, p1]⟩
      · by_cases p2 : x = e b
        · have e1 : (el (r, e) (a, b)).2 x = e a := by rw [ee x u2 u3, if_neg p1, if_pos p2]
          have e2 : (el (r, e) (a, b)).2 (e a) = e b := by rw [ee _ ca3 c, if_pos rfl]
          rw [e1]
          exact ⟨ca1, ⟨ca2, ca3, c⟩, fun z => p1 z.symm, by rw [e2, p2]⟩
        · have e1 : (el (r, e) (a, b)).2 x = e x := by rw [ee x u2 u3, if_neg p1, if_neg p2]
          have n1 : e x ≠ a := fun z => p1 (by rw [← z, d4])
          have n2 : e x ≠ b := fun z => p2 (by rw [← z, d4])
          have n3 : e x ≠ e a := fun z => u2 (by rw [← d4, z, ca4])
          have n4 : e x ≠ e b := fun z => u3 (by rw [← d4, z, cb4])
          rw [e1]
          exact ⟨d1, ⟨d2, n1, n2⟩, d3, by rw [ee _ n1 n2, if_neg n3, if_neg n4, d4]⟩
    · intro v hv
      obtain ⟨⟨p, hp, e1⟩, e2⟩ := h.rg v hv
      have va : L a ≠ v := e2 a ha ua
      have vb : L b ≠ v := e2 b hb ub
      refine ⟨⟨p, hp, ?_⟩, ?_⟩
      · unfold lk
        simp only
        rw [if_neg (by rw [e1]; exact fun z => vb z.symm), e1]
      · rintro x hx ⟨u1, _, _⟩
        unfold lk
        simp only
        split
        · exact va
        · exact e2 x hx u1
    · intro p hp
      unfold lk
      simp only
      have vis : ∀ x, x < N → U x → L x = L a ∨ L x = L b → ∃ y, y < N ∧ (U y ∧ y ≠ a ∧ y ≠ b) ∧ (if L y = L b then L a else L y) = L a := fun x hx ux hxx => by
        refine ⟨e a, ca1, ⟨ca2, ca3, c⟩, ?_⟩
        have : L (e a) = L a := (la _ ca1 ca2).mpr (.inr rfl)
        rw [this, if_neg lab]
      by_cases z : L p = L b
      · rw [if_pos z]
        exact .inr (vis b hb ub (.inr rfl))
      · rw [if_neg z]
        by_cases z2 : L p = L a
        · rw [z2]
          exact .inr (vis a ha ua (.inl rfl))
        · rcases h.ot p hp with w | ⟨x, hx, ux, w⟩
          · exact .inl w
          · refine .inr ⟨x, hx, ⟨ux, fun q => z2 (by rw [← w, q]), fun q => z (by rw [← w, q])⟩, ?_⟩
            rw [w, if_neg z]
end VS
set_option Elab.async false
set_option linter.all false
namespace VS
theorem LJ.cong {N : Nat} {L : Nat → Nat} {r : Nat} {e : Nat → Nat} {U V : Nat → Prop} {R : List Nat} (h : LJ N L r e U R) (q : ∀ x, U x ↔ V x) : LJ N L r e V R := by
  have : U = V := funext fun x => propext (q x)
  rw [← this]; exact h
theorem LJ.all {N : Nat} : ∀ (l : List (Nat × Nat)) {L : Nat → Nat} {r : Nat} {e : Nat → Nat} {U : Nat → Prop} {R : List Nat}, LJ N L r e U R → (∀ p ∈ l, p.1 < N ∧ p.2 < N ∧ U p.1 ∧ U p.2 ∧ p.1 ≠ p.2) → l.Pairwise Ap → ∃ R', LJ N (lkL L l) (elL (r, e) l).1 (elL (r, e) l).2 (fun x => U x ∧ ¬ Pt l x) R'
  | [], L, r, e, U, R, h, _, _ => ⟨R, h.cong fun x => ⟨fun u => ⟨u, fun ⟨p, hp, _⟩ => by cases hp⟩, fun u => u.1⟩⟩
  | (a, b) :: l, L, r, e, U, R, h, hl, pw => by
    obtain ⟨h1, h2, h3, h4, h5⟩ := hl (a, b) (by simp)
    obtain ⟨R1, s⟩ := h.step h1 h2 h3 h4 h5
    obtain ⟨p1, p2⟩ := List.pairwise_cons.mp pw
    obtain ⟨R2, t⟩ := LJ.all l (L := lk L (a, b)) (r := (el (r, e) (a, b)).1) (e := (el (r, e) (a, b)).2) s (fun p hp => by
      obtain ⟨g1, g2, g3, g4, g5⟩ := hl p (by simp [hp])
      have ap := p1 p hp
      unfold Ap at ap
      simp only at ap
      refine ⟨g1, g2, ⟨g3, ?_, ?_⟩, ⟨g4, ?_, ?_⟩, g5⟩ <;> intro z <;> simp [z] at ap) p2
    refine ⟨R2, ?_⟩
    show LJ N (lkL (lk L (a, b)) l) (elL (el (r, e) (a, b)) l).1 (elL (el (r, e) (a, b)) l).2 _ R2
    refine t.cong fun x => ?_
    unfold Pt
    constructor
    · rintro ⟨⟨u, n1, n2⟩, n3⟩
      refine ⟨u, ?_⟩
      rintro ⟨p, hp, z⟩
      rcases List.mem_cons.mp hp with rfl | hp
      · rcases z with z | z
        · exact n1 z
        · exact n2 z
      · exact n3 ⟨p, hp, z⟩
    · rintro ⟨u, n⟩
      exact ⟨⟨u, fun z => n ⟨(a, b), by simp, .inl z⟩, fun z => n ⟨(a, b), by simp, .inr z⟩⟩, fun ⟨p, hp, z⟩ => n ⟨p, by simp [hp], z⟩⟩
theorem LJ.start {N : Nat} {e : Nat → Nat} (hp : Pr N e) : LJ N (lkL id (((List.range N).filter fun a => decide (a < e a)).map fun a => (a, e a))) 0 e (fun _ => True) [] :=
  ⟨fun x y hx hy _ _ => LS.full hp x y hx hy, fun x hx _ => ⟨(hp x hx).1, trivial, (hp x hx).2.1, (hp x hx).2.2⟩, .nil, rfl, (fun v hv => by cases hv), fun p hpn => .inr ⟨p, hpn, trivial, rfl⟩⟩
theorem len_same {α : Type} [DecidableEq α] {xs ys : List α} (h1 : xs.Nodup) (h2 : ys.Nodup) (h : ∀ v, v ∈ xs ↔ v ∈ ys) : xs.length = ys.length :=
  Nat.le_antisymm (len_sub h1 fun x hx => (h x).mp hx) (len_sub h2 fun x hx => (h x).mpr hx)
/-- how many labels there are: those of the rings and those of the unjoined -/
theorem LJ.count {N : Nat} {L : Nat → Nat} {r : Nat} {e : Nat → Nat} {U : Nat → Prop} {R : List Nat} (h : LJ N L r e U R) {K : List Nat} (hK : ∀ x, x ∈ K ↔ x < N ∧ U x) {l1 l2 : List Int} (n1 : l1.Nodup) (n2 : l2.Nodup) (m1 : ∀ v, v ∈ l1 ↔ v ∈ (List.range N).map fun p => ((L p : Nat) : Int)) (m2 : ∀ v, v ∈ l2 ↔ v ∈ K.map fun p => ((L p : Nat) : Int)) : l1.length = l2.length + r := by
  have nd : (R.map fun v : Nat => (v : Int)).Nodup := by
    unfold List.Nodup
    rw [List.pairwise_map]
    exact h.nd.imp fun {a b} hab z => hab (by omega)
  have key := len_same n1 (ys := l2 ++ R.map fun v : Nat => (v : Int)) (by
    rw [List.nodup_append]
    refine ⟨n2, nd, fun v hv w hw z => ?_⟩
    subst z
    obtain ⟨x, hx, e1⟩ := List.mem_map.mp ((m2 v).mp hv)
    obtain ⟨y, hy, e2⟩ := List.mem_map.mp hw
    obtain ⟨xN, ux⟩ := (hK x).mp hx
    exact (h.rg y hy).2 x xN ux (by omega)) (fun v => by
    rw [m1, List.mem_append, m2]
    constructor
    · intro hv
      obtain ⟨p, hp, rfl⟩ := List.mem_map.mp hv
      have hp := List.mem_range.mp hp
      rcases h.ot p hp with z | ⟨x, hx, ux, z⟩
      · exact .inr (List.mem_map.mpr ⟨_, z, rfl⟩)
      · exact .inl (List.mem_map.mpr ⟨x, (hK x).mpr ⟨hx, ux⟩, by rw [z]⟩)
    · rintro (hv | hv)
      · obtain ⟨x, hx, rfl⟩ := List.mem_map.mp hv
        exact List.mem_map.mpr ⟨x, List.mem_range.mpr ((hK x).mp hx).1, rfl⟩
      · obtain ⟨v', hv', rfl⟩ := List.mem_map.mp hv
        obtain ⟨⟨p, hp, z⟩, _⟩ := h.rg v' hv'
        exact List.mem_map.mpr ⟨p, List.mem_range.mpr hp, by rw [z]⟩)
  rw [key, List.length_append, List.length_map, h.len]
/-- a mat closed at its last pegs, k above and below -/
def prsC (n lo k : Nat) : List (Nat × Nat) := (List.range k).map fun i => (lo + i, n + (lo + i))
theorem prsC_mem {n lo k : Nat} {p : Nat × Nat} : p ∈ prsC n lo k ↔ ∃ i, i < k ∧ p = (lo + i, n + (lo + i)) := by
  unfold prsC
  rw [List.mem_map]
  constructor
  · rintro ⟨i, hi, e⟩; exact ⟨i, List.mem_range.mp hi, e.symm⟩
  · rintro ⟨i, hi, e⟩; exact ⟨i, List.mem_range.mpr hi, e.symm⟩
theorem prsC_pt {n lo k x : Nat} : Pt (prsC n lo k) x ↔ (lo ≤ x ∧ x < lo + k) ∨ (n + lo ≤ x ∧ x < n + lo + k) := by
  unfold Pt
  constructor
  · rintro ⟨p, hp, z⟩
    obtain ⟨i, hi, rfl⟩ := prsC_mem.mp hp
    simp only at z
    omega
  · rintro (⟨h1, h2⟩ | ⟨h1, h2⟩)
    · exact ⟨_, prsC_mem.mpr ⟨x - lo, by omega, rfl⟩, .inl (by simp only; omega)⟩
    · exact ⟨_, prsC_mem.mpr ⟨x - (n + lo), by omega, rfl⟩, .inr (by simp only; omega)⟩
end VS
set_option Elab.async false
set_option linter.all false
namespace VS
/-- the ends of a mat's strings, all other points being their own -/
def eR (N : Nat) (row : List Nat) (x : Nat) : Nat := if x < N then rowF row x else x
theorem eR_pr {N : Nat} {row : List Nat} (h : Pr N (rowF row)) : Pr N (eR N row) := fun p hp => by
  obtain ⟨h1, h2, h3⟩ := h p hp
  unfold eR
  rw [if_pos hp, if_pos h1]
  exact ⟨h1, h2, h3⟩
theorem eR_iv {N : Nat} {row : List Nat} (h : Pr N (rowF row)) : Iv (eR N row) := fun x => by
  by_cases c : x < N
  · exact (eR_pr h x c).2.2
  · unfold eR; rw [if_neg c, if_neg c]
theorem prsC_pw (n lo k : Nat) (h : lo + k ≤ n) : (prsC n lo k).Pairwise Ap := by
  unfold prsC
  rw [List.pairwise_map]
  refine List.Pairwise.imp_of_mem ?_ (List.nodup_range (n := k))
  intro i j hi hj hij
  have := List.mem_range.mp hi
  have := List.mem_range.mp hj
  unfold Ap
  simp only
  omega
theorem prsC_succ (n lo k : Nat) : prsC n lo (k + 1) = prsC n lo k ++ [(lo + k, n + (lo + k))] := by
  unfold prsC
  rw [List.range_succ, List.map_append]; rfl
def clS (n : Nat) (row : List Nat) (lo k : Nat) : Nat × (Nat → Nat) := elL (0, eR (n + n) row) (prsC n lo k)
theorem clS_succ (n : Nat) (row : List Nat) (lo k : Nat) : clS n row lo (k + 1) = el (clS n row lo k) (lo + k, n + (lo + k)) := by
  unfold clS
  rw [prsC_succ, elL_snoc]
/-- what is not joined keeps among itself -/
theorem clS_lj {n : Nat} {row : List Nat} (h : Pr (n + n) (rowF row)) {lo k : Nat} (hk : lo + k ≤ n) : ∃ L R, LJ (n + n) L (clS n row lo k).1 (clS n row lo k).2 (fun x => ¬ Pt (prsC n lo k) x) R := by
  obtain ⟨R, t⟩ := LJ.all (prsC n lo k) (LJ.start (eR_pr h)) (fun p hp => by
    obtain ⟨i, hi, rfl⟩ := prsC_mem.mp hp
    exact ⟨by simp only; omega, by simp only; omega, trivial, trivial, by simp only; omega⟩) (prsC_pw n lo k hk)
  exact ⟨_, R, t.cong fun x => ⟨fun z => z.2, fun z => ⟨trivial, z⟩⟩⟩
def Qs (n k : Nat) : List Nat := (List.range k).flatMap fun p => [p, n + p]
theorem Qs_succ (n k : Nat) : Qs n (k + 1) = Qs n k ++ [k] ++ [n + k] := by
  unfold Qs
  rw [List.range_succ, List.flatMap_append]
  simp
theorem Qs_perm (n : Nat) : ∀ k, k ≤ n → (Qs n k).Perm (List.range k ++ (List.range k).map fun p => n + p)
  | 0, _ => by simp [Qs]
  | k + 1, h => by
    rw [Qs_succ, List.range_succ, List.map_append]
    have ih := Qs_perm n k (by omega)
    have e1 : (Qs n k ++ [k] ++ [n + k]).Perm ((List.range k ++ (List.range k).map fun p => n + p) ++ [k] ++ [n + k]) := (ih.append_right [k]).append_right [n + k]
    refine e1.trans ?_
    rw [List.append_assoc, List.append_assoc, List.append_assoc]
    refine List.Perm.append_left _ ?_
    rw [← List.append_assoc]
    exact (List.perm_append_comm (l₁ := (List.range k).map fun p => n + p) (l₂ := [k])).append_right _ |>.trans (by rw [List.append_assoc]; exact List.Perm.refl _)
theorem Qs_full (n : Nat) : (List.range (n + n)).Perm (Qs n n) := by
  refine List.Perm.symm ((Qs_perm n n (Nat.le_refl _)).trans ?_)
  rw [List.range_add]
theorem jn_e {a b x : Nat} {e : Nat → Nat} (h1 : x ≠ a) (h2 : x ≠ b) : jn a b e x = if x = e a then e b else if x = e b then e a else e x := by
  unfold jn; rw [if_neg h1, if_neg h2]
theorem closed_step {n : Nat} {row : List Nat} (h : Pr (n + n) (rowF row)) : ∀ k, k ≤ n → (fQ (rowF row) (rowF (strR n)) 0 (n + n) 0 (Qs n k)).1 = (clS n row 0 k).1 ∧ (∀ x, x < n + n → ¬ Pt (prsC n 0 k) x → (fQ (rowF row) (rowF (strR n)) 0 (n + n) 0 (Qs n k)).2 x = (clS n row 0 k).2 x ∧ (fQ (rowF row) (rowF (strR n)) 0 (n + n) 0 (Qs n k)).2 (n + n + x) = n + n + rowF (strR n) x)
  | 0, _ => by
    refine ⟨rfl, fun x hx _ => ⟨?_, ?_⟩⟩
    · show e0 _ _ _ _ _ x = eR _ _ x
      unfold e0 eR
      rw [if_pos (by omega), if_pos hx]
    · show e0 _ _ _ _ _ (n + n + x) = _
      unfold e0
      rw [if_neg (by omega), if_pos (by omega)]
      rw [show n + n + x - (0 + (n + n)) = x by omega]; omega
  | k + 1, hk => by
    obtain ⟨i1, i2⟩ := closed_step h k (by omega)
    obtain ⟨L, R, lj⟩ := clS_lj h (lo := 0) (k := k) (by omega)
    rw [Qs_succ, fQ_snoc, fQ_snoc, clS_succ]
    generalize fQ (rowF row) (rowF (strR n)) 0 (n + n) 0 (Qs n k) = S at *
    generalize clS n row 0 k = T at *
    obtain ⟨s, E⟩ := S
    obtain ⟨t, e⟩ := T
    simp only at i1 i2 lj
    subst i1
    have pt : ∀ x, Pt (prsC n 0 k) x ↔ x < k ∨ (n ≤ x ∧ x < n + k) := fun x => by rw [prsC_pt]; omega
    have pt' : ∀ x, Pt (prsC n 0 (k + 1)) x ↔ x < k + 1 ∨ (n ≤ x ∧ x < n + (k + 1)) := fun x => by rw [prsC_pt]; omega
    have ua : ¬ Pt (prsC n 0 k) k := by rw [pt]; omega
    have ub : ¬ Pt (prsC n 0 k) (n + k) := by rw [pt]; omega
    obtain ⟨a1, a2, a3, a4⟩ := lj.cl k (by omega) ua
    obtain ⟨b1, b2, b3, b4⟩ := lj.cl (n + k) (by omega) ub
    obtain ⟨ea, ea2⟩ := i2 k (by omega) ua
    obtain ⟨eb, eb2⟩ := i2 (n + k) (by omega) ub
    rw [strR_get (by omega), if_pos (by omega)] at ea2
    rw [strR_get (by omega), if_neg (by omega), show n + k - n = k by omega] at eb2
    simp only [Nat.zero_add]
    -- joining k and its other
    have c1 : E k ≠ n + n + k := by rw [ea]; omega
    have e1 : el (s, E) (k, n + n + k) = (s, jn k (n + n + k) E) := by
      unfold el
      simp only
      rw [if_neg c1]
    rw [e1]
    have J : ∀ y, y ≠ k → y ≠ n + n + k → jn k (n + n + k) E y = if y = e k then n + n + (n + k) else if y = n + n + (n + k) then e k else E y := fun y h1 h2 => by
      unfold jn
      rw [if_neg h1, if_neg h2, ea2, ea]
    have ek : e k ≠ n + n + (n + k) := by omega
    have jb : jn k (n + n + k) E (n + k) = if n + k = e k then n + n + (n + k) else e (n + k) := by
      rw [J _ (by omega) (by omega), eb]
      by_cases c : n + k = e k
      · rw [if_pos c, if_pos c]
      · rw [if_neg c, if_neg c, if_neg (by omega)]
    have jb2 : jn k (n + n + k) E (n + n + (n + k)) = e k := by
      rw [J _ (by omega) (by omega), if_neg (fun z => ek z.symm), if_pos rfl]
    have cond : jn k (n + n + k) E (n + k) = n + n + (n + k) ↔ e k = n + k := by
      rw [jb]
      constructor
      · intro z
        by_cases c : n + k = e k
        · exact c.symm
        · rw [if_neg c] at z; omega
      · intro z
        rw [if_pos z.symm]
    refine ⟨?_, fun x hx hp => ?_⟩
    · show (if jn k (n + n + k) E (n + k) = n + n + (n + k) then s + 1 else s) = (if e k = n + k then s + 1 else s)
      by_cases c : e k = n + k
      · rw [if_pos c, if_pos (cond.mpr c)]
      · rw [if_neg c, if_neg (fun z => c (cond.mp z))]
    · rw [pt'] at hp
      have ux : ¬ Pt (prsC n 0 k) x := by rw [pt]; omega
      obtain ⟨j1, j2⟩ := i2 x hx ux
      obtain ⟨x1, x2, x3, x4⟩ := lj.cl x hx ux
      have xk : x ≠ k := by omega
      have xb : x ≠ n + k := by omega
      constructor
      · show jn (n + k) (n + n + (n + k)) (jn k (n + n + k) E) x = jn k (n + k) e x
        rw [jn_e xb (by omega), jn_e xk xb, jb2, jb, J x xk (by omega), j1]
        by_cases c : n + k = e k
        · rw [if_pos c, if_neg (by omega)]
          have f1 : x ≠ e k := by omega
          have f2 : x ≠ e (n + k) := by rw [c, a4]; exact xk
          rw [if_neg f1, if_neg f1, if_neg (by omega), if_neg f1, if_neg f2]
        · rw [if_neg c]
          by_cases g1 : x = e (n + k)
          · have g2 : x ≠ e k := fun z => by
              have e3 : e (e k) = e (e (n + k)) := by rw [← z, ← g1]
              rw [a4, b4] at e3
              omega
            rw [if_pos g1, if_neg g2, if_pos g1]
          · rw [if_neg g1]
            by_cases g2 : x = e k
            · rw [if_pos g2, if_pos g2]
            · rw [if_neg g2, if_neg g2, if_neg (by omega), if_neg g2, if_neg g1]
      · show jn (n + k) (n + n + (n + k)) (jn k (n + n + k) E) (n + n + x) = _
        rw [jn_e (by omega) (by omega), jb2, jb, J (n + n + x) (by omega) (by omega), j2]
        have f0 : n + n + x ≠ (if n + k = e k then n + n + (n + k) else e (n + k)) := by split <;> omega
        rw [if_neg f0, if_neg (by omega), if_neg (by omega), if_neg (by omega)]
/-- the rings of a mat closed altogether, as the program counts them -/
theorem closed_all {n : Nat} {row : List Nat} (h : Pr (n + n) (rowF row)) : (bhL row (strR n) 0 (n + n) 0).1 = (clS n row 0 n).1 := by
  have hS := (strR_pr n).2
  have hS2 : Pr (n + n + 0) (rowF (strR n)) := by rwa [show 2 * n = n + n + 0 by omega] at hS
  have hA : Pr (0 + (n + n)) (rowF row) := by rwa [Nat.zero_add]
  have e := fQ_perm hA hS2 (Q := List.range (n + n)) (R := Qs n n) List.nodup_range (fun q hq => List.mem_range.mp hq) (Qs_full n)
  have c := (closed_step h n (Nat.le_refl _)).1
  rw [← e] at c
  exact c
end VS
set_option Elab.async false
set_option linter.all false
namespace VS
/-! a mat partly closed -/
def crc (n l : Nat) : List Nat := List.range l ++ (List.range l).reverse.map (n + ·)
def prsD (n k : Nat) : List (Nat × Nat) := (List.range k).map fun i => (n - 1 - i, n + (n - 1 - i))
end VS
set_option Elab.async false
set_option linter.all false
namespace VS
def xq (n l i : Nat) : Nat := if i < l then i else n + (i - l)
def rn (n l y : Nat) : Nat := if y < n then y else y - (n - l)
/-- the mat with the last pegs closed, l being left -/
def cutR (n : Nat) (row : List Nat) (l : Nat) : List Nat := (List.range (l + l)).map fun i => rn n l ((clS n row l (n - l)).2 (xq n l i))
end VS
set_option Elab.async false
set_option linter.all false
namespace VS
theorem prsC_ok {n : Nat} {row : List Nat} (h : Pr (n + n) (rowF row)) {lo k : Nat} (hk : lo + k ≤ n) : OkL (eR (n + n) row) (prsC n lo k) :=
  ⟨eR_iv h, prsC_pw n lo k hk, fun p hp => by
    obtain ⟨i, hi, rfl⟩ := prsC_mem.mp hp
    exact ⟨by simp only; omega, (eR_pr h _ (by simp only; omega)).2.1, (eR_pr h _ (by simp only; omega)).2.1⟩⟩
end VS
set_option Elab.async false
set_option linter.all false
namespace VS
/-! ### mats of one size in a row, joined round -/
/-- the mates in a row of mats with N pegs each -/
def eL (N : Nat) : List (List Nat) → Nat → Nat
  | [], x => x
  | r :: rs, x => if x < N then rowF r x else N + eL N rs (x - N)
def blk (n o : Nat) : List (Nat × Nat) := (List.range n).map fun p => (o + n + p, o + (n + n) + p)
def clo (n o : Nat) : List (Nat × Nat) := (List.range n).map fun p => (o + n + p, p)
def jC (n : Nat) : Nat → Nat → List (Nat × Nat)
  | _, 0 => []
  | o, k + 1 => blk n o ++ jC n (o + (n + n)) k
def jM (n u : Nat) : List (Nat × Nat) := jC n 0 u ++ clo n (u * (n + n))
/-- the rings of a row of mats, joined round -/
def rowM (n : Nat) (rs : List (List Nat)) : Nat := (elL (0, eL (n + n) rs) (jM n (rs.length - 1))).1
def PrL (N : Nat) (rs : List (List Nat)) : Prop := ∀ r ∈ rs, Pr N (rowF r)
theorem PrL.head {N : Nat} {r : List Nat} {rs : List (List Nat)} (h : PrL N (r :: rs)) : Pr N (rowF r) := h r (List.mem_cons_self ..)
theorem PrL.tail {N : Nat} {r : List Nat} {rs : List (List Nat)} (h : PrL N (r :: rs)) : PrL N rs := fun x hx => h x (List.mem_cons_of_mem _ hx)
theorem eL_iv {N : Nat} : ∀ (rs : List (List Nat)), PrL N rs → ∀ x, (x < rs.length * N → eL N rs x < rs.length * N ∧ eL N rs x ≠ x) ∧ eL N rs (eL N rs x) = x
  | [], _, x => ⟨fun h => by simp at h, rfl⟩
  | r :: rs, h, x => by
    have ih := eL_iv rs h.tail
    have hr := h.head
    have e : (r :: rs).length * N = N + rs.length * N := by rw [List.length_cons, Nat.succ_mul, Nat.add_comm]
    rw [e]
    by_cases c : x < N
    · obtain ⟨a1, a2, a3⟩ := hr x c
      have e1 : eL N (r :: rs) x = rowF r x := if_pos c
      have e2 : eL N (r :: rs) (rowF r x) = rowF r (rowF r x) := if_pos a1
      rw [e1, e2, a3]
      exact ⟨fun _ => ⟨by omega, a2⟩, rfl⟩
    · have e1 : eL N (r :: rs) x = N + eL N rs (x - N) := if_neg c
      have e2 : eL N (r :: rs) (N + eL N rs (x - N)) = N + eL N rs (N + eL N rs (x - N) - N) := if_neg (by omega)
      obtain ⟨i1, i2⟩ := ih (x - N)
      rw [e1, e2, Nat.add_sub_cancel_left, i2]
      refine ⟨fun hx => ?_, by omega⟩
      obtain ⟨j1, j2⟩ := i1 (by omega)
      exact ⟨by omega, by omega⟩
theorem eL_app {N : Nat} (bs : List (List Nat)) : ∀ (as : List (List Nat)) (x : Nat), PrL N as → eL N (as ++ bs) x = if x < as.length * N then eL N as x else as.length * N + eL N bs (x - as.length * N)
  | [], x, _ => by simp
  | r :: rs, x, h => by
    have e : (r :: rs).length * N = N + rs.length * N := by rw [List.length_cons, Nat.succ_mul, Nat.add_comm]
    rw [e, List.cons_append]
    show (if x < N then _ else N + eL N (rs ++ bs) (x - N)) = if _ then (if x < N then _ else _) else _
    by_cases c : x < N
    · rw [if_pos c, if_pos (by omega), if_pos c]
    · rw [if_neg c, if_neg c, eL_app bs rs _ h.tail]
      by_cases d : x < N + rs.length * N
      · rw [if_pos (by omega), if_pos d]
      · rw [if_neg (by omega), if_neg d, show x - N - rs.length * N = x - (N + rs.length * N) by omega]
        omega
theorem blk_mem {n o : Nat} {q : Nat × Nat} : q ∈ blk n o ↔ ∃ p, p < n ∧ q = (o + n + p, o + (n + n) + p) := by
  unfold blk
  constructor
  · intro h
    obtain ⟨p, hp, e⟩ := List.mem_map.mp h
    exact ⟨p, List.mem_range.mp hp, e.symm⟩
  · rintro ⟨p, hp, rfl⟩
    exact List.mem_map.mpr ⟨p, List.mem_range.mpr hp, rfl⟩
theorem clo_mem {n o : Nat} {q : Nat × Nat} : q ∈ clo n o ↔ ∃ p, p < n ∧ q = (o + n + p, p) := by
  unfold clo
  constructor
  · intro h
    obtain ⟨p, hp, e⟩ := List.mem_map.mp h
    exact ⟨p, List.mem_range.mp hp, e.symm⟩
  · rintro ⟨p, hp, rfl⟩
    exact List.mem_map.mpr ⟨p, List.mem_range.mpr hp, rfl⟩
theorem jC_in {n : Nat} : ∀ (k o : Nat) (q : Nat × Nat), q ∈ jC n o k → o + n ≤ q.1 ∧ o + n ≤ q.2 ∧ q.1 < o + k * (n + n) + n ∧ q.2 < o + k * (n + n) + n ∧ q.1 ≠ q.2
  | 0, o, q, h => by cases h
  | k + 1, o, q, h => by
    have e : (k + 1) * (n + n) = k * (n + n) + (n + n) := Nat.succ_mul k (n + n)
    rw [e]
    rcases List.mem_append.mp h with h | h
    · obtain ⟨p, hp, rfl⟩ := blk_mem.mp h
      generalize k * (n + n) = K at *
      simp only []
      refine ⟨by omega, by omega, by omega, by omega, by omega⟩
    · have := jC_in k _ q h
      generalize k * (n + n) = K at *
      omega
theorem range_ap {n : Nat} {f : Nat → Nat × Nat} (h : ∀ i j, i < n → j < n → i ≠ j → Ap (f i) (f j)) : ((List.range n).map f).Pairwise Ap := by
  rw [List.pairwise_map]
  refine List.Pairwise.imp_of_mem ?_ (List.nodup_range (n := n))
  intro i j hi hj hij
  exact h i j (List.mem_range.mp hi) (List.mem_range.mp hj) hij
theorem blk_pw (n o : Nat) : (blk n o).Pairwise Ap := range_ap fun i j hi hj hij => ⟨by simp only []; omega, by simp only []; omega, by simp only []; omega, by simp only []; omega⟩
theorem clo_pw (n o : Nat) : (clo n o).Pairwise Ap := range_ap fun i j hi hj hij => ⟨by simp only []; omega, by simp only []; omega, by simp only []; omega, by simp only []; omega⟩
theorem jC_pw (n : Nat) : ∀ k o, (jC n o k).Pairwise Ap
  | 0, o => .nil
  | k + 1, o => by
    refine List.pairwise_append.mpr ⟨blk_pw n o, jC_pw n k _, fun a ha b hb => ?_⟩
    obtain ⟨p, hp, rfl⟩ := blk_mem.mp ha
    have := jC_in k _ b hb
    exact ⟨by simp only []; omega, by simp only []; omega, by simp only []; omega, by simp only []; omega⟩
theorem jM_in {n u : Nat} {q : Nat × Nat} (h : q ∈ jM n u) : q.1 < (u + 1) * (n + n) ∧ q.2 < (u + 1) * (n + n) ∧ q.1 ≠ q.2 := by
  rw [Nat.succ_mul]
  rcases List.mem_append.mp h with h | h
  · have := jC_in _ _ _ h
    generalize u * (n + n) = K at *
    omega
  · obtain ⟨p, hp, rfl⟩ := clo_mem.mp h
    simp only []
    omega
theorem jM_pw (n u : Nat) : (jM n u).Pairwise Ap := by
  refine List.pairwise_append.mpr ⟨jC_pw n _ _, clo_pw n _, fun a ha b hb => ?_⟩
  obtain ⟨p, hp, rfl⟩ := clo_mem.mp hb
  have := jC_in _ _ _ ha
  generalize u * (n + n) = K at *
  exact ⟨by simp only []; omega, by simp only []; omega, by simp only []; omega, by simp only []; omega⟩
theorem jM_ok {n u : Nat} {rs : List (List Nat)} (h : PrL (n + n) rs) (hu : rs.length = u + 1) : OkL (eL (n + n) rs) (jM n u) := by
  refine ⟨fun x => (eL_iv rs h x).2, jM_pw n u, fun p hp => ?_⟩
  obtain ⟨h1, h2, h3⟩ := jM_in hp
  rw [← hu] at h1 h2
  exact ⟨h3, ((eL_iv rs h _).1 h1).2, ((eL_iv rs h _).1 h2).2⟩
theorem mapP2_app (φ : Nat → Nat) (a b : List (Nat × Nat)) : mapP2 φ (a ++ b) = mapP2 φ a ++ mapP2 φ b := List.map_append
theorem mapP2_range {φ : Nat → Nat} {n : Nat} {f g : Nat → Nat × Nat} (h : ∀ p, p < n → (φ (f p).1, φ (f p).2) = g p) : mapP2 φ ((List.range n).map f) = (List.range n).map g := by
  unfold mapP2
  rw [List.map_map]
  exact List.map_congr_left fun p hp => h p (List.mem_range.mp hp)
theorem jC_map {φ : Nat → Nat} {n : Nat} : ∀ (k o : Nat), (∀ z, o + n ≤ z → z < o + k * (n + n) + n → φ z = z + (n + n)) → mapP2 φ (jC n o k) = jC n (o + (n + n)) k
  | 0, o, h => rfl
  | k + 1, o, h => by
    have e : (k + 1) * (n + n) = k * (n + n) + (n + n) := Nat.succ_mul k (n + n)
    rw [e] at h
    generalize hK : k * (n + n) = K at *
    show mapP2 φ (blk n o ++ jC n (o + (n + n)) k) = blk n (o + (n + n)) ++ _
    rw [mapP2_app]
    congr 1
    · exact mapP2_range fun p hp => by
        simp only []
        rw [h _ (by omega) (by omega), h _ (by omega) (by omega)]
        refine Prod.ext ?_ ?_ <;> simp only [] <;> omega
    · exact jC_map k _ fun z h1 h2 => h z (by omega) (by rw [hK] at h2; omega)
theorem jC_snoc (n : Nat) : ∀ (k o : Nat), jC n o (k + 1) = jC n o k ++ blk n (o + k * (n + n))
  | 0, o => by
    show blk n o ++ [] = [] ++ blk n (o + 0 * (n + n))
    rw [Nat.zero_mul, List.append_nil, List.nil_append]
    rfl
  | k + 1, o => by
    show blk n o ++ jC n (o + (n + n)) (k + 1) = (blk n o ++ jC n (o + (n + n)) k) ++ _
    rw [jC_snoc n k, List.append_assoc, show o + (n + n) + k * (n + n) = o + (k + 1) * (n + n) by rw [Nat.succ_mul]; omega]
/-- two neighbours put behind one another -/
theorem rowM_merge {n : Nat} {x y : List Nat} {rest : List (List Nat)} (h : PrL (n + n) (x :: y :: rest)) : rowM n (x :: y :: rest) = (bhL x y n n n).1 + rowM n ((bhL x y n n n).2 :: rest) := by
  have hA : Pr (n + n) (rowF x) := h.head
  have hB : Pr (n + n) (rowF y) := h.tail.head
  have hAB : Pr (n + n) (rowF (bhL x y n n n).2) := bhL_pr hA hB
  have hM : PrL (n + n) ((bhL x y n n n).2 :: rest) := fun r hr => by
    rcases List.mem_cons.mp hr with rfl | hr
    · exact hAB
    · exact h.tail.tail r hr
  have eA : ∀ z, eL (n + n) (x :: y :: rest) z = if z < n + n then rowF x z else n + n + (if z - (n + n) < n + n then rowF y (z - (n + n)) else n + n + eL (n + n) rest (z - (n + n) - (n + n))) := fun z => rfl
  have r1 : Rlb (fun z => z < n + 2 * n + n) (fun z => z) (e0 (rowF x) (rowF y) n n n) (eL (n + n) (x :: y :: rest)) := ⟨fun x y _ _ h => h, fun z hz => e0_lt hA hB hz, fun z hz => by
    rw [eA]
    unfold e0
    by_cases c : z < n + n
    · rw [if_pos c, if_pos c]
    · rw [if_neg c, if_neg c, if_pos hz, if_pos (by omega)]⟩
  obtain ⟨a1, a2, a3⟩ := elL_rlb (prs n n (List.range n)) 0 _ _ r1 (fun p hp => by
    obtain ⟨q, hq, rfl⟩ := prs_mem.mp hp
    have h1 := List.mem_range.mp hq
    exact ⟨by simp only []; omega, by simp only []; omega⟩)
  rw [mapP2_id] at a1 a2 a3
  obtain ⟨f1, hf1⟩ : ∃ f1, f1 = (elL (0, eL (n + n) (x :: y :: rest)) (prs n n (List.range n))).2 := ⟨_, rfl⟩
  rw [← hf1] at a2 a3
  have bo := fun {z} h => bhF_out hA hB (x := z) h
  have r2 : Rlb (fun z => z < (rest.length + 1) * (n + n)) (xp n n) (eL (n + n) ((bhL x y n n n).2 :: rest)) f1 := by
    refine ⟨fun x y _ _ h => by rw [← xp_num (n := n) (m := n) (p := x), h, xp_num], fun z hz => ((eL_iv _ hM z).1 hz).1, fun z hz => ?_⟩
    by_cases c : z < n + n
    · have ox := xp_out (m := n) c
      have e1 : eL (n + n) ((bhL x y n n n).2 :: rest) z = num n n ((bhF (rowF x) (rowF y) n n n).2 (xp n n z)) := by
        show (if z < n + n then _ else _) = _
        rw [if_pos c, bhL_get c]
      rw [e1, (num_xp (bo ox).1).2]
      exact a2 _ (by unfold Oue at ox; omega)
    · have e1 : eL (n + n) ((bhL x y n n n).2 :: rest) z = n + n + eL (n + n) rest (z - (n + n)) := if_neg c
      have e2 : xp n n z = z + 2 * n := by unfold xp; rw [if_neg (by omega)]
      rw [e1, e2, a3 _ fun y hy => by omega]
      have e3' : xp n n (n + n + eL (n + n) rest (z - (n + n))) = n + n + eL (n + n) rest (z - (n + n)) + 2 * n := by unfold xp; rw [if_neg (by omega)]
      rw [e3', eA, if_neg (by omega), if_neg (by omega), show z + 2 * n - (n + n) - (n + n) = z - (n + n) by omega]
      omega
  obtain ⟨b1, b2, _⟩ := elL_rlb (jM n rest.length) (elL (0, eL (n + n) (x :: y :: rest)) (prs n n (List.range n))).1 _ _ r2 (fun p hp => ⟨(jM_in hp).1, (jM_in hp).2.1⟩)
  have em : mapP2 (xp n n) (jM n rest.length) = jC n (n + n) rest.length ++ clo n ((rest.length + 1) * (n + n)) := by
    unfold jM
    rw [mapP2_app]
    congr 1
    · have := jC_map (φ := xp n n) (n := n) rest.length 0 fun z h1 h2 => by unfold xp; rw [if_neg (by omega)]; omega
      rw [Nat.zero_add] at this
      exact this
    · rw [Nat.succ_mul]
      generalize rest.length * (n + n) = K
      exact mapP2_range fun p hp => by
        simp only []
        unfold xp
        rw [if_neg (by omega), if_pos hp]
        refine Prod.ext ?_ ?_ <;> simp only [] <;> omega
  have es : jM n (rest.length + 1) = prs n n (List.range n) ++ mapP2 (xp n n) (jM n rest.length) := by
    rw [em]
    unfold jM
    show (blk n 0 ++ jC n (0 + (n + n)) rest.length) ++ _ = _
    rw [List.append_assoc, Nat.zero_add]
    congr 1
    unfold blk prs
    exact List.map_congr_left fun p _ => by
      refine Prod.ext ?_ ?_ <;> simp only [] <;> omega
  show (elL (0, eL (n + n) (x :: y :: rest)) (jM n (rest.length + 1))).1 = _ + (elL (0, eL (n + n) ((bhL x y n n n).2 :: rest)) (jM n rest.length)).1
  rw [es, elL_app]
  have e5 : elL (0, eL (n + n) (x :: y :: rest)) (prs n n (List.range n)) = ((bhL x y n n n).1, f1) := Prod.ext a1 hf1.symm
  rw [e5]
  rw [e5] at b1
  simp only [] at b1
  rw [b1]
  have := elL_shift (bhL x y n n n).1 (jM n rest.length) 0 (eL (n + n) ((bhL x y n n n).2 :: rest))
  rw [Nat.zero_add] at this
  rw [this]
  simp only []
  omega
/-- the first one put behind the others -/
theorem rowM_turn {n : Nat} {x : List Nat} {rest : List (List Nat)} (h : PrL (n + n) (x :: rest)) : rowM n (x :: rest) = rowM n (rest ++ [x]) := by
  by_cases c0 : rest = []
  · subst c0; rfl
  obtain ⟨u, hu⟩ : ∃ u, rest.length = u + 1 := ⟨rest.length - 1, by have := List.length_pos_iff.mpr c0; omega⟩
  have hR : PrL (n + n) (rest ++ [x]) := fun r hr => by
    rcases List.mem_append.mp hr with hr | hr
    · exact h.tail r hr
    · obtain rfl := List.mem_singleton.mp hr
      exact h.head
  have lR : (rest ++ [x]).length = rest.length + 1 := by simp
  have eN : (u + 1) * (n + n) = u * (n + n) + (n + n) := Nat.succ_mul _ _
  obtain ⟨φ, hφ⟩ : ∃ φ : Nat → Nat, φ = fun z => if z < (u + 1) * (n + n) then z + (n + n) else z - (u + 1) * (n + n) := ⟨_, rfl⟩
  have p1 : ∀ z, z < (u + 1) * (n + n) → φ z = z + (n + n) := fun z hz => by rw [hφ]; exact if_pos hz
  have p2 : ∀ z, ¬ z < (u + 1) * (n + n) → φ z = z - (u + 1) * (n + n) := fun z hz => by rw [hφ]; exact if_neg hz
  have r2 : Rlb (fun z => z < (u + 1) * (n + n) + (n + n)) φ (eL (n + n) (rest ++ [x])) (eL (n + n) (x :: rest)) := by
    refine ⟨fun a b ha hb e => ?_, fun z hz => ?_, fun z hz => ?_⟩
    · by_cases c1 : a < (u + 1) * (n + n) <;> by_cases c2 : b < (u + 1) * (n + n)
      · rw [p1 _ c1, p1 _ c2] at e; omega
      · rw [p1 _ c1, p2 _ c2] at e; omega
      · rw [p2 _ c1, p1 _ c2] at e; omega
      · rw [p2 _ c1, p2 _ c2] at e; omega
    · have := ((eL_iv _ hR z).1 (by rw [lR, hu, Nat.succ_mul]; exact hz)).1
      rw [lR, hu, Nat.succ_mul] at this
      exact this
    · rw [eL_app [x] rest z h.tail, hu]
      by_cases c : z < (u + 1) * (n + n)
      · have i := ((eL_iv _ h.tail z).1 (by rw [hu]; exact c)).1
        rw [hu] at i
        rw [p1 _ c, if_pos c, p1 _ i]
        show (if z + (n + n) < n + n then _ else n + n + eL (n + n) rest (z + (n + n) - (n + n))) = _
        rw [if_neg (by omega), Nat.add_sub_cancel]
        omega
      · rw [p2 _ c, if_neg c]
        have c1 : z - (u + 1) * (n + n) < n + n := by omega
        have e1 : eL (n + n) [x] (z - (u + 1) * (n + n)) = rowF x (z - (u + 1) * (n + n)) := if_pos c1
        have e2 : eL (n + n) (x :: rest) (z - (u + 1) * (n + n)) = rowF x (z - (u + 1) * (n + n)) := if_pos c1
        rw [e1, e2, p2 _ (by omega)]
        omega
  obtain ⟨b1, _, _⟩ := elL_rlb (jM n (u + 1)) 0 _ _ r2 (fun p hp => by
    have := jM_in hp
    rw [Nat.succ_mul] at this
    exact ⟨this.1, this.2.1⟩)
  have em : mapP2 φ (jM n (u + 1)) = (jC n (n + n) u ++ clo n ((u + 1) * (n + n))) ++ blk n 0 := by
    unfold jM
    rw [jC_snoc, mapP2_app, mapP2_app, Nat.zero_add]
    congr 1
    · congr 1
      · have := jC_map (φ := φ) (n := n) u 0 fun z h1 h2 => p1 z (by omega)
        rw [Nat.zero_add] at this
        exact this
      · exact mapP2_range fun p hp => by
          simp only []
          rw [p1 _ (by omega), p2 _ (by omega)]
          refine Prod.ext ?_ ?_ <;> simp only [] <;> omega
    · exact mapP2_range fun p hp => by
        simp only []
        rw [p2 _ (by omega), p1 _ (by omega)]
        refine Prod.ext ?_ ?_ <;> simp only [] <;> omega
  have pm : (mapP2 φ (jM n (u + 1))).Perm (jM n (u + 1)) := by
    rw [em]
    unfold jM
    show List.Perm _ ((blk n 0 ++ jC n (0 + (n + n)) u) ++ _)
    rw [Nat.zero_add, List.append_assoc (blk n 0)]
    exact List.perm_append_comm
  show (elL (0, eL (n + n) (x :: rest)) (jM n rest.length)).1 = (elL (0, eL (n + n) (rest ++ [x])) (jM n ((rest ++ [x]).length - 1))).1
  rw [lR, hu, Nat.add_sub_cancel, ← b1]
  have ok := jM_ok h (u := u + 1) (by rw [List.length_cons, hu])
  rw [elL_perm (s := (0, eL (n + n) (x :: rest))) pm.symm ok]
/-! pairs turned about -/
theorem jn_swap {a b : Nat} {e : Nat → Nat} (h : Iv e) (hab : a ≠ b) : jn b a e = jn a b e := by
  funext x
  unfold jn
  by_cases c1 : x = a
  · subst c1
    rw [if_neg hab, if_pos rfl, if_pos rfl]
  · by_cases c2 : x = b
    · subst c2
      rw [if_pos rfl, if_neg c1, if_pos rfl]
    · rw [if_neg c2, if_neg c1, if_neg c1, if_neg c2]
      by_cases c3 : x = e a
      · by_cases c4 : x = e b
        · have : e (e a) = e (e b) := by rw [← c3, ← c4]
          rw [h a, h b] at this
          exact absurd this hab
        · rw [if_neg c4, if_pos c3, if_pos c3]
      · rw [if_neg c3]
        by_cases c4 : x = e b
        · rw [if_pos c4, if_neg c3]
        · rw [if_neg c4, if_neg c3]
theorem el_swap {a b r : Nat} {e : Nat → Nat} (h : Iv e) (hab : a ≠ b) : el (r, e) (b, a) = el (r, e) (a, b) := by
  unfold el
  rw [jn_swap h hab]
  have : (e b = a) ↔ (e a = b) := ⟨fun q => by rw [← q, h], fun q => by rw [← q, h]⟩
  simp only [this]
theorem elL_swap : ∀ (L : List (Nat × Nat)) (r : Nat) (e : Nat → Nat), OkL e L → elL (r, e) (L.map fun p => (p.2, p.1)) = elL (r, e) L
  | [], r, e, _ => rfl
  | p :: L, r, e, h => by
    show elL (el (r, e) (p.2, p.1)) _ = elL (el (r, e) p) L
    rw [el_swap h.iv (h.own p (List.mem_cons_self ..)).1]
    exact elL_swap L _ _ h.tail
theorem rowM_one {n : Nat} {x : List Nat} (h : Pr (n + n) (rowF x)) : rowM n [x] = (clS n x 0 n).1 := by
  have e1 : eL (n + n) [x] = eR (n + n) x := by
    funext z
    show (if z < n + n then _ else n + n + (z - (n + n))) = _
    unfold eR
    by_cases c : z < n + n
    · rw [if_pos c, if_pos c]
    · rw [if_neg c, if_neg c]; omega
  show (elL (0, eL (n + n) [x]) (jM n 0)).1 = (elL (0, eR (n + n) x) (prsC n 0 n)).1
  rw [e1, ← elL_swap (prsC n 0 n) 0 _ (prsC_ok h (by omega))]
  have : jM n 0 = (prsC n 0 n).map fun p => (p.2, p.1) := by
    show [] ++ clo n (0 * (n + n)) = _
    unfold clo prsC
    rw [List.nil_append, List.map_map, Nat.zero_mul]
    exact List.map_congr_left fun p _ => by
      simp
  rw [this]
end VS
set_option Elab.async false
set_option linter.all false
namespace VS
/-! ### a mat is told by which pegs open a string, round about -/
def opL (f : Nat → Nat) : List Nat → List Bool
  | [] => []
  | x :: R => decide (f x ∈ R) :: opL f R
theorem sh_stay {f : Nat → Nat} {x : Nat} : ∀ (R S : List Nat), (∀ r ∈ R, f (f r) = r) → x ∈ S → f x ∉ R → x ∈ shS f S R
  | [], S, _, h, _ => h
  | r :: R, [], _, h, _ => by cases h
  | r :: R, y :: S, hv, h, hn => by
    have nR : f x ∉ R := fun e => hn (List.mem_cons_of_mem _ e)
    have nr : f x ≠ r := fun e => hn (e ▸ List.mem_cons_self ..)
    have vR : ∀ z ∈ R, f (f z) = z := fun z hz => hv z (List.mem_cons_of_mem _ hz)
    simp only [shS]
    by_cases c : f r = y
    · rw [if_pos c]
      refine sh_stay R S vR ?_ nR
      rcases List.mem_cons.mp h with e | e
      · exact absurd (by rw [e, ← c]; exact hv r (List.mem_cons_self ..)) nr
      · exact e
    · rw [if_neg c]
      exact sh_stay R _ vR (List.mem_cons_of_mem _ h) nR
theorem wd_op {f : Nat → Nat} : ∀ (R S : List Nat), (S ++ R).Nodup → (∀ x ∈ S ++ R, f x ∈ S ++ R ∧ f x ≠ x ∧ f (f x) = x) → shS f S R = [] → wdS f S R = opL f R
  | [], S, _, _, _ => by cases S <;> rfl
  | x :: R, [], nd, hv, h => by
    have e1 : shS f [x] R = [] := h
    show true :: wdS f [x] R = decide (f x ∈ R) :: opL f R
    rw [wd_op R [x] nd hv e1]
    obtain ⟨a, b, _⟩ := hv x (by simp)
    rw [decide_eq_true]
    rcases List.mem_cons.mp (show f x ∈ x :: R from a) with e | e
    · exact absurd e b
    · exact e
  | x :: R, y :: S, nd, hv, h => by
    simp only [shS] at h
    show (if f x = y then _ else _) = _
    have vx := hv x (by simp)
    have nd' : (y :: S).Nodup ∧ (x :: R).Nodup ∧ ∀ a ∈ y :: S, ∀ b ∈ x :: R, a ≠ b := List.nodup_append.mp nd
    obtain ⟨n1, n2, n3⟩ := nd'
    have n1' := List.nodup_cons.mp n1
    have n2' := List.nodup_cons.mp n2
    by_cases c : f x = y
    · rw [if_pos c] at h ⊢
      have fy : f y = x := by rw [← c]; exact vx.2.2
      rw [wd_op R S (List.nodup_append.mpr ⟨n1'.2, n2'.2, fun a ha b hb => n3 a (List.mem_cons_of_mem _ ha) b (List.mem_cons_of_mem _ hb)⟩) (fun z hz => ?_) h]
      · show _ = decide (f x ∈ R) :: opL f R
        rw [decide_eq_false (fun e => n3 y (List.mem_cons_self ..) (f x) (List.mem_cons_of_mem _ e) c.symm)]
      · have hz' : z ∈ y :: S ++ x :: R := by
          rcases List.mem_append.mp hz with e | e
          · exact List.mem_append_left _ (List.mem_cons_of_mem _ e)
          · exact List.mem_append_right _ (List.mem_cons_of_mem _ e)
        obtain ⟨a1, a2, a3⟩ := hv z hz'
        refine ⟨?_, a2, a3⟩
        have zx : z ≠ x := fun e => by
          subst e
          rcases List.mem_append.mp hz with e | e
          · exact n3 z (List.mem_cons_of_mem _ e) z (List.mem_cons_self ..) rfl
          · exact n2'.1 e
        have zy : z ≠ y := fun e => by
          subst e
          rcases List.mem_append.mp hz with e | e
          · exact n1'.1 e
          · exact n3 z (List.mem_cons_self ..) z (List.mem_cons_of_mem _ e) rfl
        have fzx : f z ≠ x := fun e => zy (by rw [← a3, e, c])
        have fzy : f z ≠ y := fun e => zx (by rw [← a3, e, fy])
        rcases List.mem_append.mp a1 with e | e
        · rcases List.mem_cons.mp e with e | e
          · exact absurd e fzy
          · exact List.mem_append_left _ e
        · rcases List.mem_cons.mp e with e | e
          · exact absurd e fzx
          · exact List.mem_append_right _ e
    · rw [if_neg c] at h ⊢
      have pm : (x :: y :: S ++ R).Perm (y :: S ++ x :: R) := by
        rw [List.cons_append]
        exact List.perm_middle.symm
      rw [wd_op R (x :: y :: S) (pm.nodup_iff.mpr nd) (fun z hz => by
        obtain ⟨a1, a2, a3⟩ := hv z (pm.mem_iff.mp hz)
        exact ⟨pm.mem_iff.mpr a1, a2, a3⟩) h]
      show _ = decide (f x ∈ R) :: opL f R
      rw [decide_eq_true]
      rcases List.mem_append.mp vx.1 with e | e
      · rcases List.mem_cons.mp e with e' | e'
        · exact absurd e' c
        · refine Classical.byContradiction fun hn => ?_
          have := sh_stay (f := f) (x := x) R (x :: y :: S) (fun r hr => (hv r (by simp [hr])).2.2) (List.mem_cons_self ..) hn
          rw [h] at this
          cases this
      · rcases List.mem_cons.mp e with e' | e'
        · exact absurd e' vx.2.1
        · exact e'
theorem op_low {f g : Nat → Nat} {P : Nat → Prop} : ∀ (L : List Nat), (∀ x ∈ L, P x) → (∀ x ∈ L, f x = g x ∨ (¬ P (f x) ∧ ¬ P (g x))) → opL f L = opL g L
  | [], _, _ => rfl
  | x :: L, hp, h => by
    unfold opL
    rw [op_low L (fun y hy => hp y (List.mem_cons_of_mem _ hy)) (fun y hy => h y (List.mem_cons_of_mem _ hy))]
    congr 1
    rcases h x (List.mem_cons_self ..) with e | ⟨e1, e2⟩
    · rw [e]
    · rw [decide_eq_false (fun q => e1 (hp _ (List.mem_cons_of_mem _ q))), decide_eq_false (fun q => e2 (hp _ (List.mem_cons_of_mem _ q)))]
theorem op_up {f g : Nat → Nat} {L : List Nat} (hL : opL f L = opL g L) : ∀ (U : List Nat), (∀ x ∈ U, f x = g x ∨ (f x ∈ L ∧ g x ∈ L)) → opL f (U ++ L) = opL g (U ++ L)
  | [], _ => hL
  | x :: U, h => by
    rw [List.cons_append]
    unfold opL
    rw [op_up hL U (fun y hy => h y (List.mem_cons_of_mem _ hy))]
    congr 1
    rcases h x (List.mem_cons_self ..) with e | ⟨e1, e2⟩
    · rw [e]
    · rw [decide_eq_true (List.mem_append_right _ e1), decide_eq_true (List.mem_append_right _ e2)]
theorem low_mem {n m x : Nat} : x ∈ (List.range m).reverse.map (n + ·) ↔ n ≤ x ∧ x < n + m := by
  rw [List.mem_map]
  constructor
  · rintro ⟨i, hi, rfl⟩
    have := List.mem_range.mp (List.mem_reverse.mp hi)
    omega
  · rintro ⟨h1, h2⟩
    exact ⟨x - n, List.mem_reverse.mpr (List.mem_range.mpr (by omega)), by omega⟩
/-- two mats alike but for strings that go through are one -/
theorem same_row {n m : Nat} {r q : List Nat} (h : IsMat n m r) (h2 : IsMat n m q) (e : ∀ x, x < n + m → rowF r x = rowF q x ∨ (x < n ∧ n ≤ rowF r x ∧ n ≤ rowF q x) ∨ (n ≤ x ∧ rowF r x < n ∧ rowF q x < n)) : r = q := by
  refine wdM_inj h h2 ?_
  unfold wdM
  have ok : ∀ {s : List Nat}, IsMat n m s → wdS (rowF s) [] (roundL n m) = opL (rowF s) (roundL n m) := fun {s} hs => by
    refine wd_op (roundL n m) [] (roundL_nodup n m) (fun x hx => ?_) (sh_nc hs.nc (roundL_nodup n m))
    obtain ⟨a1, a2, a3⟩ := hs.pr x (mem_roundL.mp hx)
    exact ⟨mem_roundL.mpr a1, a2, a3⟩
  rw [ok h, ok h2]
  unfold roundL
  refine op_up (op_low (P := fun x => n ≤ x) _ (fun x hx => (low_mem.mp hx).1) fun x hx => ?_) _ fun x hx => ?_
  · obtain ⟨h3, h4⟩ := low_mem.mp hx
    rcases e x h4 with e | e | e
    · exact .inl e
    · omega
    · exact .inr ⟨by omega, by omega⟩
  · have h3 := List.mem_range.mp hx
    have p1 := (h.pr x (by omega)).1
    have p2 := (h2.pr x (by omega)).1
    rcases e x (by omega) with e | e | e
    · exact .inl e
    · exact .inr ⟨low_mem.mpr ⟨e.2.1, p1⟩, low_mem.mpr ⟨e.2.2, p2⟩⟩
    · omega
/-! ### powers of a mat stay at last -/
theorem bh_up {n m k x : Nat} {ra rh : List Nat} (hA : Pr (n + m) (rowF ra)) (hH : Pr (m + k) (rowF rh)) (hx : x < n) (hr : rowF ra x < n) : rowF (bhL ra rh n m k).2 x = rowF ra x := by
  rw [bhL_get (by omega)]
  have e : xp n m x = x := if_pos hx
  have e2 : (fQ (rowF ra) (rowF rh) n m k []).2 x = rowF ra x := by
    show e0 (rowF ra) (rowF rh) n m k x = _
    unfold e0
    rw [if_pos (by omega)]
  rw [e, fQ_full hA hH (Q := []) .nil (fun q hq => by cases hq) (.inl hx) (by rw [e2]; exact .inl hr), e2]
  exact if_pos hr
theorem bh_low {n m k x : Nat} {ra rh : List Nat} (hA : Pr (n + m) (rowF ra)) (hH : Pr (m + k) (rowF rh)) (hx : x < k) (hr : m ≤ rowF rh (m + x)) : rowF (bhL ra rh n m k).2 (n + x) = n + (rowF rh (m + x) - m) := by
  have lt := (hH (m + x) (by omega)).1
  rw [bhL_get (by omega)]
  have e : xp n m (n + x) = n + m + (m + x) := by
    unfold xp
    rw [if_neg (by omega)]
    omega
  have e2 : (fQ (rowF ra) (rowF rh) n m k []).2 (n + m + (m + x)) = n + m + rowF rh (m + x) := by
    show e0 (rowF ra) (rowF rh) n m k _ = _
    unfold e0
    rw [if_neg (by omega), if_pos (by omega), Nat.add_sub_cancel_left]
  rw [e, fQ_full hA hH (Q := []) .nil (fun q hq => by cases hq) (.inr (by omega)) (by rw [e2]; exact .inr (by omega)), e2]
  unfold num
  rw [if_neg (by omega)]
  omega
def pwR (n : Nat) (a : List Nat) : Nat → List Nat
  | 0 => a
  | s + 1 => (bhL (pwR n a s) a n n n).2
theorem pwR_pr {n : Nat} {a : List Nat} (h : Pr (n + n) (rowF a)) : ∀ s, Pr (n + n) (rowF (pwR n a s))
  | 0 => h
  | s + 1 => bhL_pr (pwR_pr h s) h
theorem pwR_mat {n : Nat} {a : List Nat} (h : IsMat n n a) (h0 : 0 < n) : ∀ s, IsMat n n (pwR n a s)
  | 0 => h
  | s + 1 => bh_mat (pwR_mat h h0 s) h (by omega)
theorem pwR_front {n : Nat} {a : List Nat} (h : Pr (n + n) (rowF a)) : ∀ s, pwR n a (s + 1) = (bhL a (pwR n a s) n n n).2
  | 0 => rfl
  | s + 1 => by
    show (bhL (pwR n a (s + 1)) a n n n).2 = (bhL a (bhL (pwR n a s) a n n n).2 n n n).2
    rw [pwR_front h s, (bh_assoc h (pwR_pr h s) h).2]
/-- the pegs whose strings do not go through -/
def stU (n : Nat) (r : List Nat) : List Nat := (List.range (n + n)).filter fun x => (decide (x < n)) == (decide (rowF r x < n))
theorem stU_mem {n x : Nat} {r : List Nat} : x ∈ stU n r ↔ x < n + n ∧ (x < n ↔ rowF r x < n) := by
  unfold stU
  rw [List.mem_filter, List.mem_range]
  simp only [beq_iff_eq, decide_eq_decide]
theorem stU_nd (n : Nat) (r : List Nat) : (stU n r).Nodup := (List.nodup_range).filter _
theorem pwR_keeps {n : Nat} {a : List Nat} (h : Pr (n + n) (rowF a)) (s : Nat) {x : Nat} (hx : x ∈ stU n (pwR n a s)) : rowF (pwR n a (s + 1)) x = rowF (pwR n a s) x := by
  obtain ⟨h1, h2⟩ := stU_mem.mp hx
  by_cases c : x < n
  · exact bh_up (pwR_pr h s) h c (h2.mp c)
  · have c2 : ¬ rowF (pwR n a s) x < n := fun e => c (h2.mpr e)
    rw [pwR_front h s]
    have := bh_low (n := n) (m := n) (k := n) (x := x - n) h (pwR_pr h s) (by omega) (by rw [show n + (x - n) = x by omega]; omega)
    rw [show n + (x - n) = x by omega] at this
    rw [this]
    omega
theorem pwR_more {n : Nat} {a : List Nat} (h : IsMat n n a) (h0 : 0 < n) (s : Nat) (hn : pwR n a (s + 1) ≠ pwR n a s) : (stU n (pwR n a s)).length + 2 ≤ (stU n (pwR n a (s + 1))).length := by
  have m1 := pwR_mat h h0 s
  have m2 := pwR_mat h h0 (s + 1)
  have sub : ∀ x ∈ stU n (pwR n a s), x ∈ stU n (pwR n a (s + 1)) := fun x hx => by
    rw [stU_mem, pwR_keeps h.pr s hx]
    exact stU_mem.mp hx
  have ex : ∃ x, x ∈ stU n (pwR n a (s + 1)) ∧ x ∉ stU n (pwR n a s) := by
    refine Classical.byContradiction fun hno => hn ?_
    refine same_row m2 m1 fun x hx => ?_
    by_cases c : x ∈ stU n (pwR n a s)
    · exact .inl (pwR_keeps h.pr s c)
    · have c2 : x ∉ stU n (pwR n a (s + 1)) := fun e => hno ⟨x, e, c⟩
      rw [stU_mem] at c c2
      have d : ¬ (x < n ↔ rowF (pwR n a s) x < n) := fun e => c ⟨hx, e⟩
      have d2 : ¬ (x < n ↔ rowF (pwR n a (s + 1)) x < n) := fun e => c2 ⟨hx, e⟩
      by_cases cx : x < n
      · exact .inr (.inl ⟨cx, Nat.le_of_not_lt fun e => d2 ⟨fun _ => e, fun _ => cx⟩, Nat.le_of_not_lt fun e => d ⟨fun _ => e, fun _ => cx⟩⟩)
      · refine .inr (.inr ⟨by omega, Classical.byContradiction fun e => d2 ⟨fun q => absurd q cx, fun q => absurd q e⟩, Classical.byContradiction fun e => d ⟨fun q => absurd q cx, fun q => absurd q e⟩⟩)
  obtain ⟨x, hx, nx⟩ := ex
  obtain ⟨x1, x2⟩ := stU_mem.mp hx
  obtain ⟨y1, y2, y3⟩ := m2.pr x x1
  have hy : rowF (pwR n a (s + 1)) x ∈ stU n (pwR n a (s + 1)) := stU_mem.mpr ⟨y1, by rw [y3]; exact x2.symm⟩
  have ny : rowF (pwR n a (s + 1)) x ∉ stU n (pwR n a s) := fun e => by
    have k := pwR_keeps h.pr s e
    rw [y3] at k
    obtain ⟨z1, z2, z3⟩ := m1.pr _ y1
    obtain ⟨w1, w2⟩ := stU_mem.mp e
    rw [← k] at w2 z1
    exact nx (stU_mem.mpr ⟨x1, by
      have : rowF (pwR n a s) x = rowF (pwR n a (s + 1)) x := by
        have z3' := z3
        rw [← k] at z3'
        exact z3'
      rw [this]
      exact x2⟩)
  have := len_sub (xs := x :: rowF (pwR n a (s + 1)) x :: stU n (pwR n a s)) (ys := stU n (pwR n a (s + 1))) (by
    refine List.nodup_cons.mpr ⟨fun e => ?_, List.nodup_cons.mpr ⟨ny, stU_nd n _⟩⟩
    rcases List.mem_cons.mp e with e | e
    · exact y2 e.symm
    · exact nx e) (fun z hz => by
    rcases List.mem_cons.mp hz with rfl | hz
    · exact hx
    · rcases List.mem_cons.mp hz with rfl | hz
      · exact hy
      · exact sub z hz)
  simpa using this
theorem pwR_stays {n : Nat} {a : List Nat} (h : IsMat n n a) (h0 : 0 < n) (hn : n ≤ 8) : ∃ s, s ≤ 8 ∧ pwR n a (s + 1) = pwR n a s := by
  refine Classical.byContradiction fun hno => ?_
  have key : ∀ s, s ≤ 9 → 2 * s ≤ (stU n (pwR n a s)).length := by
    intro s
    induction s with
    | zero => intro _; omega
    | succ s ih =>
      intro hs
      have := pwR_more h h0 s fun e => hno ⟨s, by omega, e⟩
      have := ih (by omega)
      omega
  have k9 := key 9 (by omega)
  have : (stU n (pwR n a 9)).length ≤ n + n := by
    have := List.length_filter_le (fun x => (decide (x < n)) == (decide (rowF (pwR n a 9) x < n))) (List.range (n + n))
    rw [List.length_range] at this
    exact this
  omega
end VS
set_option Elab.async false
set_option linter.all false
namespace VS
/-! ### labels: whatever the order of the links -/
theorem lkL_keep : ∀ (l : List (Nat × Nat)) {L : Nat → Nat} {x y : Nat}, L x = L y → lkL L l x = lkL L l y
  | [], _, _, _, h => h
  | p :: l, L, x, y, h => lkL_keep l (L := lk L p) (by unfold lk; rw [h])
theorem lkL_in : ∀ (l : List (Nat × Nat)) {L : Nat → Nat}, ∀ p ∈ l, lkL L l p.1 = lkL L l p.2
  | q :: l, L, p, h => by
    rcases List.mem_cons.mp h with rfl | h
    · refine lkL_keep l (L := lk L p) ?_
      unfold lk
      by_cases c : L p.1 = L p.2
      · rw [if_pos c, if_pos rfl]
      · rw [if_neg c, if_pos rfl]
    · exact lkL_in l p h
theorem lkL_least {f : Nat → Nat} : ∀ (l : List (Nat × Nat)) {L : Nat → Nat}, (∀ p ∈ l, f p.1 = f p.2) → (∀ x y, L x = L y → f x = f y) → ∀ x y, lkL L l x = lkL L l y → f x = f y
  | [], _, _, h, x, y, e => h x y e
  | p :: l, L, hp, h, x, y, e => by
    refine lkL_least l (L := lk L p) (fun q hq => hp q (List.mem_cons_of_mem _ hq)) (fun a b q => ?_) x y e
    have pp := hp p (List.mem_cons_self ..)
    unfold lk at q
    by_cases c1 : L a = L p.2 <;> by_cases c2 : L b = L p.2
    · exact h a b (c1.trans c2.symm)
    · rw [if_pos c1, if_neg c2] at q
      rw [h a p.2 c1, ← pp, h p.1 b q]
    · rw [if_neg c1, if_pos c2] at q
      rw [h a p.1 q, pp, h b p.2 c2]
    · rw [if_neg c1, if_neg c2] at q
      exact h a b q
theorem lkL_mem {l l' : List (Nat × Nat)} (h : ∀ q, q ∈ l ↔ q ∈ l') (x y : Nat) : lkL id l x = lkL id l y ↔ lkL id l' x = lkL id l' y :=
  ⟨lkL_least (f := lkL id l') l (fun p hp => lkL_in l' p ((h p).mp hp)) (fun a b e => by rw [show a = b from e]) x y, lkL_least (f := lkL id l) l' (fun p hp => lkL_in l p ((h p).mpr hp)) (fun a b e => by rw [show a = b from e]) x y⟩
/-- as many labels -/
theorem vals_le {N : Nat} {L M : Nat → Nat} (h : ∀ x y, M x = M y → L x = L y) {l1 l2 : List Int} (n1 : l1.Nodup) (m1 : ∀ v, v ∈ l1 ↔ v ∈ (List.range N).map fun p => ((L p : Nat) : Int)) (m2 : ∀ v, v ∈ l2 ↔ v ∈ (List.range N).map fun p => ((M p : Nat) : Int)) : l1.length ≤ l2.length := by
  have key : ∀ l : List Int, l.Nodup → (∀ v ∈ l, v ∈ (List.range N).map fun p => ((L p : Nat) : Int)) → ∃ ps : List Nat, ps.length = l.length ∧ (∀ p ∈ ps, p < N ∧ ((L p : Nat) : Int) ∈ l) ∧ (ps.map M).Nodup := by
    intro l
    induction l with
    | nil => intro _ _; exact ⟨[], rfl, (fun p hp => by cases hp), .nil⟩
    | cons v l ih =>
      intro nd hv
      obtain ⟨n1, n2⟩ := List.nodup_cons.mp nd
      obtain ⟨ps, e1, e2, e3⟩ := ih n2 fun w hw => hv w (List.mem_cons_of_mem _ hw)
      obtain ⟨p, hp, e⟩ := List.mem_map.mp (hv v (List.mem_cons_self ..))
      refine ⟨p :: ps, by simp [e1], fun q hq => ?_, ?_⟩
      · rcases List.mem_cons.mp hq with rfl | hq
        · exact ⟨List.mem_range.mp hp, by rw [← e]; exact List.mem_cons_self ..⟩
        · exact ⟨(e2 q hq).1, List.mem_cons_of_mem _ (e2 q hq).2⟩
      · rw [List.map_cons]
        refine List.nodup_cons.mpr ⟨fun hm => ?_, e3⟩
        obtain ⟨q, hq, eq⟩ := List.mem_map.mp hm
        have := h q p eq
        have b := (e2 q hq).2
        rw [this] at b
        exact n1 (by rw [← e]; exact b)
  obtain ⟨ps, e1, e2, e3⟩ := key l1 n1 fun v hv => (m1 v).mp hv
  have n3 : (ps.map fun p => ((M p : Nat) : Int)).Nodup := by
    have : (ps.map fun p => ((M p : Nat) : Int)) = (ps.map M).map fun (v : Nat) => (v : Int) := by rw [List.map_map]; rfl
    rw [this]
    unfold List.Nodup
    rw [List.pairwise_map]
    exact e3.imp fun hab e => hab (Int.ofNat.inj e)
  have := len_sub n3 fun v hv => by
    obtain ⟨p, hp, e⟩ := List.mem_map.mp hv
    exact (m2 v).mpr (List.mem_map.mpr ⟨p, List.mem_range.mpr (e2 p hp).1, e⟩)
  rw [List.length_map, e1] at this
  exact this
theorem ded_ex : ∀ xs : List Int, ∃ l : List Int, l.Nodup ∧ ∀ v, v ∈ l ↔ v ∈ xs
  | [] => ⟨[], .nil, fun _ => Iff.rfl⟩
  | x :: xs => by
    obtain ⟨l, h1, h2⟩ := ded_ex xs
    by_cases c : x ∈ l
    · refine ⟨l, h1, fun v => ?_⟩
      rw [List.mem_cons]
      constructor
      · intro h; exact .inr ((h2 v).mp h)
      · rintro (rfl | h)
        · exact c
        · exact (h2 v).mpr h
    · refine ⟨x :: l, List.nodup_cons.mpr ⟨c, h1⟩, fun v => ?_⟩
      rw [List.mem_cons, List.mem_cons, h2]
def strQ (N : Nat) (e : Nat → Nat) : List (Nat × Nat) := ((List.range N).filter fun a => decide (a < e a)).map fun a => (a, e a)
theorem strQ_mem {N : Nat} {e : Nat → Nat} {q : Nat × Nat} : q ∈ strQ N e ↔ q.1 < N ∧ q.1 < q.2 ∧ q.2 = e q.1 := by
  unfold strQ
  rw [List.mem_map]
  constructor
  · rintro ⟨a, ha, rfl⟩
    obtain ⟨h1, h2⟩ := List.mem_filter.mp ha
    exact ⟨List.mem_range.mp h1, of_decide_eq_true h2, rfl⟩
  · rintro ⟨h1, h2, h3⟩
    exact ⟨q.1, List.mem_filter.mpr ⟨List.mem_range.mpr h1, by rw [← h3]; exact decide_eq_true h2⟩, Prod.ext rfl h3.symm⟩
/-- all pegs of a row of mats are joined -/
theorem jC_pt {n : Nat} : ∀ (k o x : Nat), o + n ≤ x → x < o + k * (n + n) + n → Pt (jC n o k) x
  | 0, o, x, h1, h2 => by omega
  | k + 1, o, x, h1, h2 => by
    have e : (k + 1) * (n + n) = k * (n + n) + (n + n) := Nat.succ_mul k (n + n)
    rw [e] at h2
    by_cases c : x < o + (n + n) + n
    · by_cases d : x < o + (n + n)
      · exact ⟨_, List.mem_append_left _ (blk_mem.mpr ⟨x - o - n, by omega, rfl⟩), .inl (by simp only []; omega)⟩
      · exact ⟨_, List.mem_append_left _ (blk_mem.mpr ⟨x - o - (n + n), by omega, rfl⟩), .inr (by simp only []; omega)⟩
    · obtain ⟨p, hp, hx⟩ := jC_pt (n := n) k (o + (n + n)) x (by omega) (by omega)
      exact ⟨p, List.mem_append_right _ hp, hx⟩
theorem jM_pt {n u x : Nat} (h : x < (u + 1) * (n + n)) : Pt (jM n u) x := by
  rw [Nat.succ_mul] at h
  by_cases c : x < n
  · exact ⟨_, List.mem_append_right _ (clo_mem.mpr ⟨x, c, rfl⟩), .inr rfl⟩
  · by_cases d : x < u * (n + n) + n
    · obtain ⟨p, hp, hx⟩ := jC_pt (n := n) u 0 x (by omega) (by omega)
      exact ⟨p, List.mem_append_left _ hp, hx⟩
    · exact ⟨_, List.mem_append_right _ (clo_mem.mpr ⟨x - u * (n + n) - n, by omega, rfl⟩), .inl (by simp only []; omega)⟩
/-- as many labels as rings -/
theorem row_labels {n u : Nat} {rs : List (List Nat)} (h : PrL (n + n) rs) (hu : rs.length = u + 1) {l : List (Nat × Nat)} (hl : ∀ q, q ∈ l ↔ q ∈ strQ ((u + 1) * (n + n)) (eL (n + n) rs) ∨ q ∈ jM n u)
    {l1 : List Int} (n1 : l1.Nodup) (m1 : ∀ v, v ∈ l1 ↔ v ∈ (List.range ((u + 1) * (n + n))).map fun p => ((lkL id l p : Nat) : Int)) : l1.length = rowM n rs := by
  have pr : Pr ((u + 1) * (n + n)) (eL (n + n) rs) := fun x hx => by
    obtain ⟨a, b⟩ := eL_iv rs h x
    rw [← hu] at hx ⊢
    exact ⟨(a hx).1, (a hx).2, b⟩
  have ok := jM_ok h hu
  obtain ⟨R, lj⟩ := LJ.all (jM n u) (LJ.start pr) (fun p hp => ⟨(jM_in hp).1, (jM_in hp).2.1, trivial, trivial, (jM_in hp).2.2⟩) (jM_pw n u)
  have e : lkL (lkL id (strQ ((u + 1) * (n + n)) (eL (n + n) rs))) (jM n u) = lkL id (strQ ((u + 1) * (n + n)) (eL (n + n) rs) ++ jM n u) := by
    unfold lkL
    rw [List.foldl_append]
  obtain ⟨l2, d2, m2, -⟩ : ∃ l2 : List Int, l2.Nodup ∧ (∀ v, v ∈ l2 ↔ v ∈ (List.range ((u + 1) * (n + n))).map fun p => ((lkL id (strQ ((u + 1) * (n + n)) (eL (n + n) rs) ++ jM n u) p : Nat) : Int)) ∧ True := by
    obtain ⟨l2, a, b⟩ := ded_ex ((List.range ((u + 1) * (n + n))).map fun p => ((lkL id (strQ ((u + 1) * (n + n)) (eL (n + n) rs) ++ jM n u) p : Nat) : Int))
    exact ⟨l2, a, b, trivial⟩
  have c := lj.count (K := []) (fun x => by
    constructor
    · intro hx; cases hx
    · rintro ⟨hx, _, hn⟩
      exact absurd (jM_pt hx) hn) (l1 := l2) (l2 := []) d2 .nil (by
        show ∀ v, v ∈ l2 ↔ v ∈ (List.range ((u + 1) * (n + n))).map fun p => ((lkL (lkL id (strQ ((u + 1) * (n + n)) (eL (n + n) rs))) (jM n u) p : Nat) : Int)
        rw [e]
        exact m2) (fun v => by simp)
  rw [List.length_nil, Nat.zero_add] at c
  have mm := lkL_mem (l := l) (l' := strQ ((u + 1) * (n + n)) (eL (n + n) rs) ++ jM n u) fun q => (hl q).trans List.mem_append.symm
  have q1 := vals_le (fun x y => (mm x y).mpr) n1 m1 m2
  have q2 := vals_le (fun x y => (mm x y).mp) d2 m2 m1
  show l1.length = (elL (0, eL (n + n) rs) (jM n (rs.length - 1))).1
  rw [hu, Nat.add_sub_cancel, ← c]
  omega
/-! ### powers, and rows of two -/
theorem rowM_rest {n : Nat} {a : List Nat} (h : Pr (n + n) (rowF a)) : ∀ (k s : Nat), ∃ r : Nat, rowM n (pwR n a s :: List.replicate k a) = r + (clS n (pwR n a (s + k)) 0 n).1 ∧ ∀ f : Nat → Nat, (∀ i, f (i + 1) = f i + (bhL (pwR n a i) a n n n).1) → f (s + k) = f s + r
  | 0, s => ⟨0, by rw [Nat.zero_add]; exact rowM_one (pwR_pr h s), fun f _ => rfl⟩
  | k + 1, s => by
    obtain ⟨r, e1, e2⟩ := rowM_rest h k (s + 1)
    refine ⟨(bhL (pwR n a s) a n n n).1 + r, ?_, fun f hf => ?_⟩
    · rw [List.replicate_succ, rowM_merge (fun x hx => by
        rcases List.mem_cons.mp hx with rfl | hx
        · exact pwR_pr h s
        · rcases List.mem_cons.mp hx with rfl | hx
          · exact h
          · obtain rfl := List.eq_of_mem_replicate hx
            exact h)]
      show _ + rowM n (pwR n a (s + 1) :: _) = _
      rw [e1, show s + 1 + k = s + (k + 1) by omega]
      omega
    · have := e2 f hf
      rw [show s + 1 + k = s + (k + 1) by omega, hf s] at this
      omega
/-- mats in a row, one and one other, again and again -/
def twoL (a b : List Nat) : Nat → List (List Nat)
  | 0 => []
  | k + 1 => a :: b :: twoL a b k
theorem twoL_pr {N : Nat} {a b : List Nat} (ha : Pr N (rowF a)) (hb : Pr N (rowF b)) : ∀ k, PrL N (twoL a b k)
  | 0 => fun r hr => by cases hr
  | k + 1 => fun r hr => by
    rcases List.mem_cons.mp hr with rfl | hr
    · exact ha
    · rcases List.mem_cons.mp hr with rfl | hr
      · exact hb
      · exact twoL_pr ha hb k r hr
theorem rowM_twoG {n : Nat} {a b : List Nat} (ha : Pr (n + n) (rowF a)) (hb : Pr (n + n) (rowF b)) : ∀ (f g : Nat), rowM n (twoL a b f ++ List.replicate g (bhL a b n n n).2) = f * (bhL a b n n n).1 + rowM n (List.replicate (f + g) (bhL a b n n n).2)
  | 0, g => by
    show rowM n (List.replicate g _) = _
    rw [Nat.zero_mul, Nat.zero_add, Nat.zero_add]
  | f + 1, g => by
    have hc : Pr (n + n) (rowF (bhL a b n n n).2) := bhL_pr ha hb
    have hp : PrL (n + n) (twoL a b f ++ List.replicate g (bhL a b n n n).2) := fun r hr => by
      rcases List.mem_append.mp hr with hr | hr
      · exact twoL_pr ha hb f r hr
      · obtain rfl := List.eq_of_mem_replicate hr
        exact hc
    show rowM n (a :: b :: (twoL a b f ++ List.replicate g _)) = _
    rw [rowM_merge (fun r hr => by
      rcases List.mem_cons.mp hr with rfl | hr
      · exact ha
      · rcases List.mem_cons.mp hr with rfl | hr
        · exact hb
        · exact hp r hr), rowM_turn (fun r hr => by
      rcases List.mem_cons.mp hr with rfl | hr
      · exact hc
      · exact hp r hr), List.append_assoc]
    have : List.replicate g (bhL a b n n n).2 ++ [(bhL a b n n n).2] = List.replicate (g + 1) (bhL a b n n n).2 := List.replicate_succ'.symm
    rw [this, rowM_twoG ha hb f (g + 1), Nat.succ_mul, show f + 1 + g = f + (g + 1) by omega]
    omega
theorem rowM_two {n : Nat} {a b : List Nat} (ha : Pr (n + n) (rowF a)) (hb : Pr (n + n) (rowF b)) (f : Nat) : rowM n (twoL a b f) = f * (bhL a b n n n).1 + rowM n (List.replicate f (bhL a b n n n).2) := by
  have := rowM_twoG ha hb f 0
  rw [List.replicate_zero, List.append_nil] at this
  exact this
theorem twoL_turn (a b : List Nat) : ∀ k, twoL a b (k + 1) = a :: (twoL b a k ++ [b])
  | 0 => rfl
  | k + 1 => by
    show a :: b :: twoL a b (k + 1) = a :: (b :: a :: twoL b a k ++ [b])
    rw [twoL_turn a b k]
    rfl
theorem rowM_swap {n : Nat} {a b : List Nat} (ha : Pr (n + n) (rowF a)) (hb : Pr (n + n) (rowF b)) : ∀ f, rowM n (twoL a b f) = rowM n (twoL b a f)
  | 0 => rfl
  | f + 1 => by
    have hp := twoL_pr ha hb (f + 1)
    rw [twoL_turn] at hp ⊢
    rw [rowM_turn hp, List.append_assoc]
    have : ∀ k, twoL b a k ++ [b, a] = twoL b a (k + 1) := by
      intro k
      induction k with
      | zero => rfl
      | succ k ih =>
        show b :: a :: (twoL b a k ++ [b, a]) = b :: a :: twoL b a (k + 1)
        rw [ih]
    exact congrArg _ (this f)
end VS
set_option Elab.async false
set_option linter.all false
namespace VS
/-! ### the links of mats in a row, as they are listed -/
def shQ (s : Nat) (ps : List (Nat × Nat)) : List (Nat × Nat) := ps.map fun p => (s + p.1, s + p.2)
def jnA (n T a : Nat) : List (Nat × Nat) := (List.range n).map fun p => (a * (n + n) + n + p, ((a + 1) % T) * (n + n) + p)
def lnkR (n T : Nat) : Nat → List (List Nat) → List (Nat × Nat)
  | _, [] => []
  | a, r :: rs => shQ (a * (n + n)) (strQ (n + n) (rowF r)) ++ jnA n T a ++ lnkR n T (a + 1) rs
theorem lnkR_snoc (n T : Nat) (r : List Nat) : ∀ (rs : List (List Nat)) (a : Nat), lnkR n T a (rs ++ [r]) = lnkR n T a rs ++ (shQ ((a + rs.length) * (n + n)) (strQ (n + n) (rowF r)) ++ jnA n T (a + rs.length))
  | [], a => by
    show _ ++ [] = [] ++ _
    rw [List.append_nil, List.nil_append]
    rfl
  | x :: rs, a => by
    show _ ++ lnkR n T (a + 1) (rs ++ [r]) = (_ ++ lnkR n T (a + 1) rs) ++ _
    rw [lnkR_snoc n T r rs (a + 1), List.length_cons, show a + 1 + rs.length = a + (rs.length + 1) by omega]
    simp only [List.append_assoc]
theorem lnkR_len (n T : Nat) : ∀ (rs : List (List Nat)) (a : Nat), (lnkR n T a rs).length ≤ rs.length * (n + n + n)
  | [], a => by simp [lnkR]
  | x :: rs, a => by
    have ih := lnkR_len n T rs (a + 1)
    have h1 : (shQ (a * (n + n)) (strQ (n + n) (rowF x))).length ≤ n + n := by
      unfold shQ strQ
      rw [List.length_map, List.length_map]
      exact Nat.le_trans (List.length_filter_le _ _) (by simp)
    have h2 : (jnA n T a).length = n := by unfold jnA; simp
    show (_ ++ _ ++ lnkR n T (a + 1) rs).length ≤ _
    rw [List.length_append, List.length_append, List.length_cons, Nat.succ_mul]
    omega
theorem lnkR_mem {n T : Nat} {q : Nat × Nat} : ∀ (rs : List (List Nat)) (a : Nat), PrL (n + n) rs → rs ≠ [] → a + rs.length = T → (q ∈ lnkR n T a rs ↔ (∃ z, z < rs.length * (n + n) ∧ z < eL (n + n) rs z ∧ q = (a * (n + n) + z, a * (n + n) + eL (n + n) rs z)) ∨ q ∈ jC n (a * (n + n)) (rs.length - 1) ++ clo n ((T - 1) * (n + n)))
  | [], a, _, h, _ => absurd rfl h
  | r :: rs, a, hp, _, hT => by
    have e : (r :: rs).length * (n + n) = n + n + rs.length * (n + n) := by rw [List.length_cons, Nat.succ_mul, Nat.add_comm]
    have es : q ∈ shQ (a * (n + n)) (strQ (n + n) (rowF r)) ↔ ∃ z, z < n + n ∧ z < rowF r z ∧ q = (a * (n + n) + z, a * (n + n) + rowF r z) := by
      unfold shQ
      rw [List.mem_map]
      constructor
      · rintro ⟨p, hp, rfl⟩
        obtain ⟨h1, h2, h3⟩ := strQ_mem.mp hp
        exact ⟨p.1, h1, by rw [← h3]; exact h2, by rw [h3]⟩
      · rintro ⟨z, h1, h2, rfl⟩
        exact ⟨(z, rowF r z), strQ_mem.mpr ⟨h1, h2, rfl⟩, rfl⟩
    have eh : ∀ z, z < n + n → eL (n + n) (r :: rs) z = rowF r z := fun z hz => if_pos hz
    have et : ∀ z, eL (n + n) (r :: rs) (n + n + z) = n + n + eL (n + n) rs z := fun z => by
      show (if n + n + z < n + n then _ else _) = _
      rw [if_neg (by omega), Nat.add_sub_cancel_left]
    have e1 : (a + 1) * (n + n) = a * (n + n) + (n + n) := Nat.succ_mul _ _
    show q ∈ (shQ (a * (n + n)) (strQ (n + n) (rowF r)) ++ jnA n T a) ++ lnkR n T (a + 1) rs ↔ _
    rw [List.mem_append, List.mem_append, es, e]
    by_cases c : rs = []
    · subst c
      have ej : jnA n T a = clo n ((T - 1) * (n + n)) := by
        have : T = a + 1 := by rw [← hT]; rfl
        rw [this]
        unfold jnA clo
        rw [Nat.mod_self, Nat.zero_mul, Nat.add_sub_cancel]
        exact List.map_congr_left fun p _ => by rw [Nat.zero_add]
      rw [ej]
      show (_ ∨ q ∈ clo n ((T - 1) * (n + n))) ∨ q ∈ [] ↔ _ ∨ q ∈ [] ++ clo n ((T - 1) * (n + n))
      rw [List.nil_append]
      constructor
      · rintro ((⟨z, h1, h2, h3⟩ | h) | h)
        · exact .inl ⟨z, by simp; omega, by rw [eh z h1]; exact h2, by rw [eh z h1]; exact h3⟩
        · exact .inr h
        · cases h
      · rintro (⟨z, h1, h2, h3⟩ | h)
        · have h1 : z < n + n := by simpa using h1
          rw [eh z h1] at h2 h3
          exact .inl (.inl ⟨z, h1, h2, h3⟩)
        · exact .inl (.inr h)
    · have ih := lnkR_mem (T := T) (q := q) rs (a + 1) hp.tail c (by rw [← hT, List.length_cons]; omega)
      rw [ih, e1]
      obtain ⟨u, hu⟩ : ∃ u, rs.length = u + 1 := ⟨rs.length - 1, by have := List.length_pos_iff.mpr c; omega⟩
      have ej : jnA n T a = blk n (a * (n + n)) := by
        have : (a + 1) % T = a + 1 := Nat.mod_eq_of_lt (by rw [← hT, List.length_cons]; omega)
        unfold jnA blk
        rw [this, e1]
      rw [ej]
      have ec : jC n (a * (n + n)) ((r :: rs).length - 1) = blk n (a * (n + n)) ++ jC n (a * (n + n) + (n + n)) (rs.length - 1) := by
        rw [List.length_cons, Nat.add_sub_cancel, hu, Nat.add_sub_cancel]
        rfl
      rw [ec, List.append_assoc, List.mem_append (s := blk n (a * (n + n)))]
      constructor
      · rintro ((⟨z, h1, h2, h3⟩ | h) | (⟨z, h1, h2, h3⟩ | h))
        · exact .inl ⟨z, by omega, by rw [eh z h1]; exact h2, by rw [eh z h1]; exact h3⟩
        · exact .inr (.inl h)
        · refine .inl ⟨n + n + z, by omega, by rw [et]; omega, ?_⟩
          rw [et, h3]
          exact Prod.ext (by simp only; omega) (by simp only; omega)
        · exact .inr (.inr h)
      · rintro (⟨z, h1, h2, h3⟩ | (h | h))
        · by_cases cz : z < n + n
          · rw [eh z cz] at h2 h3
            exact .inl (.inl ⟨z, cz, h2, h3⟩)
          · obtain ⟨y, rfl⟩ : ∃ y, z = n + n + y := ⟨z - (n + n), by omega⟩
            rw [et] at h2 h3
            refine .inr (.inl ⟨y, by omega, by omega, ?_⟩)
            rw [h3]
            exact Prod.ext (by simp only; omega) (by simp only; omega)
        · exact .inl (.inr h)
        · exact .inr (.inr h)
/-- the same members -/
theorem lnkR_all {n u : Nat} {rs : List (List Nat)} (h : PrL (n + n) rs) (hu : rs.length = u + 1) (q : Nat × Nat) : q ∈ lnkR n (u + 1) 0 rs ↔ q ∈ strQ ((u + 1) * (n + n)) (eL (n + n) rs) ∨ q ∈ jM n u := by
  rw [lnkR_mem rs 0 h (fun e => by rw [e] at hu; simp at hu) (by rw [hu]; omega), strQ_mem, hu, Nat.zero_mul, Nat.add_sub_cancel]
  unfold jM
  constructor
  · rintro (⟨z, h1, h2, rfl⟩ | h)
    · simp only [Nat.zero_add]
      exact .inl ⟨h1, h2, trivial⟩
    · exact .inr h
  · rintro (⟨h1, h2, h3⟩ | h)
    · refine .inl ⟨q.1, h1, by rw [← h3]; exact h2, ?_⟩
      rw [Nat.zero_add, Nat.zero_add, ← h3]
    · exact .inr h
theorem lnkR_lt {n u : Nat} {rs : List (List Nat)} (h : PrL (n + n) rs) (hu : rs.length = u + 1) : ∀ p ∈ lnkR n (u + 1) 0 rs, p.1 < (u + 1) * (n + n) ∧ p.2 < (u + 1) * (n + n) := fun p hp => by
  rcases (lnkR_all h hu p).mp hp with q | q
  · obtain ⟨h1, h2, h3⟩ := strQ_mem.mp q
    refine ⟨h1, ?_⟩
    rw [h3]
    have := ((eL_iv rs h p.1).1 (by rw [hu]; exact h1)).1
    rwa [hu] at this
  · exact ⟨(jM_in q).1, (jM_in q).2.1⟩
end VS
set_option Elab.async false
set_option linter.all false
set_option maxRecDepth 100000
namespace VS
open PySem PySem.Spec PyProof.Rows L2
/-! ### values as data; a list bears whether it is owned -/
inductive D where
  | non | bl (b : Bool) | int (i : Int) | str (s : Str)
  | tup (xs : List D) | lst (o : Bool) (xs : List D) | ty (n : String) | scr (ns : List Int)
  | exc (n : Str) (d : D)
  | dct (o : Bool) (kvs : List (Int × Int))
mutual
def noOwn : D → Bool
  | .tup xs => noOwns xs
  | .lst o xs => !o && noOwns xs
  | .dct o _ => !o
  | _ => true
def noOwns : List D → Bool
  | [] => true
  | x :: r => noOwn x && noOwns r
end
mutual
def freeze : D → D
  | .tup xs => .tup (freezes xs)
  | .lst _ xs => .lst false (freezes xs)
  | .dct _ kvs => .dct false kvs
  | d => d
def freezes : List D → List D
  | [] => []
  | x :: r => freeze x :: freezes r
end
/-- a dict of whole numbers, as the kit tells it -/
def kvK (kvs : List (Int × Int)) : List (Key × V) := kvs.map fun p => (.inl p.1, .int p.2)
/-- what may be owned -/
inductive LD : HO → Prop
  | l (vs : List V) : LD (.lst vs)
  | d (kvs : List (Key × V)) : LD (.dK kvs)
/-- a caught exception, tracked -/
def ExV (a C dd : Addr) : HO := .ext fun h => ∃ (oe : Obj) (vs : Array Value), h.get? a = some oe ∧ L2N.Zn (.ref C) (some dd) oe ∧ oe.data = .fields vs
/-- the class that a name of the module's means -/
def ClsAt (K : PySem.W.Frag) (n : Str) (C : Addr) : Prop := PySem.W.nsIn K mainGlobals n = some (some (.ref C))
variable (K : PySem.W.Frag)
mutual
inductive Rep (K : PySem.W.Frag) (G H : Hp) : V → D → List Addr → Prop
  | non : Rep K G H .non .non []
  | bl (b : Bool) : Rep K G H (.bl b) (.bl b) []
  | int (i : Int) : Rep K G H (.int i) (.int i) []
  | str (s : Str) : Rep K G H (.str s) (.str s) []
  | ty (n : String) : Rep K G H (.ty n) (.ty n) []
  | tup {a : Addr} {vs : List V} {xs : List D} {L : List Addr} : SqT K G a vs → Reps K G H vs xs L → Rep K G H (.ref a) (.tup xs) L
  | scr {a : Addr} {ns : List Int} : SqL K G a (ns.map V.int) → Rep K G H (.ref a) (.scr ns) []
  | exc {a C dd : Addr} {n : Str} {v : V} {d : D} : G a = some (ExV a C dd) → G dd = some (.xd [(("value" : Str), v)]) → ClsAt K n C → Rep K G H v d [] → Rep K G H (.ref a) (.exc n d) []
  | lstS {a : Addr} {vs : List V} {xs : List D} {L : List Addr} : G a = some (.lst vs) → Reps K G H vs xs L → L = [] → Rep K G H (.ref a) (.lst false xs) L
  | lstO {a : Addr} {vs : List V} {xs : List D} {L : List Addr} : G a = none → H a = some (.lst vs) → a ∉ L → Reps K G H vs xs L → Rep K G H (.ref a) (.lst true xs) (a :: L)
  | dctS {a : Addr} {kvs : List (Int × Int)} : G a = some (.dK (kvK kvs)) → Rep K G H (.ref a) (.dct false kvs) []
  | dctO {a : Addr} {kvs : List (Int × Int)} : G a = none → H a = some (.dK (kvK kvs)) → Rep K G H (.ref a) (.dct true kvs) [a]
inductive Reps (K : PySem.W.Frag) (G H : Hp) : List V → List D → List Addr → Prop
  | nil : Reps K G H [] [] []
  | cons {v : V} {d : D} {L M : List Addr} {vs : List V} {ds : List D} : Rep K G H v d L → Reps K G H vs ds M → (∀ a, a ∈ L → a ∉ M) → Reps K G H (v :: vs) (d :: ds) (L ++ M)
end
section
variable {K : PySem.W.Frag} {G H G' H' : Hp}
theorem Same.rd {a : Addr} {u : HO} (e : Same G G') (h : Rd G a u) : Rd G' a u := by
  rcases h with h | ⟨o, h⟩
  · exact .inl (e a _ h)
  · exact .inr ⟨o, e a _ h⟩
theorem Same.seqT {a : Addr} {xs : List V} (e : Same G G') (h : SqT K G a xs) : SqT K G' a xs := by
  rcases h with h | h
  · exact .inl (Same.rd e h)
  · exact .inr h
/-- what is owned stands in H, not in G -/
structure Keep (G H G' H' : Hp) (L : List Addr) : Prop where
  g : Same G G'
  o : ∀ a ∈ L, G a = none → G' a = none
  h : ∀ a ∈ L, H' a = H a
theorem Keep.sub {L M : List Addr} (k : Keep G H G' H' L) (h : ∀ a, a ∈ M → a ∈ L) : Keep G H G' H' M := ⟨k.g, fun a ha => k.o a (h a ha), fun a ha => k.h a (h a ha)⟩
mutual
theorem Rep.keep {v : V} {d : D} {L : List Addr} (r : Rep K G H v d L) (k : Keep G H G' H' L) : Rep K G' H' v d L := by
  cases r with
  | non => exact .non
  | bl b => exact .bl b
  | int i => exact .int i
  | str s => exact .str s
  | ty n => exact .ty n
  | tup h r => exact .tup (Same.seqT k.g h) (Reps.keep r k)
  | scr h => exact .scr (Same.seq k.g h)
  | exc h1 h2 h3 r => exact .exc (k.g _ _ h1) (k.g _ _ h2) h3 (Rep.keep r (k.sub fun a z => nomatch z))
  | lstS h r e => exact .lstS (k.g _ _ h) (Reps.keep r k) e
  | dctS h => exact .dctS (k.g _ _ h)
  | dctO hg hh => exact .dctO (k.o _ (List.mem_cons_self) hg) ((k.h _ List.mem_cons_self).trans hh)
  | lstO hg hh hn r => exact .lstO (k.o _ (List.mem_cons_self) hg) ((k.h _ List.mem_cons_self).trans hh) hn (Reps.keep r (k.sub fun a ha => List.mem_cons_of_mem _ ha))
theorem Reps.keep {vs : List V} {ds : List D} {L : List Addr} (r : Reps K G H vs ds L) (k : Keep G H G' H' L) : Reps K G' H' vs ds L := by
  cases r with
  | nil => exact .nil
  | cons h r n => exact .cons (Rep.keep h (k.sub fun a ha => List.mem_append_left _ ha)) (Reps.keep r (k.sub fun a ha => List.mem_append_right _ ha)) n
end
mutual
theorem Rep.owned {v : V} {d : D} {L : List Addr} (r : Rep K G H v d L) : ∀ a ∈ L, G a = none ∧ ∃ o, H a = some o ∧ LD o := by
  cases r with
  | non => intro a h; cases h
  | bl b => intro a h; cases h
  | int i => intro a h; cases h
  | str s => intro a h; cases h
  | ty n => intro a h; cases h
  | scr q => intro a h; cases h
  | exc _ _ _ _ => intro a h; cases h
  | tup h r => exact Reps.owned r
  | lstS h r e => exact Reps.owned r
  | lstO hg hh hn r =>
    intro a ha
    rcases List.mem_cons.mp ha with e | e
    · subst e; exact ⟨hg, _, hh, .l _⟩
    · exact Reps.owned r a e
  | dctS h => intro a h; cases h
  | dctO hg hh =>
    intro a ha
    obtain rfl := List.mem_singleton.mp ha
    exact ⟨hg, _, hh, .d _⟩
theorem Reps.owned {vs : List V} {ds : List D} {L : List Addr} (r : Reps K G H vs ds L) : ∀ a ∈ L, G a = none ∧ ∃ o, H a = some o ∧ LD o := by
  cases r with
  | nil => intro a h; cases h
  | cons h r n =>
    intro a ha
    rcases List.mem_append.mp ha with e | e
    · exact Rep.owned h a e
    · exact Reps.owned r a e
end
mutual
theorem Rep.noL {v : V} {d : D} {L : List Addr} (r : Rep K G H v d L) (h : noOwn d = true) : L = [] := by
  cases r with
  | non => rfl
  | bl b => rfl
  | int i => rfl
  | str s => rfl
  | ty n => rfl
  | scr _ => rfl
  | exc _ _ _ _ => rfl
  | tup _ r => exact Reps.noL r h
  | lstS _ r e => exact e
  | lstO _ _ _ r => exact absurd h (by simp [noOwn])
  | dctS _ => rfl
  | dctO _ _ => exact absurd h (by simp [noOwn])
theorem Reps.noL {vs : List V} {ds : List D} {L : List Addr} (r : Reps K G H vs ds L) (h : noOwns ds = true) : L = [] := by
  cases r with
  | nil => rfl
  | cons q r n =>
    simp only [noOwns, Bool.and_eq_true] at h
    rw [Rep.noL q h.1, Reps.noL r h.2]
    rfl
end
mutual
theorem Rep.ofL {v : V} {d : D} {L : List Addr} (r : Rep K G H v d L) (h : L = []) : noOwn d = true := by
  cases r with
  | non => rfl
  | bl b => rfl
  | int i => rfl
  | str s => rfl
  | ty n => rfl
  | scr _ => rfl
  | exc _ _ _ _ => rfl
  | tup _ r => exact Reps.ofL r h
  | lstS _ r e => simp only [noOwn, Reps.ofL r e]; rfl
  | lstO _ _ _ r => cases h
  | dctS _ => rfl
  | dctO _ _ => cases h
theorem Reps.ofL {vs : List V} {ds : List D} {L : List Addr} (r : Reps K G H vs ds L) (h : L = []) : noOwns ds = true := by
  cases r with
  | nil => rfl
  | cons q r n =>
    obtain ⟨h1, h2⟩ := List.append_eq_nil_iff.mp h
    simp only [noOwns, Rep.ofL q h1, Reps.ofL r h2]; rfl
end
theorem Reps.length {vs : List V} {ds : List D} {L : List Addr} (r : Reps K G H vs ds L) : vs.length = ds.length := by
  induction ds generalizing vs L with
  | nil => cases r; rfl
  | cons d ds ih => cases r with | cons _ r _ => simp [ih r]
end
end VS
set_option Elab.async false
set_option linter.all false
set_option maxRecDepth 100000
namespace VS
open PySem PySem.Spec PyProof.Rows L2
section
variable {K : PySem.W.Frag} {G H G' H' : Hp}
mutual
theorem Rep.frz {v : V} {d : D} {L : List Addr} (r : Rep K G H v d L) (k : Same G G') (h : ∀ a ∈ L, G' a = H a) : Rep K G' H v (freeze d) [] := by
  cases r with
  | non => exact .non
  | bl b => exact .bl b
  | int i => exact .int i
  | str s => exact .str s
  | ty n => exact .ty n
  | scr q => exact .scr (Same.seq k q)
  | exc h1 h2 h3 r => exact .exc (k _ _ h1) (k _ _ h2) h3 (r.keep ⟨k, fun _ z _ => (nomatch z), fun _ z => (nomatch z)⟩)
  | tup q r => exact .tup (Same.seqT k q) (Reps.frz r k h)
  | lstS q r e => exact .lstS (k _ _ q) (Reps.frz r k h) rfl
  | lstO hg hh hn r =>
    exact .lstS ((h _ List.mem_cons_self).trans hh) (Reps.frz r k fun a ha => h a (List.mem_cons_of_mem _ ha)) rfl
  | dctS q => exact .dctS (k _ _ q)
  | dctO hg hh => exact .dctS ((h _ List.mem_cons_self).trans hh)
theorem Reps.frz {vs : List V} {ds : List D} {L : List Addr} (r : Reps K G H vs ds L) (k : Same G G') (h : ∀ a ∈ L, G' a = H a) : Reps K G' H vs (freezes ds) [] := by
  cases r with
  | nil => exact .nil
  | cons q r n =>
    have := Reps.cons (Rep.frz q k fun a ha => h a (List.mem_append_left _ ha)) (Reps.frz r k fun a ha => h a (List.mem_append_right _ ha)) (fun a ha => by cases ha)
    exact this
end
end
mutual
theorem noOwn_frz : ∀ d : D, noOwn (freeze d) = true
  | .tup xs => by simp only [freeze, noOwn]; exact noOwns_frz xs
  | .lst o xs => by simp only [freeze, noOwn]; rw [noOwns_frz xs]; rfl
  | .non => rfl
  | .bl _ => rfl
  | .int _ => rfl
  | .str _ => rfl
  | .ty _ => rfl
  | .scr _ => rfl
  | .exc _ _ => rfl
  | .dct _ _ => rfl
theorem noOwns_frz : ∀ ds : List D, noOwns (freezes ds) = true
  | [] => rfl
  | d :: ds => by simp only [freezes, noOwns]; rw [noOwn_frz d, noOwns_frz ds]; rfl
end
/-! ### what a step does to the heaps: G is frozen for good, A is what it may change -/
structure Tr (G H : Hp) (A : Addr → Prop) (G' H' : Hp) (A' : Addr → Prop) : Prop where
  g : Same G G'
  sub : Same G' H'
  keep : ∀ a o, H a = some o → ¬ A a → H' a = some o
  keepG : ∀ a o, H a = some o → ¬ A a → G' a = G a
  new : ∀ a, A' a → A a ∨ H a = none
  dom : ∀ a, H' a = none → H a = none
section
variable {K : PySem.W.Frag} {G H G' H' G1 H1 G2 H2 : Hp} {A A' A1 A2 B : Addr → Prop}
theorem Tr.refl (h : Same G H) : Tr G H A G H A := ⟨Same.refl G, h, fun _ _ e _ => e, fun _ _ _ _ => rfl, fun _ h => .inl h, fun _ h => h⟩
theorem Tr.trans (a : Tr G H A G1 H1 A1) (b : Tr G1 H1 A1 G2 H2 A2) : Tr G H A G2 H2 A2 := by
  have k1 : ∀ x o, H x = some o → ¬ A x → ¬ A1 x := fun x o e n h => by
    rcases a.new x h with q | q
    · exact n q
    · rw [q] at e; cases e
  refine ⟨a.g.trans b.g, b.sub, fun x o e n => b.keep x o (a.keep x o e n) (k1 x o e n), fun x o e n => (b.keepG x o (a.keep x o e n) (k1 x o e n)).trans (a.keepG x o e n), fun x h => ?_, fun x h => a.dom x (b.dom x h)⟩
  rcases b.new x h with q | q
  · exact a.new x q
  · exact .inr (a.dom x q)
/-- more may be changed, less is borne behind -/
theorem Tr.wk (a : Tr G H A G1 H1 A1) (h : ∀ x, A x → B x) (h' : ∀ x, A2 x → A1 x ∨ B x ∨ H x = none) : Tr G H B G1 H1 A2 :=
  ⟨a.g, a.sub, fun x o e n => a.keep x o e fun q => n (h x q), fun x o e n => a.keepG x o e fun q => n (h x q), fun x q => by
    rcases h' x q with q | q | q
    · rcases a.new x q with q | q
      · exact .inl (h x q)
      · exact .inr q
    · exact .inl q
    · exact .inr q, a.dom⟩
theorem Tr.post (a : Tr G H A G1 H1 A1) (h : ∀ x, A2 x → A1 x) : Tr G H A G1 H1 A2 := a.wk (fun _ h => h) fun x q => .inl (h x q)
/-- what stands apart -/
theorem Tr.keeps (t : Tr G H A G' H' A') {L : List Addr} (ho : ∀ a ∈ L, G a = none ∧ ∃ o, H a = some o ∧ LD o) (n : ∀ a ∈ L, ¬ A a) : Keep G H G' H' L := by
  refine ⟨t.g, fun a ha hg => ?_, fun a ha => ?_⟩
  · obtain ⟨_, vs, e, _⟩ := ho a ha
    exact (t.keepG a _ e (n a ha)).trans hg
  · obtain ⟨_, vs, e, _⟩ := ho a ha
    rw [e]; exact t.keep a _ e (n a ha)
theorem Rep.tr {v : V} {d : D} {L : List Addr} (r : Rep K G H v d L) (t : Tr G H A G' H' A') (n : ∀ a ∈ L, ¬ A a) : Rep K G' H' v d L := r.keep (t.keeps r.owned n)
theorem Reps.tr {vs : List V} {ds : List D} {L : List Addr} (r : Reps K G H vs ds L) (t : Tr G H A G' H' A') (n : ∀ a ∈ L, ¬ A a) : Reps K G' H' vs ds L := r.keep (t.keeps r.owned n)
/-- .. is still apart -/
theorem Tr.apart (t : Tr G H A G' H' A') {L : List Addr} (ho : ∀ a ∈ L, G a = none ∧ ∃ o, H a = some o ∧ LD o) (n : ∀ a ∈ L, ¬ A a) : ∀ a ∈ L, ¬ A' a := fun a ha h => by
  obtain ⟨_, vs, e, _⟩ := ho a ha
  rcases t.new a h with q | q
  · exact n a ha q
  · rw [q] at e; cases e
/-- a new object, frozen -/
theorem Tr.newG {p : Addr} {o : HO} (h : Same G H) (hp : H p = none) : Tr G H A (upd G p o) (upd H p o) A := by
  have gp : G p = none := h.free hp
  refine ⟨fun a u e => by rw [upd_ne (ne_of_none e gp)]; exact e, fun a u e => ?_, fun a u e _ => by rw [upd_ne (ne_of_none e hp)]; exact e, fun a u e _ => by rw [upd_ne (ne_of_none e hp)], fun _ q => .inl q, fun a e => ?_⟩
  · by_cases q : a = p
    · subst q; rw [upd_same] at e ⊢; exact e
    · rw [upd_ne q] at e ⊢; exact h a u e
  · by_cases q : a = p
    · subst q; exact hp
    · rw [upd_ne q] at e; exact e
/-- a new list, owned -/
theorem Tr.newO {p : Addr} {o : HO} (h : Same G H) (hp : H p = none) : Tr G H A G (upd H p o) (fun a => A a ∨ a = p) := by
  have gp : G p = none := h.free hp
  refine ⟨Same.refl G, fun a u e => by rw [upd_ne (ne_of_none e gp)]; exact h a u e, fun a u e _ => by rw [upd_ne (ne_of_none e hp)]; exact e, fun _ _ _ _ => rfl, fun a q => ?_, fun a e => ?_⟩
  · rcases q with q | q
    · exact .inl q
    · subst q; exact .inr hp
  · by_cases q : a = p
    · subst q; exact hp
    · rw [upd_ne q] at e; exact e
/-- an owned list written -/
theorem Tr.write {p : Addr} {o : HO} (h : Same G H) (hg : G p = none) (ha : A p) (hH : ∃ o, H p = some o) : Tr G H A G (upd H p o) A := by
  refine ⟨Same.refl G, fun a u e => by rw [upd_ne (ne_of_none e hg)]; exact h a u e, fun a u e n => ?_, fun _ _ _ _ => rfl, fun a q => .inl q, fun a e => ?_⟩
  · by_cases q : a = p
    · subst q; exact absurd ha n
    · rw [upd_ne q]; exact e
  · by_cases q : a = p
    · subst q; rw [upd_same] at e; cases e
    · rw [upd_ne q] at e; exact e
end
/-! ### the slots -/
abbrev Env := List (Option D)
def getS (ρ : Env) (i : Nat) : Option D := (ρ[i]?).join
structure REnv (K : PySem.W.Frag) (G H : Hp) (σ : L2.St) (ρ : Env) (F : Nat → List Addr) : Prop where
  sub : Same G H
  len : σ.length = ρ.length
  at_ : ∀ i d, getS ρ i = some d → ∃ v, σ[i]? = some (some v) ∧ Rep K G H v d (F i)
  off : ∀ i, getS ρ i = none → F i = []
  dis : ∀ i j, i ≠ j → ∀ a, a ∈ F i → a ∉ F j
def own (F : Nat → List Addr) (a : Addr) : Prop := ∃ i, a ∈ F i
section
variable {K : PySem.W.Frag} {G H G' H' : Hp} {σ : L2.St} {ρ : Env} {F : Nat → List Addr} {A A' : Addr → Prop}
theorem REnv.owned (r : REnv K G H σ ρ F) (i : Nat) : ∀ a ∈ F i, G a = none ∧ ∃ o, H a = some o ∧ LD o := fun a ha => by
  cases q : getS ρ i with
  | none => rw [r.off i q] at ha; cases ha
  | some d => obtain ⟨v, _, h⟩ := r.at_ i d q; exact h.owned a ha
theorem REnv.tr (r : REnv K G H σ ρ F) (t : Tr G H A G' H' A') (n : ∀ a, own F a → ¬ A a) : REnv K G' H' σ ρ F := by
  refine ⟨t.sub, r.len, fun i d q => ?_, r.off, r.dis⟩
  obtain ⟨v, e, h⟩ := r.at_ i d q
  exact ⟨v, e, h.tr t fun a ha => n a ⟨i, ha⟩⟩
theorem REnv.lt (r : REnv K G H σ ρ F) {i : Nat} {d : D} (q : getS ρ i = some d) : i < ρ.length := by
  unfold getS at q
  cases e : ρ[i]? with
  | none => rw [e] at q; cases q
  | some o => exact (List.getElem?_eq_some_iff.mp e).1
def fset (F : Nat → List Addr) (i : Nat) (L : List Addr) : Nat → List Addr := fun j => if j = i then L else F j
theorem fset_same {i : Nat} {L : List Addr} : fset F i L i = L := if_pos rfl
theorem fset_ne {i j : Nat} {L : List Addr} (h : j ≠ i) : fset F i L j = F j := if_neg h
theorem getS_set {ρ : Env} {i j : Nat} {o : Option D} : getS (ρ.set i o) j = if j = i ∧ i < ρ.length then o else getS ρ j := by
  unfold getS
  rw [List.getElem?_set]
  by_cases h : i = j
  · subst h
    by_cases h2 : i < ρ.length
    · simp [h2]
    · simp [h2]
  · rw [if_neg h, if_neg (by rintro ⟨rfl, _⟩; exact h rfl)]
/-- a slot of the data is given up -/
theorem REnv.drop (r : REnv K G H σ ρ F) (i : Nat) : REnv K G H σ (ρ.set i none) (fset F i []) := by
  refine ⟨r.sub, by rw [List.length_set]; exact r.len, fun j d q => ?_, fun j q => ?_, fun j k n a ha => ?_⟩
  · rw [getS_set] at q
    by_cases h : j = i
    · subst h
      by_cases h2 : j < ρ.length
      · rw [if_pos ⟨rfl, h2⟩] at q; cases q
      · rw [if_neg (fun z => h2 z.2)] at q; exact absurd (r.lt q) h2
    · rw [if_neg (fun z => h z.1)] at q
      rw [fset_ne h]; exact r.at_ j d q
  · by_cases h : j = i
    · subst h; exact fset_same
    · rw [fset_ne h]; rw [getS_set, if_neg (fun z => h z.1)] at q; exact r.off j q
  · by_cases h : j = i
    · subst h; rw [fset_same] at ha; cases ha
    · rw [fset_ne h] at ha
      by_cases h2 : k = i
      · subst h2; rw [fset_same]; exact List.not_mem_nil
      · rw [fset_ne h2]; exact r.dis j k n a ha
/-- a slot gets a value: its place too -/
theorem REnv.put (r : REnv K G H σ ρ F) {i : Nat} (hi : i < ρ.length) {v : V} {d : D} {L : List Addr} (h : Rep K G H v d L) (n : ∀ a ∈ L, ∀ j, j ≠ i → a ∉ F j) : REnv K G H (σ.set i (some v)) (ρ.set i (some d)) (fset F i L) := by
  refine ⟨r.sub, by rw [List.length_set, List.length_set]; exact r.len, fun j e q => ?_, fun j q => ?_, fun j k ne a ha => ?_⟩
  · rw [getS_set] at q
    by_cases hj : j = i
    · subst hj
      rw [if_pos ⟨rfl, hi⟩] at q; cases q
      exact ⟨v, by rw [List.getElem?_set_self (by rw [r.len]; exact hi)], by rw [fset_same]; exact h⟩
    · rw [if_neg (fun z => hj z.1)] at q
      obtain ⟨w, e1, e2⟩ := r.at_ j e q
      exact ⟨w, by rw [List.getElem?_set_ne (Ne.symm hj)]; exact e1, by rw [fset_ne hj]; exact e2⟩
  · rw [getS_set] at q
    by_cases hj : j = i
    · subst hj; rw [if_pos ⟨rfl, hi⟩] at q; cases q
    · rw [if_neg (fun z => hj z.1)] at q; rw [fset_ne hj]; exact r.off j q
  · by_cases hj : j = i
    · subst hj
      rw [fset_same] at ha
      rw [fset_ne (Ne.symm ne)]
      exact n a ha k (Ne.symm ne)
    · rw [fset_ne hj] at ha
      by_cases hk : k = i
      · subst hk
        rw [fset_same]
        exact fun q => n a q j hj ha
      · rw [fset_ne hk]; exact r.dis j k ne a ha
/-- .. the data alone (the place holds the value already) -/
theorem REnv.re (r : REnv K G H σ ρ F) {i : Nat} (hi : i < ρ.length) {v : V} {d : D} {L : List Addr} (hv : σ[i]? = some (some v)) (h : Rep K G H v d L) (n : ∀ a ∈ L, ∀ j, j ≠ i → a ∉ F j) : REnv K G H σ (ρ.set i (some d)) (fset F i L) := by
  have q := r.put hi h n
  have e : σ.set i (some v) = σ := by
    apply List.ext_getElem?
    intro j
    by_cases hj : i = j
    · subst hj; rw [List.getElem?_set_self (by rw [r.len]; exact hi), hv]
    · rw [List.getElem?_set_ne hj]
  rw [e] at q
  exact q
end
end VS
set_option Elab.async false
set_option linter.all false
set_option maxRecDepth 100000
namespace VS
open PySem PySem.Spec PyProof.Rows L2
abbrev FE := Env → Option (D × Env)
abbrev FB := Env → Option (Bool × Env)
/-- an operand: a slot that is read where the operation is done, or a value made ahead of it -/
inductive Op where
  | b (i : Nat) | t (f : FE)
def litF (d : D) : FE := fun ρ => some (d, ρ)
/-- a name as a value: what it owns is frozen -/
def varF (i : Nat) : FE := fun ρ => (getS ρ i).bind fun d => if noOwn d = true then some (d, ρ) else some (freeze d, ρ.set i (some (freeze d)))
/-- a name's value is moved out -/
def movF (i : Nat) : FE := fun ρ => (getS ρ i).bind fun d => some (d, ρ.set i none)
def evOps : List Op → Env → Option (List (Option D) × Env)
  | [], ρ => some ([], ρ)
  | .b i :: r, ρ => (getS ρ i).bind fun _ => (evOps r ρ).bind fun p => some (none :: p.1, p.2)
  | .t f :: r, ρ => (f ρ).bind fun q => (evOps r q.2).bind fun p => some (some q.1 :: p.1, p.2)
def fetch : List Op → List (Option D) → Env → Option (List D)
  | .b i :: r, _ :: ts, ρ => (getS ρ i).bind fun d => (fetch r ts ρ).bind fun ds => some (d :: ds)
  | .t _ :: r, some d :: ts, ρ => (fetch r ts ρ).bind fun ds => some (d :: ds)
  | [], _, _ => some []
  | _, _, _ => none
/-- an operation that reads its operands -/
def opF (g : List D → Option D) (ops : List Op) : FE := fun ρ => (evOps ops ρ).bind fun p => (fetch ops p.1 p.2).bind fun ds => (g ds).bind fun d => some (d, p.2)
section
variable (K : PySem.W.Frag)
def SimE (te : TE) (f : FE) : Prop := ∀ ρ d ρ', f ρ = some (d, ρ') → ∀ (σ : L2.St) (G H : Hp) (F : Nat → List Addr), REnv K G H σ ρ F → ∀ Q : VK,
  (∀ v G' H' F' L, Tr G H (own F) G' H' (fun a => own F' a ∨ a ∈ L) → REnv K G' H' σ ρ' F' → Rep K G' H' v d L → (∀ a ∈ L, ¬ own F' a) → Q v H') → te σ H Q
def SimT (tt : TT) (f : FB) : Prop := ∀ ρ b ρ', f ρ = some (b, ρ') → ∀ (σ : L2.St) (G H : Hp) (F : Nat → List Addr), REnv K G H σ ρ F → ∀ Q : Bool → Hp → Prop,
  (∀ G' H' F', Tr G H (own F) G' H' (own F') → REnv K G' H' σ ρ' F' → Q b H') → tt σ H Q
def SimO (te : TE) (o : Op) : Prop := match o with
  | .b i => te = tVar i
  | .t f => SimE K te f
inductive OpsOk (G H : Hp) (σ : L2.St) : List Op → List (Option D) → List V → List Addr → Prop
  | nil : OpsOk G H σ [] [] [] []
  | b {i : Nat} {v : V} {o : Option D} {ops ts vs M} : σ[i]? = some (some v) → OpsOk G H σ ops ts vs M → OpsOk G H σ (.b i :: ops) (o :: ts) (v :: vs) M
  | t {f : FE} {v : V} {d : D} {L : List Addr} {ops ts vs M} : Rep K G H v d L → (∀ a ∈ L, a ∉ M) → OpsOk G H σ ops ts vs M → OpsOk G H σ (.t f :: ops) (some d :: ts) (v :: vs) (L ++ M)
def SimA (ta : TA) (ops : List Op) : Prop := ∀ ρ ts ρ', evOps ops ρ = some (ts, ρ') → ∀ (σ : L2.St) (G H : Hp) (F : Nat → List Addr), REnv K G H σ ρ F → ∀ Q : List V → Hp → Prop,
  (∀ vs G' H' F' M, Tr G H (own F) G' H' (fun a => own F' a ∨ a ∈ M) → REnv K G' H' σ ρ' F' → OpsOk K G' H' σ ops ts vs M → (∀ a ∈ M, ¬ own F' a) → Q vs H') → ta σ H Q
end
section
variable {K : PySem.W.Frag}
theorem simE_lit {v : V} {d : D} (h : ∀ G H, Rep K G H v d []) : SimE K (tC v) (litF d) := by
  intro ρ d' ρ' e σ G H F r Q q
  cases e
  exact q v G H F [] ((Tr.refl r.sub).post fun a h => h.elim id fun z => nomatch z) r (h _ _) (fun a z => nomatch z)
theorem simE_var (i : Nat) : SimE K (tVar i) (varF i) := by
  intro ρ d ρ' e σ G H F r Q q
  unfold varF at e
  cases hd : getS ρ i with
  | none => rw [hd] at e; cases e
  | some d0 =>
    rw [hd] at e
    obtain ⟨v, hv, hr⟩ := r.at_ i d0 hd
    by_cases hn : noOwn d0 = true
    · have e' : some (d0, ρ) = some (d, ρ') := by rw [← e]; simp [hn]
      cases e'
      have e0 := hr.noL hn
      rw [e0] at hr
      exact ⟨v, hv, q v G H F [] ((Tr.refl r.sub).post fun a h => h.elim id fun z => nomatch z) r hr (fun a z => nomatch z)⟩
    · have e' : some (freeze d0, ρ.set i (some (freeze d0))) = some (d, ρ') := by rw [← e]; simp [hn]
      cases e'
      have own' : ∀ a ∈ F i, G a = none ∧ ∃ o, H a = some o ∧ LD o := r.owned i
      have hG : ∀ a, a ∉ F i → (fun a => if a ∈ F i then H a else G a) a = G a := fun a h => if_neg h
      have hG1 : ∀ a ∈ F i, (fun a => if a ∈ F i then H a else G a) a = H a := fun a h => if_pos h
      generalize (fun a => if a ∈ F i then H a else G a : Hp) = G1 at hG hG1
      have s1 : Same G G1 := fun a o h => by
        have : a ∉ F i := fun z => by rw [(own' a z).1] at h; cases h
        rw [hG a this]; exact h
      have s2 : Same G1 H := fun a o h => by
        by_cases z : a ∈ F i
        · rw [hG1 a z] at h; exact h
        · rw [hG a z] at h; exact r.sub a o h
      have hr' := hr.frz s1 hG1
      have renv : REnv K G1 H σ ρ F → False ∨ True := fun _ => .inr trivial
      have r1 : REnv K G1 H σ (ρ.set i none) (fset F i []) := by
        have rd := r.drop i
        refine ⟨s2, rd.len, fun j e h => ?_, rd.off, rd.dis⟩
        obtain ⟨w, e1, e2⟩ := rd.at_ j e h
        refine ⟨w, e1, e2.keep ⟨s1, fun a ha hg => ?_, fun a _ => rfl⟩⟩
        have : a ∉ F i := fun z => by
          by_cases hj : j = i
          · subst hj; rw [fset_same] at ha; cases ha
          · rw [fset_ne hj] at ha; exact r.dis j i hj a ha z
        rw [hG a this]; exact hg
      have r2 := r1.re (i := i) (by rw [List.length_set]; exact r.lt hd) hv hr' (fun a z => nomatch z)
      rw [List.set_set] at r2
      have hf : ∀ a, own (fset (fset F i []) i []) a → own F a := fun a ⟨j, h⟩ => by
        by_cases hj : j = i
        · subst hj; rw [fset_same] at h; cases h
        · rw [fset_ne hj, fset_ne hj] at h; exact ⟨j, h⟩
      refine ⟨v, hv, q v G1 H _ [] ⟨s1, s2, fun _ _ h _ => h, fun a o h n => hG a fun z => n ⟨i, z⟩, fun a h => .inl (h.elim (hf a) fun z => nomatch z), fun _ h => h⟩ r2 hr' (fun a z => nomatch z)⟩
theorem simE_mov (i : Nat) : SimE K (tVar i) (movF i) := by
  intro ρ d ρ' e σ G H F r Q q
  unfold movF at e
  cases hd : getS ρ i with
  | none => rw [hd] at e; cases e
  | some d0 =>
    rw [hd] at e
    obtain ⟨v, hv, hr⟩ := r.at_ i d0 hd
    have e' : some (d0, ρ.set i none) = some (d, ρ') := e
    cases e'
    refine ⟨v, hv, q v G H _ (F i) ((Tr.refl r.sub).post fun a h => ?_) (r.drop i) hr fun a ha ⟨j, h⟩ => ?_⟩
    · rcases h with ⟨j, h⟩ | h
      · by_cases hj : j = i
        · subst hj; rw [fset_same] at h; cases h
        · rw [fset_ne hj] at h; exact ⟨j, h⟩
      · exact ⟨i, h⟩
    · by_cases hj : j = i
      · subst hj; rw [fset_same] at h; cases h
      · rw [fset_ne hj] at h; exact r.dis j i hj a h ha
theorem simA_nil : SimA K tNil [] := by
  intro ρ ts ρ' e σ G H F r Q q
  cases e
  exact q [] G H F [] ((Tr.refl r.sub).post fun a h => h.elim id fun z => nomatch z) r .nil (fun a z => nomatch z)
theorem simA_cons {te : TE} {ta : TA} {o : Op} {ops : List Op} (h1 : SimO K te o) (h2 : SimA K ta ops) : SimA K (tCons te ta) (o :: ops) := by
  intro ρ ts ρ' e σ G H F r Q q
  cases o with
  | b i =>
    unfold evOps at e
    cases hd : getS ρ i with
    | none => rw [hd] at e; cases e
    | some d =>
      rw [hd] at e
      obtain ⟨v, hv, _⟩ := r.at_ i d hd
      cases he : evOps ops ρ with
      | none => rw [he] at e; cases e
      | some p =>
        obtain ⟨ts1, ρ1⟩ := p
        rw [he] at e
        have e' : some (none :: ts1, ρ1) = some (ts, ρ') := e
        cases e'
        have h1' : te = tVar i := h1
        subst h1'
        exact ⟨v, hv, h2 ρ ts1 _ he σ G H F r _ fun vs G' H' F' M t r' ok n => q (v :: vs) G' H' F' M t r' (.b hv ok) n⟩
  | t f =>
    unfold evOps at e
    cases hf : f ρ with
    | none => rw [hf] at e; cases e
    | some p =>
      obtain ⟨d, ρ1⟩ := p
      rw [hf] at e
      cases he : evOps ops ρ1 with
      | none => have e2 : (evOps ops ρ1).bind (fun p => some (some d :: p.1, p.2)) = some (ts, ρ') := e; rw [he] at e2; cases e2
      | some p =>
        obtain ⟨ts1, ρ2⟩ := p
        have e2 : (evOps ops ρ1).bind (fun p => some (some d :: p.1, p.2)) = some (ts, ρ') := e
        rw [he] at e2
        have e' : some (some d :: ts1, ρ2) = some (ts, ρ') := e2
        cases e'
        have h1' : SimE K te f := h1
        refine h1' ρ d ρ1 hf σ G H F r _ fun v G1 H1 F1 L t1 r1 rv n1 => ?_
        refine h2 ρ1 ts1 _ he σ G1 H1 F1 r1 _ fun vs G2 H2 F2 M t2 r2 ok n2 => ?_
        have ap := t2.apart (L := L) rv.owned n1
        refine q (v :: vs) G2 H2 F2 (L ++ M) ?_ r2 (.t (rv.tr t2 n1) (fun a ha hm => ap a ha (.inr hm)) ok) fun a ha => ?_
        · refine (Tr.trans (t1.post fun a h => .inl h) t2).wk (fun _ h => h) fun a h => ?_
          rcases h with h | h
          · exact .inl (.inl h)
          · rcases List.mem_append.mp h with h | h
            · rcases t1.new a (.inr h) with z | z
              · exact .inr (.inl z)
              · exact .inr (.inr z)
            · exact .inl (.inr h)
        · rcases List.mem_append.mp ha with h | h
          · exact fun z => ap a h (.inl z)
          · exact n2 a h
/-- operands by their data -/
inductive RepL (K : PySem.W.Frag) (G H : Hp) : List V → List D → Prop
  | nil : RepL K G H [] []
  | cons {v : V} {d : D} {L : List Addr} {vs : List V} {ds : List D} : Rep K G H v d L → RepL K G H vs ds → RepL K G H (v :: vs) (d :: ds)
theorem OpsOk.get {G H : Hp} {σ : L2.St} {ρ : Env} {F : Nat → List Addr} (r : REnv K G H σ ρ F) : ∀ {ops : List Op} {ts : List (Option D)} {vs : List V} {M : List Addr} {ds : List D}, OpsOk K G H σ ops ts vs M → fetch ops ts ρ = some ds → RepL K G H vs ds
  | _, _, _, _, ds, .nil, e => by
    unfold fetch at e; cases e; exact .nil
  | .b i :: ops, o :: ts, v :: vs, M, ds, .b hv ok, e => by
    unfold fetch at e
    cases hd : getS ρ i with
    | none => rw [hd] at e; cases e
    | some d =>
      rw [hd] at e
      cases he : fetch ops ts ρ with
      | none => have e2 : (fetch ops ts ρ).bind (fun ds => some (d :: ds)) = some ds := e; rw [he] at e2; cases e2
      | some ds1 =>
        have e2 : (fetch ops ts ρ).bind (fun ds => some (d :: ds)) = some ds := e
        rw [he] at e2; cases e2
        obtain ⟨w, hw, hr⟩ := r.at_ i d hd
        rw [hv] at hw; cases hw
        exact .cons hr (ok.get r he)
  | .t f :: ops, some d :: ts, v :: vs, _, ds, .t hr _ ok, e => by
    unfold fetch at e
    cases he : fetch ops ts ρ with
    | none => rw [he] at e; cases e
    | some ds1 => rw [he] at e; cases e; exact .cons hr (ok.get r he)
/-- an operation on values that reads them and makes one -/
def VOk (K : PySem.W.Frag) (r : List V → Hp → VK → Prop) (g : List D → Option D) : Prop := ∀ (G H : Hp) (vs : List V) (ds : List D) (d : D), Same G H → RepL K G H vs ds → g ds = some d → ∀ Q : VK,
  (∀ v G' H' L, Tr G H (fun _ => False) G' H' (fun a => a ∈ L) → Rep K G' H' v d L → Q v H') → r vs H Q
theorem simE_op {ta : TA} {ops : List Op} {r : List V → Hp → VK → Prop} {g : List D → Option D} (h : SimA K ta ops) (hv : VOk K r g) : SimE K (fun σ H Q => ta σ H fun vs H1 => r vs H1 Q) (opF g ops) := by
  intro ρ d ρ' e σ G H F r Q q
  unfold opF at e
  cases he : evOps ops ρ with
  | none => rw [he] at e; cases e
  | some p =>
    obtain ⟨ts, ρ1⟩ := p
    rw [he] at e
    cases hf : fetch ops ts ρ1 with
    | none => have e2 : (fetch ops ts ρ1).bind (fun ds => (g ds).bind fun d => some (d, ρ1)) = some (d, ρ') := e; rw [hf] at e2; cases e2
    | some ds =>
      have e2 : (fetch ops ts ρ1).bind (fun ds => (g ds).bind fun d => some (d, ρ1)) = some (d, ρ') := e
      rw [hf] at e2
      cases hg : g ds with
      | none => have e3 : (g ds).bind (fun d => some (d, ρ1)) = some (d, ρ') := e2; rw [hg] at e3; cases e3
      | some d1 =>
        have e3 : (g ds).bind (fun d => some (d, ρ1)) = some (d, ρ') := e2
        rw [hg] at e3; cases e3
        refine h ρ ts _ he σ G H F r _ fun vs G1 H1 F1 M t1 r1 ok n1 => ?_
        refine hv G1 H1 vs ds d r1.sub (ok.get r1 hf) hg Q fun v G2 H2 L t2 rv => ?_
        have r2 := r1.tr t2 (fun _ _ z => z)
        refine q v G2 H2 F1 L ?_ r2 rv fun a ha ⟨j, hj⟩ => ?_
        · refine (t1.trans (t2.wk (A2 := fun a => own F1 a ∨ a ∈ L) (B := fun a => own F1 a ∨ a ∈ M) (fun _ z => z.elim) fun a h => ?_))
          rcases h with h | h
          · exact .inr (.inl (.inl h))
          · exact .inl h
        · rcases t2.new a ha with z | z
          · exact z
          · obtain ⟨_, vs, e, _⟩ := r1.owned j a hj
            rw [z] at e; cases e
end
end VS
set_option Elab.async false
set_option linter.all false
set_option maxRecDepth 100000
namespace VS
open PySem PySem.Spec PyProof.Rows L2
inductive Out where
  | nx (ρ : Env) | rt (d : D) (ρ : Env) | bk (ρ : Env) | ct (ρ : Env) | rz (n : Str) (d : D) (ρ : Env)
abbrev FS := Env → Option Out
def Pin (pn : Nat → Bool) (σ σ' : L2.St) : Prop := σ'.length = σ.length ∧ ∀ i, pn i = true → σ'[i]? = σ[i]?
theorem Pin.refl {pn : Nat → Bool} {σ : L2.St} : Pin pn σ σ := ⟨rfl, fun _ _ => rfl⟩
theorem Pin.trans {pn : Nat → Bool} {σ σ1 σ2 : L2.St} (a : Pin pn σ σ1) (b : Pin pn σ1 σ2) : Pin pn σ σ2 := ⟨b.1.trans a.1, fun i h => (b.2 i h).trans (a.2 i h)⟩
theorem Pin.set {pn : Nat → Bool} {σ : L2.St} {i : Nat} {o : Option V} (h : pn i = false) : Pin pn σ (σ.set i o) := ⟨List.length_set, fun j hj => by
  have : i ≠ j := fun e => by subst e; rw [h] at hj; cases hj
  exact List.getElem?_set_ne this⟩
section
variable (K : PySem.W.Frag) (pn : Nat → Bool) (W : WX)
def PostE (σ : L2.St) (G H : Hp) (A : Addr → Prop) (ρ' : Env) (R : L2.St → Hp → Prop) : Prop := ∀ σ' G' H' F', Tr G H A G' H' (own F') → REnv K G' H' σ' ρ' F' → Pin pn σ σ' → R σ' H'
def PostR (σ : L2.St) (G H : Hp) (A : Addr → Prop) (d : D) (ρ' : Env) (R : VK) : Prop := ∀ v σ' G' H' F' L, Tr G H A G' H' (fun a => own F' a ∨ a ∈ L) → REnv K G' H' σ' ρ' F' → Pin pn σ σ' → Rep K G' H' v d L → (∀ a ∈ L, ¬ own F' a) → R v H'
/-- an exception that leaves: its class by name, its value -/
def PostX (σ : L2.St) (G H : Hp) (A : Addr → Prop) (n : Str) (d : D) (ρ' : Env) : Prop := ∀ σ' G' H' F' (C dd : Addr) (v : V), Tr G H A G' H' (own F') → REnv K G' H' σ' ρ' F' → Pin pn σ σ' → ClsAt K n C → G' dd = some (.xd [(("value" : Str), v)]) → Rep K G' H' v d [] → W (.ref C) (some dd) σ' H'
def Post (σ : L2.St) (G H : Hp) (A : Addr → Prop) (E : Ends) : Out → Prop
  | .nx ρ' => PostE K pn σ G H A ρ' E.nx
  | .bk ρ' => PostE K pn σ G H A ρ' E.bk
  | .ct ρ' => PostE K pn σ G H A ρ' E.ct
  | .rt d ρ' => PostR K pn σ G H A d ρ' E.rt
  | .rz n d ρ' => PostX K pn W σ G H A n d ρ'
def SimS (t : TS) (f : FS) : Prop := ∀ ρ o, f ρ = some o → ∀ (σ : L2.St) (G H : Hp) (F : Nat → List Addr), REnv K G H σ ρ F → ∀ E : Ends, Post K pn W σ G H (own F) E o → t E σ H
def SimG (g : TG) (f : D → Env → Option Env) : Prop := ∀ d ρ ρ', f d ρ = some ρ' → ∀ v (σ : L2.St) (G H : Hp) (F : Nat → List Addr) (L : List Addr), REnv K G H σ ρ F → Rep K G H v d L → (∀ a ∈ L, ¬ own F a) → ∀ Q : L2.St → Hp → Prop,
  PostE K pn σ G H (fun a => own F a ∨ a ∈ L) ρ' Q → g v σ H Q
def SimGs (g : TGs) (f : List D → Env → Option Env) : Prop := ∀ ds ρ ρ', f ds ρ = some ρ' → ∀ vs (σ : L2.St) (G H : Hp) (F : Nat → List Addr) (L : List Addr), REnv K G H σ ρ F → Reps K G H vs ds L → (∀ a ∈ L, ¬ own F a) → ∀ Q : L2.St → Hp → Prop,
  PostE K pn σ G H (fun a => own F a ∨ a ∈ L) ρ' Q → g vs σ H Q
end
def passF : FS := fun ρ => some (.nx ρ)
def brkF : FS := fun ρ => some (.bk ρ)
def cntF : FS := fun ρ => some (.ct ρ)
def seqF (f g : FS) : FS := fun ρ => (f ρ).bind fun o => match o with
  | .nx ρ1 => g ρ1
  | o => some o
def asgF (f : FE) (g : D → Env → Option Env) : FS := fun ρ => (f ρ).bind fun p => (g p.1 p.2).bind fun ρ' => some (.nx ρ')
def dropF (f : FE) : FS := fun ρ => (f ρ).bind fun p => some (.nx p.2)
def retF (f : FE) : FS := fun ρ => (f ρ).bind fun p => some (.rt p.1 p.2)
def retN : FS := fun ρ => some (.rt .non ρ)
def neverF : FS := fun _ => none
def ifF (c : FB) (f g : FS) : FS := fun ρ => (c ρ).bind fun p => if p.1 = true then f p.2 else g p.2
def tgN (i : Nat) : D → Env → Option Env := fun d ρ => some (ρ.set i (some d))
def tgNil : List D → Env → Option Env := fun ds ρ => match ds with
  | [] => some ρ
  | _ => none
def tgCons (g : D → Env → Option Env) (gs : List D → Env → Option Env) : List D → Env → Option Env := fun ds ρ => match ds with
  | d :: r => (g d ρ).bind fun ρ1 => gs r ρ1
  | [] => none
def tgT (n : Nat) (gs : List D → Env → Option Env) : D → Env → Option Env := fun d ρ => match d with
  | .tup xs => if xs.length = n then gs xs ρ else none
  | _ => none
/-- x[i] = v, x a name -/
def subPut (ρ : Env) (k : Nat) (d : D) : List D → Option D → Option Env
  | [.int i], some (.lst true xs) => (ixN xs.length i).bind fun j => some (ρ.set k (some (.lst true (xs.set j d))))
  | _, _ => none
def tgSub (k : Nat) (oi : Op) : D → Env → Option Env := fun d ρ => (getS ρ k).bind fun _ => (evOps [oi] ρ).bind fun p => (fetch [oi] p.1 p.2).bind fun ds => subPut p.2 k d ds (getS p.2 k)
section
variable {K : PySem.W.Frag} {pn : Nat → Bool} {W : WX}
theorem own_set {F : Nat → List Addr} {i : Nat} {L : List Addr} {a : Addr} (h : own (fset F i L) a) : own F a ∨ a ∈ L := by
  obtain ⟨j, h⟩ := h
  by_cases hj : j = i
  · subst hj; rw [fset_same] at h; exact .inr h
  · rw [fset_ne hj] at h; exact .inl ⟨j, h⟩
theorem REnv.put' {G H : Hp} {σ : L2.St} {ρ : Env} {F : Nat → List Addr} (r : REnv K G H σ ρ F) (i : Nat) {v : V} {d : D} {L : List Addr} (h : Rep K G H v d L) (n : ∀ a ∈ L, ¬ own F a) :
    ∃ F', REnv K G H (σ.set i (some v)) (ρ.set i (some d)) F' ∧ ∀ a, own F' a → own F a ∨ a ∈ L := by
  by_cases hi : i < ρ.length
  · exact ⟨_, r.put hi h fun a ha j _ z => n a ha ⟨j, z⟩, fun a h => own_set h⟩
  · refine ⟨F, ?_, fun a h => .inl h⟩
    have hl := r.len
    rw [List.set_eq_of_length_le (l := σ) (by omega), List.set_eq_of_length_le (l := ρ) (by omega)]
    exact r
theorem simG_name {i : Nat} (hp : pn i = false) : SimG K pn (gName i) (tgN i) := by
  intro d ρ ρ' e v σ G H F L r h n Q q
  cases e
  obtain ⟨F', r', o⟩ := r.put' i h n
  exact q _ G H F' ((Tr.refl r.sub).post o) r' (Pin.set hp)
theorem simGs_nil : SimGs K pn gNil tgNil := by
  intro ds ρ ρ' e vs σ G H F L r h n Q q
  cases ds with
  | nil =>
    cases h
    cases e
    exact ⟨rfl, q σ G H F ((Tr.refl r.sub).post fun a h => .inl h) r Pin.refl⟩
  | cons _ _ => cases e
theorem simGs_cons {g : TG} {gs : TGs} {f : D → Env → Option Env} {fs : List D → Env → Option Env} (h1 : SimG K pn g f) (h2 : SimGs K pn gs fs) : SimGs K pn (gCons g gs) (tgCons f fs) := by
  intro ds ρ ρ' e vs σ G H F L r h n Q q
  cases h with
  | nil => cases e
  | cons hv hr nn =>
    rename_i v d L1 L2 vs ds
    have e1 : (f d ρ).bind (fun ρ1 => fs ds ρ1) = some ρ' := e
    cases hf : f d ρ with
    | none => rw [hf] at e1; cases e1
    | some ρ1 =>
      rw [hf] at e1
      refine ⟨v, vs, rfl, h1 d ρ ρ1 hf v σ G H F L1 r hv (fun a ha => n a (List.mem_append_left _ ha)) _ fun σ1 G1 H1 F1 t1 r1 p1 => ?_⟩
      have n2 : ∀ a ∈ L2, ¬ (own F a ∨ a ∈ L1) := fun a ha z => z.elim (n a (List.mem_append_right _ ha)) fun z => nn a z ha
      refine h2 ds ρ1 ρ' e1 vs σ1 G1 H1 F1 L2 r1 (hr.tr t1 n2) (t1.apart hr.owned n2) Q fun σ2 G2 H2 F2 t2 r2 p2 => ?_
      refine q σ2 G2 H2 F2 (Tr.trans (t1.wk (A2 := fun a => own F1 a ∨ a ∈ L2) (fun a h => ?_) fun a h => ?_) t2) r2 (p1.trans p2)
      · exact h.imp id fun z => List.mem_append_left _ z
      · rcases h with h | h
        · exact .inl h
        · exact .inr (.inl (.inr (List.mem_append_right _ h)))
theorem simG_tup {n : Nat} {gs : TGs} {fs : List D → Env → Option Env} (h : SimGs K pn gs fs) : SimG K pn (gTup K n gs) (tgT n fs) := by
  intro d ρ ρ' e v σ G H F L r hv nn Q q
  cases d with
  | tup xs =>
    cases hv with
    | tup hs hr =>
      rename_i a vs
      have e1 : (if xs.length = n then fs xs ρ else none) = some ρ' := e
      by_cases hn : xs.length = n
      · rw [if_pos hn] at e1
        exact ⟨a, vs, rfl, Same.seqT r.sub hs, by rw [hr.length]; exact hn, h xs ρ ρ' e1 vs σ G H F L r hr nn Q q⟩
      · rw [if_neg hn] at e1; cases e1
  | _ => cases e
theorem simS_pass : SimS K pn W tNext passF := by
  intro ρ o e σ G H F r E q
  cases e
  exact q σ G H F (Tr.refl r.sub) r Pin.refl
theorem simS_never : SimS K pn W tNever neverF := by
  intro ρ o e; cases e
theorem PostE.mono {σ σ1 : L2.St} {G H G1 H1 : Hp} {A A1 : Addr → Prop} {ρ' : Env} {R : L2.St → Hp → Prop} (q : PostE K pn σ G H A ρ' R) (t : Tr G H A G1 H1 A1) (p : Pin pn σ σ1) : PostE K pn σ1 G1 H1 A1 ρ' R :=
  fun σ' G' H' F' t' r' p' => q σ' G' H' F' (t.trans t') r' (p.trans p')
theorem Post.mono {σ σ1 : L2.St} {G H G1 H1 : Hp} {A A1 : Addr → Prop} {o : Out} {E : Ends} (q : Post K pn W σ G H A E o) (t : Tr G H A G1 H1 A1) (p : Pin pn σ σ1) : Post K pn W σ1 G1 H1 A1 E o := by
  cases o with
  | nx ρ' => exact PostE.mono q t p
  | bk ρ' => exact PostE.mono q t p
  | ct ρ' => exact PostE.mono q t p
  | rt d ρ' => exact fun v σ' G' H' F' L t' r' p' => q v σ' G' H' F' L (t.trans t') r' (p.trans p')
  | rz n d ρ' => exact fun σ' G' H' F' C dd v t' r' p' => q σ' G' H' F' C dd v (t.trans t') r' (p.trans p')
theorem simS_seq {t u : TS} {f g : FS} (h1 : SimS K pn W t f) (h2 : SimS K pn W u g) : SimS K pn W (tSeq t u) (seqF f g) := by
  intro ρ o e σ G H F r E q
  unfold seqF at e
  cases hf : f ρ with
  | none => rw [hf] at e; cases e
  | some o1 =>
    rw [hf] at e
    refine h1 ρ o1 hf σ G H F r _ ?_
    cases o1 with
    | nx ρ1 => exact fun σ1 G1 H1 F1 t1 r1 p1 => h2 ρ1 o e σ1 G1 H1 F1 r1 E (q.mono t1 p1)
    | bk ρ1 => cases e; exact q
    | ct ρ1 => cases e; exact q
    | rt d ρ1 => cases e; exact q
    | rz n d ρ1 => cases e; exact q
theorem simS_asg {te : TE} {g : TG} {f : FE} {fg : D → Env → Option Env} (h1 : SimE K te f) (h2 : SimG K pn g fg) : SimS K pn W (tAsg te g) (asgF f fg) := by
  intro ρ o e σ G H F r E q
  unfold asgF at e
  cases hf : f ρ with
  | none => rw [hf] at e; cases e
  | some p =>
    obtain ⟨d, ρ1⟩ := p
    rw [hf] at e
    have e1 : (fg d ρ1).bind (fun ρ' => some (Out.nx ρ')) = some o := e
    cases hg : fg d ρ1 with
    | none => rw [hg] at e1; cases e1
    | some ρ2 =>
      rw [hg] at e1; cases e1
      refine h1 ρ d ρ1 hf σ G H F r _ fun v G1 H1 F1 L t1 r1 rv n1 => ?_
      refine h2 d ρ1 ρ2 hg v σ G1 H1 F1 L r1 rv n1 _ fun σ2 G2 H2 F2 t2 r2 p2 => ?_
      exact q σ2 G2 H2 F2 (t1.trans t2) r2 p2
theorem simS_drop {te : TE} {f : FE} (h1 : SimE K te f) : SimS K pn W (tDrop te) (dropF f) := by
  intro ρ o e σ G H F r E q
  unfold dropF at e
  cases hf : f ρ with
  | none => rw [hf] at e; cases e
  | some p =>
    obtain ⟨d, ρ1⟩ := p
    rw [hf] at e; cases e
    exact h1 ρ d ρ1 hf σ G H F r _ fun v G1 H1 F1 L t1 r1 rv n1 => q σ G1 H1 F1 (t1.post fun a h => .inl h) r1 Pin.refl
theorem simS_ret {te : TE} {f : FE} (h1 : SimE K te f) : SimS K pn W (tRet te) (retF f) := by
  intro ρ o e σ G H F r E q
  unfold retF at e
  cases hf : f ρ with
  | none => rw [hf] at e; cases e
  | some p =>
    obtain ⟨d, ρ1⟩ := p
    rw [hf] at e; cases e
    exact h1 ρ d ρ1 hf σ G H F r _ fun v G1 H1 F1 L t1 r1 rv n1 => q v σ G1 H1 F1 L t1 r1 Pin.refl rv n1
theorem simS_if {c : TT} {t u : TS} {fc : FB} {f g : FS} (h0 : SimT K c fc) (h1 : SimS K pn W t f) (h2 : SimS K pn W u g) : SimS K pn W (tIfS c t u) (ifF fc f g) := by
  intro ρ o e σ G H F r E q
  unfold ifF at e
  cases hf : fc ρ with
  | none => rw [hf] at e; cases e
  | some p =>
    obtain ⟨b, ρ1⟩ := p
    rw [hf] at e
    refine h0 ρ b ρ1 hf σ G H F r _ fun G1 H1 F1 t1 r1 => ?_
    cases b with
    | true => rw [if_pos rfl]; exact h1 ρ1 o e σ G1 H1 F1 r1 E (q.mono t1 Pin.refl)
    | false => rw [if_neg Bool.false_ne_true]; exact h2 ρ1 o e σ G1 H1 F1 r1 E (q.mono t1 Pin.refl)
/-- a value is frozen -/
theorem REnv.frz {G H : Hp} {σ : L2.St} {ρ : Env} {F : Nat → List Addr} {v : V} {d : D} {L : List Addr} (r : REnv K G H σ ρ F) (h : Rep K G H v d L) (n : ∀ a ∈ L, ¬ own F a) :
    ∃ G1, Tr G H (fun a => own F a ∨ a ∈ L) G1 H (own F) ∧ REnv K G1 H σ ρ F ∧ Rep K G1 H v (freeze d) [] := by
  have ho := h.owned
  refine ⟨fun a => if a ∈ L then H a else G a, ?_⟩
  have hG : ∀ a, a ∉ L → (fun a => if a ∈ L then H a else G a : Hp) a = G a := fun a h => if_neg h
  have hG1 : ∀ a ∈ L, (fun a => if a ∈ L then H a else G a : Hp) a = H a := fun a h => if_pos h
  generalize (fun a => if a ∈ L then H a else G a : Hp) = G1 at hG hG1
  have s1 : Same G G1 := fun a o h => by
    have : a ∉ L := fun z => by rw [(ho a z).1] at h; cases h
    rw [hG a this]; exact h
  have s2 : Same G1 H := fun a o h => by
    by_cases z : a ∈ L
    · rw [hG1 a z] at h; exact h
    · rw [hG a z] at h; exact r.sub a o h
  refine ⟨⟨s1, s2, fun _ _ h _ => h, fun a o h n => hG a fun z => n (.inr z), fun a h => .inl (.inl h), fun _ h => h⟩, ⟨s2, r.len, fun i e q => ?_, r.off, r.dis⟩, h.frz s1 hG1⟩
  obtain ⟨w, e1, e2⟩ := r.at_ i e q
  exact ⟨w, e1, e2.keep ⟨s1, fun a ha hg => by rw [hG a fun z => n a z ⟨i, ha⟩]; exact hg, fun a _ => rfl⟩⟩
end
/-! ### a bool as a test, and the other way -/
def truD : D → Option Bool
  | .non => some false
  | .bl b => some b
  | .int i => some (i != 0)
  | .str y => if y.length ≤ sizeLine then some ((y.length : Int) != 0) else none
  | .tup xs => some (!xs.isEmpty)
  | .lst _ xs => some (!xs.isEmpty)
  | .ty _ => none
  | .scr ns => some (!ns.isEmpty)
  | .exc _ _ => none
  | .dct _ kvs => some (!kvs.isEmpty)
/-- an expression's truth -/
def tstF (o : Op) : FB := fun ρ => (evOps [o] ρ).bind fun p => (fetch [o] p.1 p.2).bind fun ds => match ds with
  | [d] => (truD d).bind fun b => some (b, p.2)
  | _ => none
def notF (f : FB) : FB := fun ρ => (f ρ).bind fun p => some (!p.1, p.2)
def andF (f g : FB) : FB := fun ρ => (f ρ).bind fun p => if p.1 = true then g p.2 else some (false, p.2)
def orF (f g : FB) : FB := fun ρ => (f ρ).bind fun p => if p.1 = true then some (true, p.2) else g p.2
/-- a test's answer as a value -/
def bE (f : FB) : FE := fun ρ => (f ρ).bind fun p => some (.bl p.1, p.2)
def bT (f : FE) : FB := fun ρ => (f ρ).bind fun p => match p.1 with
  | .bl b => some (b, p.2)
  | _ => none
def ifE (c : FB) (f g : FE) : FE := fun ρ => (c ρ).bind fun p => if p.1 = true then f p.2 else g p.2
def andV (f g : FE) : FE := fun ρ => (f ρ).bind fun p => match p.1 with
  | .bl true => g p.2
  | .bl false => some (.bl false, p.2)
  | _ => none
def orV (f g : FE) : FE := fun ρ => (f ρ).bind fun p => match p.1 with
  | .bl false => g p.2
  | .bl true => some (.bl true, p.2)
  | _ => none
def notV (f : FE) : FE := fun ρ => (f ρ).bind fun p => match p.1 with
  | .bl b => some (.bl (!b), p.2)
  | _ => none
section
variable {K : PySem.W.Frag}
theorem len_emp {vs : List V} {xs : List D} (h : vs.length = xs.length) : (!xs.isEmpty) = !vs.isEmpty := by
  cases vs <;> cases xs <;> first | rfl | cases h
theorem Rep.tru {G H : Hp} {v : V} {d : D} {L : List Addr} {b : Bool} (hs : Same G H) (r : Rep K G H v d L) (h : truD d = some b) : TruV K v H b := by
  cases r with
  | non => cases h; rfl
  | bl c => cases h; rfl
  | int i => cases h; rfl
  | ty n => cases h
  | exc _ _ _ _ => cases h
  | str s =>
    have h' : (if s.length ≤ sizeLine then some ((s.length : Int) != 0) else none) = some b := h
    by_cases hl : s.length ≤ sizeLine
    · rw [if_pos hl] at h'; cases h'; exact ⟨hl, rfl⟩
    · rw [if_neg hl] at h'; cases h'
  | tup q r =>
    cases h
    exact .inr (.inl ⟨_, Same.seqT hs q, len_emp r.length⟩)
  | scr q =>
    cases h
    exact .inl ⟨_, Same.seq hs q, by cases ‹List Int› <;> rfl⟩
  | lstS q r e =>
    cases h
    exact .inl ⟨_, SqL.of (hs _ _ q), len_emp r.length⟩
  | lstO _ q _ r =>
    cases h
    exact .inl ⟨_, SqL.of q, len_emp r.length⟩
  | dctS q =>
    cases h
    exact .inr (.inr ⟨_, hs _ _ q, by cases ‹List (Int × Int)› <;> rfl⟩)
  | dctO _ q =>
    cases h
    exact .inr (.inr ⟨_, q, by cases ‹List (Int × Int)› <;> rfl⟩)
theorem simT_tst {te : TE} {o : Op} (h : SimO K te o) : SimT K (fun σ H Q => te σ H fun x H' => ∃ k, TruV K x H' k ∧ Q k H') (tstF o) := by
  intro ρ b ρ' e σ G H F r Q q
  unfold tstF at e
  cases he : evOps [o] ρ with
  | none => rw [he] at e; cases e
  | some p =>
    obtain ⟨ts, ρ1⟩ := p
    rw [he] at e
    cases hf : fetch [o] ts ρ1 with
    | none =>
      have e2 : (fetch [o] ts ρ1).bind (fun ds => match ds with | [d] => (truD d).bind fun b => some (b, ρ1) | _ => none) = some (b, ρ') := e
      rw [hf] at e2; cases e2
    | some ds =>
      have e2 : (fetch [o] ts ρ1).bind (fun ds => match ds with | [d] => (truD d).bind fun b => some (b, ρ1) | _ => none) = some (b, ρ') := e
      rw [hf] at e2
      have key := simA_cons (ta := tNil) (ops := []) h simA_nil ρ ts ρ1 he σ G H F r (fun vs H1 => ∀ x, vs = [x] → ∃ k, TruV K x H1 k ∧ Q k H1) fun vs G1 H1 F1 M t1 r1 ok n1 x ev => ?_
      · have : te σ H fun x H1 => ∀ y, [x] = [y] → ∃ k, TruV K y H1 k ∧ Q k H1 := key
        have m : (fun (x : V) H1 => ∀ y, [x] = [y] → ∃ k, TruV K y H1 k ∧ Q k H1) = (fun x H1 => ∃ k, TruV K x H1 k ∧ Q k H1) := by
          funext x H1
          exact propext ⟨fun h => h x rfl, fun h y e => by cases e; exact h⟩
        rw [m] at this
        exact this
      · subst ev
        have rl := ok.get r1 hf
        cases rl with
        | cons rv rr =>
          cases rr
          rename_i d L
          cases ht : truD d with
          | none => have e3 : (truD d).bind (fun b => some (b, ρ1)) = some (b, ρ') := e2; rw [ht] at e3; cases e3
          | some b1 =>
            have e3 : (truD d).bind (fun b => some (b, ρ1)) = some (b, ρ') := e2
            rw [ht] at e3; cases e3
            exact ⟨b, rv.tru r1.sub ht, q G1 H1 F1 (t1.post fun a h => .inl h) r1⟩
theorem simT_of {te : TE} {f : FE} (h : SimE K te f) : SimT K (fun σ H Q => te σ H fun x H' => ∃ k, x = .bl k ∧ Q k H') (bT f) := by
  intro ρ b ρ' e σ G H F r Q q
  unfold bT at e
  cases hf : f ρ with
  | none => rw [hf] at e; cases e
  | some p =>
    obtain ⟨d, ρ1⟩ := p
    rw [hf] at e
    cases d with
    | bl c =>
      cases e
      refine h ρ _ _ hf σ G H F r _ fun v G1 H1 F1 L t1 r1 rv n1 => ?_
      cases rv
      exact ⟨_, rfl, q G1 H1 F1 (t1.post fun a h => .inl h) r1⟩
    | _ => cases e
theorem simT_not {t : TT} {f : FB} (h : SimT K t f) : SimT K (tNot t) (notF f) := by
  intro ρ b ρ' e σ G H F r Q q
  unfold notF at e
  cases hf : f ρ with
  | none => rw [hf] at e; cases e
  | some p =>
    rw [hf] at e; cases e
    exact h ρ _ _ hf σ G H F r _ fun G1 H1 F1 t1 r1 => q G1 H1 F1 t1 r1
theorem simT_and {t u : TT} {f g : FB} (h1 : SimT K t f) (h2 : SimT K u g) : SimT K (tAnd t u) (andF f g) := by
  intro ρ b ρ' e σ G H F r Q q
  unfold andF at e
  cases hf : f ρ with
  | none => rw [hf] at e; cases e
  | some p =>
    obtain ⟨c, ρ1⟩ := p
    rw [hf] at e
    refine h1 ρ c ρ1 hf σ G H F r _ fun G1 H1 F1 t1 r1 => ?_
    cases c with
    | true => rw [if_pos rfl]; exact h2 ρ1 b ρ' e σ G1 H1 F1 r1 Q fun G2 H2 F2 t2 r2 => q G2 H2 F2 (t1.trans t2) r2
    | false => cases e; rw [if_neg Bool.false_ne_true]; exact q G1 H1 F1 t1 r1
theorem simT_or {t u : TT} {f g : FB} (h1 : SimT K t f) (h2 : SimT K u g) : SimT K (tOr t u) (orF f g) := by
  intro ρ b ρ' e σ G H F r Q q
  unfold orF at e
  cases hf : f ρ with
  | none => rw [hf] at e; cases e
  | some p =>
    obtain ⟨c, ρ1⟩ := p
    rw [hf] at e
    refine h1 ρ c ρ1 hf σ G H F r _ fun G1 H1 F1 t1 r1 => ?_
    cases c with
    | true => cases e; rw [if_pos rfl]; exact q G1 H1 F1 t1 r1
    | false => rw [if_neg Bool.false_ne_true]; exact h2 ρ1 b ρ' e σ G1 H1 F1 r1 Q fun G2 H2 F2 t2 r2 => q G2 H2 F2 (t1.trans t2) r2
theorem simE_if {t : TT} {ta tb : TE} {c : FB} {f g : FE} (h0 : SimT K t c) (h1 : SimE K ta f) (h2 : SimE K tb g) : SimE K (tIf t ta tb) (ifE c f g) := by
  intro ρ d ρ' e σ G H F r Q q
  unfold ifE at e
  cases hf : c ρ with
  | none => rw [hf] at e; cases e
  | some p =>
    obtain ⟨b, ρ1⟩ := p
    rw [hf] at e
    refine h0 ρ b ρ1 hf σ G H F r _ fun G1 H1 F1 t1 r1 => ?_
    cases b with
    | true => rw [if_pos rfl]; exact h1 ρ1 d ρ' e σ G1 H1 F1 r1 Q fun v G2 H2 F2 L t2 r2 => q v G2 H2 F2 L (t1.trans t2) r2
    | false => rw [if_neg Bool.false_ne_true]; exact h2 ρ1 d ρ' e σ G1 H1 F1 r1 Q fun v G2 H2 F2 L t2 r2 => q v G2 H2 F2 L (t1.trans t2) r2
theorem simE_andV {ta tb : TE} {f g : FE} (h1 : SimE K ta f) (h2 : SimE K tb g) : SimE K (tAndV ta tb) (andV f g) := by
  intro ρ d ρ' e σ G H F r Q q
  unfold andV at e
  cases hf : f ρ with
  | none => rw [hf] at e; cases e
  | some p =>
    obtain ⟨b, ρ1⟩ := p
    rw [hf] at e
    refine h1 ρ b ρ1 hf σ G H F r _ fun v G1 H1 F1 L t1 r1 rv n1 => ?_
    cases b with
    | bl c =>
      cases rv
      refine ⟨c, rfl, ?_⟩
      have t1' : Tr G H (own F) G1 H1 (own F1) := t1.post fun a h => .inl h
      cases c with
      | true => rw [if_pos rfl]; exact h2 ρ1 d ρ' e σ G1 H1 F1 r1 Q fun v G2 H2 F2 L t2 r2 => q v G2 H2 F2 L (t1'.trans t2) r2
      | false => cases e; rw [if_neg Bool.false_ne_true]; exact q _ G1 H1 F1 [] (t1.post fun a h => .inl (h.elim id fun z => nomatch z)) r1 (.bl false) (fun a z => nomatch z)
    | _ => cases e
theorem simE_orV {ta tb : TE} {f g : FE} (h1 : SimE K ta f) (h2 : SimE K tb g) : SimE K (tOrV ta tb) (orV f g) := by
  intro ρ d ρ' e σ G H F r Q q
  unfold orV at e
  cases hf : f ρ with
  | none => rw [hf] at e; cases e
  | some p =>
    obtain ⟨b, ρ1⟩ := p
    rw [hf] at e
    refine h1 ρ b ρ1 hf σ G H F r _ fun v G1 H1 F1 L t1 r1 rv n1 => ?_
    cases b with
    | bl c =>
      cases rv
      refine ⟨c, rfl, ?_⟩
      have t1' : Tr G H (own F) G1 H1 (own F1) := t1.post fun a h => .inl h
      cases c with
      | false => rw [if_neg Bool.false_ne_true]; exact h2 ρ1 d ρ' e σ G1 H1 F1 r1 Q fun v G2 H2 F2 L t2 r2 => q v G2 H2 F2 L (t1'.trans t2) r2
      | true => cases e; rw [if_pos rfl]; exact q _ G1 H1 F1 [] (t1.post fun a h => .inl (h.elim id fun z => nomatch z)) r1 (.bl true) (fun a z => nomatch z)
    | _ => cases e
theorem simE_notV {ta : TE} {f : FE} (h1 : SimE K ta f) : SimE K (tNotV ta) (notV f) := by
  intro ρ d ρ' e σ G H F r Q q
  unfold notV at e
  cases hf : f ρ with
  | none => rw [hf] at e; cases e
  | some p =>
    obtain ⟨b, ρ1⟩ := p
    rw [hf] at e
    refine h1 ρ b ρ1 hf σ G H F r _ fun v G1 H1 F1 L t1 r1 rv n1 => ?_
    cases b with
    | bl c =>
      cases rv; cases e
      exact ⟨c, rfl, q _ G1 H1 F1 [] (t1.post fun a h => .inl (h.elim id fun z => nomatch z)) r1 (.bl _) (fun a z => nomatch z)⟩
    | _ => cases e
end
end VS
set_option Elab.async false
set_option linter.all false
set_option maxRecDepth 100000
namespace VS
open PySem PySem.Spec PyProof.Rows L2
/-! ### loops -/
abbrev FI := Env → Option (List D × Env)
def goFor (tg : D → Env → Option Env) (body : FS) : List D → Env → Option Out
  | [], ρ => some (.nx ρ)
  | d :: ds, ρ => (tg d ρ).bind fun ρ1 => (body ρ1).bind fun o => match o with
    | .nx ρ2 => goFor tg body ds ρ2
    | .ct ρ2 => goFor tg body ds ρ2
    | .bk ρ2 => some (.nx ρ2)
    | .rt d ρ2 => some (.rt d ρ2)
    | .rz n d ρ2 => some (.rz n d ρ2)
def forF (it : FI) (tg : D → Env → Option Env) (body : FS) : FS := fun ρ => (it ρ).bind fun p => goFor tg body p.1 p.2
structure JOk (K : PySem.W.Frag) (J : It) (G0 : Hp) (ds : List D) : Prop where
  goes : ∀ i H, i < ds.length → Same G0 H → J.go i H
  stops : ∀ H, Same G0 H → J.stop ds.length H
  yields : ∀ i d G H x H', ds[i]? = some d → Same G0 G → Same G H → J.yld i H x H' → ∃ G', Tr G H (fun _ => False) G' H' (fun _ => False) ∧ Rep K G' H' x d []
def SimI (K : PySem.W.Frag) (wi : TI) (fi : FI) : Prop := ∀ ρ ds ρ', fi ρ = some (ds, ρ') → ∀ (σ : L2.St) (G H : Hp) (F : Nat → List Addr), REnv K G H σ ρ F → ∀ R : It → Hp → Prop,
  (∀ J G' H' F', Tr G H (own F) G' H' (own F') → REnv K G' H' σ ρ' F' → JOk K J G' ds → R J H') → wi σ H R
section
variable {K : PySem.W.Frag} {pn : Nat → Bool} {W : WX}
theorem simS_for {wi : TI} {g : TG} {tb : TS} {fi : FI} {fg : D → Env → Option Env} {fb : FS} (hi : SimI K wi fi) (hg : SimG K pn g fg) (hb : SimS K pn W tb fb) : SimS K pn W (tFor wi g tb) (forF fi fg fb) := by
  intro ρ o e σ G H F r E q
  unfold forF at e
  cases hf : fi ρ with
  | none => rw [hf] at e; cases e
  | some p =>
    obtain ⟨ds, ρ1⟩ := p
    rw [hf] at e
    have e0 : goFor fg fb ds ρ1 = some o := e
    refine hi ρ ds ρ1 hf σ G H F r _ fun J G1 H1 F1 t1 r1 jo => ?_
    refine ⟨fun i m σ' H' => m = ds.length - i ∧ i ≤ ds.length ∧ ∃ ρi Gi Fi, goFor fg fb (ds.drop i) ρi = some o ∧ REnv K Gi H' σ' ρi Fi ∧ Tr G1 H1 (own F1) Gi H' (own Fi) ∧ Pin pn σ σ',
      ⟨ds.length, by omega, Nat.zero_le _, ρ1, G1, F1, e0, r1, Tr.refl r1.sub, Pin.refl⟩, ?_⟩
    rintro i m σ' H' ⟨rfl, hle, ρi, Gi, Fi, eg, ri, ti, pi⟩
    have sG : Same G1 Gi := ti.g
    have sH : Same G1 H' := ti.g.trans ti.sub
    have qi := q.mono (t1.trans ti) pi
    by_cases hlt : i < ds.length
    · refine .inr ⟨jo.goes i H' hlt sH, fun σ2 H2 => ∃ m', m' < ds.length - i ∧ (m' = ds.length - (i + 1) ∧ i + 1 ≤ ds.length ∧ ∃ ρj Gj Fj, goFor fg fb (ds.drop (i + 1)) ρj = some o ∧ REnv K Gj H2 σ2 ρj Fj ∧ Tr G1 H1 (own F1) Gj H2 (own Fj) ∧ Pin pn σ σ2), fun _ _ h => h, fun x H2 hy => ?_⟩
      have hd : ds[i]? = some ds[i] := List.getElem?_eq_getElem hlt
      obtain ⟨G2, t2, rv⟩ := jo.yields i ds[i] Gi H' x H2 hd sG ri.sub hy
      have r2 := ri.tr t2 (fun _ _ z => z)
      have t2' : Tr Gi H' (own Fi) G2 H2 (own Fi) := t2.wk (fun _ z => z.elim) fun a h => .inr (.inl h)
      rw [show ds.drop i = ds[i] :: ds.drop (i + 1) from List.drop_eq_getElem_cons hlt] at eg
      have eg1 : (fg ds[i] ρi).bind (fun ρ1 => (fb ρ1).bind fun o => match o with | .nx ρ2 => goFor fg fb (ds.drop (i + 1)) ρ2 | .ct ρ2 => goFor fg fb (ds.drop (i + 1)) ρ2 | .bk ρ2 => some (.nx ρ2) | .rt d ρ2 => some (.rt d ρ2) | .rz n d ρ2 => some (.rz n d ρ2)) = some o := eg
      cases hg1 : fg ds[i] ρi with
      | none => rw [hg1] at eg1; cases eg1
      | some ρ2 =>
        rw [hg1] at eg1
        have eg2 : (fb ρ2).bind (fun o => match o with | .nx ρ2 => goFor fg fb (ds.drop (i + 1)) ρ2 | .ct ρ2 => goFor fg fb (ds.drop (i + 1)) ρ2 | .bk ρ2 => some (Out.nx ρ2) | .rt d ρ2 => some (.rt d ρ2) | .rz n d ρ2 => some (.rz n d ρ2)) = some o := eg1
        refine hg ds[i] ρi ρ2 hg1 x σ' G2 H2 Fi [] r2 rv (fun a z => nomatch z) _ fun σ3 G3 H3 F3 t3 r3 p3 => ?_
        have t3' : Tr G2 H2 (own Fi) G3 H3 (own F3) := t3.wk (fun a h => h.elim id fun z => nomatch z) fun a h => .inl h
        have q3 := qi.mono (t2'.trans t3') p3
        have tt : Tr G1 H1 (own F1) G3 H3 (own F3) := ti.trans (t2'.trans t3')
        cases hb1 : fb ρ2 with
        | none => rw [hb1] at eg2; cases eg2
        | some o2 =>
          rw [hb1] at eg2
          refine hb ρ2 o2 hb1 σ3 G3 H3 F3 r3 _ ?_
          have go : ∀ ρ4, goFor fg fb (ds.drop (i + 1)) ρ4 = some o → PostE K pn σ3 G3 H3 (own F3) ρ4 (fun σ2 H2 => ∃ m', m' < ds.length - i ∧ (m' = ds.length - (i + 1) ∧ i + 1 ≤ ds.length ∧ ∃ ρj Gj Fj, goFor fg fb (ds.drop (i + 1)) ρj = some o ∧ REnv K Gj H2 σ2 ρj Fj ∧ Tr G1 H1 (own F1) Gj H2 (own Fj) ∧ Pin pn σ σ2)) :=
            fun ρ4 e4 σ4 G4 H4 F4 t4 r4 p4 => ⟨_, by omega, rfl, hlt, ρ4, G4, F4, e4, r4, tt.trans t4, pi.trans (p3.trans p4)⟩
          cases o2 with
          | nx ρ4 => exact go ρ4 eg2
          | ct ρ4 => exact go ρ4 eg2
          | bk ρ4 => cases eg2; exact q3
          | rt d ρ4 => cases eg2; exact q3
          | rz n d ρ4 => cases eg2; exact q3
    · have ei : i = ds.length := by omega
      subst ei
      rw [List.drop_length] at eg
      cases eg
      exact .inl ⟨jo.stops H' sH, qi σ' Gi H' Fi (Tr.refl ri.sub) ri Pin.refl⟩
/-! ### while, by fuel -/
def goWhile (c : FB) (body : FS) : Nat → Env → Option Out
  | 0, _ => none
  | n + 1, ρ => (c ρ).bind fun p => if p.1 = true then (body p.2).bind fun o => match o with
      | .nx ρ2 => goWhile c body n ρ2
      | .ct ρ2 => goWhile c body n ρ2
      | .bk ρ2 => some (.nx ρ2)
      | .rt d ρ2 => some (.rt d ρ2)
      | .rz n d ρ2 => some (.rz n d ρ2)
    else some (.nx p.2)
def whF (n : Nat) (c : FB) (body : FS) : FS := fun ρ => goWhile c body n ρ
theorem simS_while {c : TT} {tb : TS} {fc : FB} {fb : FS} (n : Nat) (hc : SimT K c fc) (hb : SimS K pn W tb fb) : SimS K pn W (tWhile c tb) (whF n fc fb) := by
  intro ρ o e σ G H F r E q
  have e0 : goWhile fc fb n ρ = some o := e
  refine ⟨fun m σ' H' => ∃ ρi Gi Fi, goWhile fc fb m ρi = some o ∧ REnv K Gi H' σ' ρi Fi ∧ Tr G H (own F) Gi H' (own Fi) ∧ Pin pn σ σ', ⟨n, ρ, G, F, e0, r, Tr.refl r.sub, Pin.refl⟩, ?_⟩
  rintro m σ' H' ⟨ρi, Gi, Fi, eg, ri, ti, pi⟩
  have qi := q.mono ti pi
  cases m with
  | zero => cases eg
  | succ m =>
    have eg1 : (fc ρi).bind (fun p => if p.1 = true then (fb p.2).bind (fun o => match o with | .nx ρ2 => goWhile fc fb m ρ2 | .ct ρ2 => goWhile fc fb m ρ2 | .bk ρ2 => some (.nx ρ2) | .rt d ρ2 => some (.rt d ρ2) | .rz n d ρ2 => some (.rz n d ρ2)) else some (.nx p.2)) = some o := eg
    cases hc1 : fc ρi with
    | none => rw [hc1] at eg1; cases eg1
    | some p =>
      obtain ⟨b, ρ2⟩ := p
      rw [hc1] at eg1
      refine hc ρi b ρ2 hc1 σ' Gi H' Fi ri _ fun G2 H2 F2 t2 r2 => ?_
      have q2 := qi.mono t2 Pin.refl
      cases b with
      | false =>
        rw [if_neg Bool.false_ne_true]
        cases eg1
        exact q2 σ' G2 H2 F2 (Tr.refl r2.sub) r2 Pin.refl
      | true =>
        rw [if_pos rfl]
        have eg2 : (fb ρ2).bind (fun o => match o with | .nx ρ2 => goWhile fc fb m ρ2 | .ct ρ2 => goWhile fc fb m ρ2 | .bk ρ2 => some (Out.nx ρ2) | .rt d ρ2 => some (.rt d ρ2) | .rz n d ρ2 => some (.rz n d ρ2)) = some o := eg1
        refine ⟨fun σ3 H3 => ∃ m', m' < m + 1 ∧ ∃ ρi Gi Fi, goWhile fc fb m' ρi = some o ∧ REnv K Gi H3 σ3 ρi Fi ∧ Tr G H (own F) Gi H3 (own Fi) ∧ Pin pn σ σ3, fun _ _ h => h, ?_⟩
        cases hb1 : fb ρ2 with
        | none => rw [hb1] at eg2; cases eg2
        | some o2 =>
          rw [hb1] at eg2
          refine hb ρ2 o2 hb1 σ' G2 H2 F2 r2 _ ?_
          have go : ∀ ρ4, goWhile fc fb m ρ4 = some o → PostE K pn σ' G2 H2 (own F2) ρ4 (fun σ3 H3 => ∃ m', m' < m + 1 ∧ ∃ ρi Gi Fi, goWhile fc fb m' ρi = some o ∧ REnv K Gi H3 σ3 ρi Fi ∧ Tr G H (own F) Gi H3 (own Fi) ∧ Pin pn σ σ3) :=
            fun ρ4 e4 σ4 G4 H4 F4 t4 r4 p4 => ⟨m, Nat.lt_succ_self m, ρ4, G4, F4, e4, r4, ti.trans (t2.trans t4), pi.trans p4⟩
          cases o2 with
          | nx ρ4 => exact go ρ4 eg2
          | ct ρ4 => exact go ρ4 eg2
          | bk ρ4 => cases eg2; exact q2
          | rt d ρ4 => cases eg2; exact q2
          | rz n d ρ4 => cases eg2; exact q2
/-! ### what is walked -/
theorem Rep.far {G H G1 H1 : Hp} {v : V} {d : D} (r : Rep K G H v d []) (k : Same G G1) : Rep K G1 H1 v d [] := r.keep ⟨k, fun _ z _ => (nomatch z), fun _ z => (nomatch z)⟩
theorem Reps.far {G H G1 H1 : Hp} {v : List V} {d : List D} (r : Reps K G H v d []) (k : Same G G1) : Reps K G1 H1 v d [] := r.keep ⟨k, fun _ z _ => (nomatch z), fun _ z => (nomatch z)⟩
theorem Reps.get0 {G H : Hp} : ∀ {vs : List V} {ds : List D} {L : List Addr} {i : Nat} {v : V} {d : D}, Reps K G H vs ds L → vs[i]? = some v → ds[i]? = some d → ∃ M, Rep K G H v d M ∧ ∀ a ∈ M, a ∈ L
  | _, _, _, i, _, _, .nil, h, _ => by simp at h
  | _, _, _, 0, _, _, .cons hv _ _, h1, h2 => by
    simp at h1 h2; subst h1; subst h2
    exact ⟨_, hv, fun a ha => List.mem_append_left _ ha⟩
  | _, _, _, i + 1, _, _, .cons _ hr _, h1, h2 => by
    obtain ⟨M, q, s⟩ := hr.get0 (i := i) (by simpa using h1) (by simpa using h2)
    exact ⟨M, q, fun a ha => List.mem_append_right _ (s a ha)⟩
theorem jok_list {G0 H0 : Hp} {a : Addr} {vs : List V} {ds : List D} (h : SqL K G0 a vs) (r : Reps K G0 H0 vs ds []) : JOk K (Itl K a) G0 ds := by
  have hl := r.length
  have w := walk_list (K := K) (a := a) (xs := vs)
  refine ⟨fun i H hi s => w.goes i H (by omega) (Same.seq s h), fun H s => by rw [← hl]; exact w.stops H (Same.seq s h), fun i d G H x H' hd s1 s2 y => ?_⟩
  have hi : i < vs.length := by rw [hl]; exact (List.getElem?_eq_some_iff.mp hd).1
  obtain ⟨e, hx⟩ := w.yields i H x H' hi (Same.seq (s1.trans s2) h) y
  subst e
  obtain ⟨M, q, s⟩ := r.get0 hx hd
  have : M = [] := List.eq_nil_iff_forall_not_mem.mpr fun a ha => nomatch s a ha
  subst this
  exact ⟨G, Tr.refl s2, q.far s1⟩
theorem jok_tup {G0 H0 : Hp} {a : Addr} {vs : List V} {ds : List D} (h : SqT K G0 a vs) (r : Reps K G0 H0 vs ds []) : JOk K (Itt K a) G0 ds := by
  have hl := r.length
  have w := walk_tup (K := K) (a := a) (xs := vs)
  refine ⟨fun i H hi s => w.goes i H (by omega) (Same.seqT s h), fun H s => by rw [← hl]; exact w.stops H (Same.seqT s h), fun i d G H x H' hd s1 s2 y => ?_⟩
  have hi : i < vs.length := by rw [hl]; exact (List.getElem?_eq_some_iff.mp hd).1
  obtain ⟨e, hx⟩ := w.yields i H x H' hi (Same.seqT (s1.trans s2) h) y
  subst e
  obtain ⟨M, q, s⟩ := r.get0 hx hd
  have : M = [] := List.eq_nil_iff_forall_not_mem.mpr fun a ha => nomatch s a ha
  subst this
  exact ⟨G, Tr.refl s2, q.far s1⟩
def intsTo (lo : Int) (n : Nat) : List D := (List.range n).map fun i => .int (lo + (i : Nat))
theorem jok_range {G0 : Hp} {lo : Int} {n : Nat} : JOk K (Itr lo n) G0 (intsTo lo n) := by
  have w := walk_range (lo := lo) (n := n)
  have hl : (intsTo lo n).length = n := by unfold intsTo; rw [List.length_map, List.length_range]
  refine ⟨fun i H hi _ => w.goes i H (by omega) trivial, fun H _ => by rw [hl]; exact w.stops H trivial, fun i d G H x H' hd s1 s2 y => ?_⟩
  have hi : i < n := by rw [← hl]; exact (List.getElem?_eq_some_iff.mp hd).1
  obtain ⟨e, hx⟩ := w.yields i H x H' hi trivial y
  subst e
  have : d = .int (lo + (i : Nat)) := by
    unfold intsTo at hd
    rw [List.getElem?_map, List.getElem?_range hi] at hd
    exact (Option.some.inj hd).symm
  subst this
  rw [hx]
  exact ⟨G, Tr.refl s2, .int _⟩
def intsBy (lo c : Int) (n : Nat) : List D := (List.range n).map fun i => .int (lo + (i : Nat) * c)
/-- an iterator that gives new pairs -/
theorem jok_pair {G0 : Hp} {J : It} {n : Nat} {P : Hp → Prop} {xs ys : Nat → Option V} {ds es : List D} (w : Walk J n P (YPair xs ys)) (hP : ∀ H, Same G0 H → P H) (hl : ds.length = n) (hl2 : es.length = n)
    (hx : ∀ i d x G H, ds[i]? = some d → xs i = some x → Same G0 G → Rep K G H x d []) (hy : ∀ i d x G H, es[i]? = some d → ys i = some x → Same G0 G → Rep K G H x d []) : JOk K J G0 ((ds.zip es).map fun p => .tup [p.1, p.2]) := by
  have hz : ((ds.zip es).map fun p => D.tup [p.1, p.2]).length = n := by rw [List.length_map, List.length_zip]; omega
  refine ⟨fun i H hi s => w.goes i H (by omega) (hP H s), fun H s => by rw [hz]; exact w.stops H (hP H s), fun i d G H x H' hd s1 s2 y => ?_⟩
  have hi : i < n := by rw [← hz]; exact (List.getElem?_eq_some_iff.mp hd).1
  obtain ⟨T, u, v, rfl, hT, rfl, h1, h2⟩ := w.yields i H x H' hi (hP H (s1.trans s2)) y
  have i1 : i < ds.length := by omega
  have i2 : i < es.length := by omega
  have : d = .tup [ds[i], es[i]] := by
    have hzz : (ds.zip es)[i]? = some (ds[i], es[i]) := List.getElem?_zip_eq_some.mpr ⟨List.getElem?_eq_getElem i1, List.getElem?_eq_getElem i2⟩
    rw [List.getElem?_map, hzz] at hd
    exact (Option.some.inj hd).symm
  subst this
  refine ⟨_, Tr.newG s2 hT, .tup (.inl (.inl upd_same)) ?_⟩
  have sn : Same G (upd G T (.tup [u, v])) := (Tr.newG (A := fun _ => False) s2 hT).g
  have r1 := hx i _ u (upd G T (.tup [u, v])) (upd H T (.tup [u, v])) (List.getElem?_eq_getElem i1) h1 (s1.trans sn)
  have r2 := hy i _ v (upd G T (.tup [u, v])) (upd H T (.tup [u, v])) (List.getElem?_eq_getElem i2) h2 (s1.trans sn)
  exact .cons r1 (.cons r2 .nil fun a z => nomatch z) fun a z => nomatch z
end
end VS
set_option Elab.async false
set_option linter.all false
set_option maxRecDepth 100000
namespace VS
open PySem PySem.Spec PyProof.Rows L2
/-! ### the program's text and its data: the readings told by the data alone -/
section
variable (K : PySem.W.Frag) (pn : Nat → Bool) (W : WX)
def teOf (f : FE) : TE := fun σ H Q => ∃ ρ d ρ' G F, f ρ = some (d, ρ') ∧ REnv K G H σ ρ F ∧ ∀ v G' H' F' L, Tr G H (own F) G' H' (fun a => own F' a ∨ a ∈ L) → REnv K G' H' σ ρ' F' → Rep K G' H' v d L → (∀ a ∈ L, ¬ own F' a) → Q v H'
def ttOf (f : FB) : TT := fun σ H Q => ∃ ρ b ρ' G F, f ρ = some (b, ρ') ∧ REnv K G H σ ρ F ∧ ∀ G' H' F', Tr G H (own F) G' H' (own F') → REnv K G' H' σ ρ' F' → Q b H'
def taOf (ops : List Op) : TA := fun σ H Q => ∃ ρ ts ρ' G F, evOps ops ρ = some (ts, ρ') ∧ REnv K G H σ ρ F ∧ ∀ vs G' H' F' M, Tr G H (own F) G' H' (fun a => own F' a ∨ a ∈ M) → REnv K G' H' σ ρ' F' → OpsOk K G' H' σ ops ts vs M → (∀ a ∈ M, ¬ own F' a) → Q vs H'
def tsOf (f : FS) : TS := fun E σ H => ∃ ρ o G F, f ρ = some o ∧ REnv K G H σ ρ F ∧ Post K pn W σ G H (own F) E o
def tgOf (f : D → Env → Option Env) : TG := fun v σ H Q => ∃ d ρ ρ' G F L, f d ρ = some ρ' ∧ REnv K G H σ ρ F ∧ Rep K G H v d L ∧ (∀ a ∈ L, ¬ own F a) ∧ PostE K pn σ G H (fun a => own F a ∨ a ∈ L) ρ' Q
def tgsOf (f : List D → Env → Option Env) : TGs := fun vs σ H Q => ∃ ds ρ ρ' G F L, f ds ρ = some ρ' ∧ REnv K G H σ ρ F ∧ Reps K G H vs ds L ∧ (∀ a ∈ L, ¬ own F a) ∧ PostE K pn σ G H (fun a => own F a ∨ a ∈ L) ρ' Q
def tiOf (f : FI) : TI := fun σ H R => ∃ ρ ds ρ' G F, f ρ = some (ds, ρ') ∧ REnv K G H σ ρ F ∧ ∀ J G' H' F', Tr G H (own F) G' H' (own F') → REnv K G' H' σ ρ' F' → JOk K J G' ds → R J H'
end
section
variable {K : PySem.W.Frag} {pn : Nat → Bool} {W : WX}
theorem simE_of (f : FE) : SimE K (teOf K f) f := fun ρ d ρ' e σ G H F r Q q => ⟨ρ, d, ρ', G, F, e, r, q⟩
theorem simT_of' (f : FB) : SimT K (ttOf K f) f := fun ρ b ρ' e σ G H F r Q q => ⟨ρ, b, ρ', G, F, e, r, q⟩
theorem simA_of (f : List Op) : SimA K (taOf K f) f := fun ρ ts ρ' e σ G H F r Q q => ⟨ρ, ts, ρ', G, F, e, r, q⟩
theorem simS_of (f : FS) : SimS K pn W (tsOf K pn W f) f := fun ρ o e σ G H F r E q => ⟨ρ, o, G, F, e, r, q⟩
theorem simG_of (f : D → Env → Option Env) : SimG K pn (tgOf K pn f) f := fun d ρ ρ' e v σ G H F L r h n Q q => ⟨d, ρ, ρ', G, F, L, e, r, h, n, q⟩
theorem simGs_of (f : List D → Env → Option Env) : SimGs K pn (tgsOf K pn f) f := fun d ρ ρ' e v σ G H F L r h n Q q => ⟨d, ρ, ρ', G, F, L, e, r, h, n, q⟩
theorem simI_of (f : FI) : SimI K (tiOf K f) f := fun ρ ds ρ' e σ G H F r R q => ⟨ρ, ds, ρ', G, F, e, r, q⟩
end
section
variable (X : Cx) (pn : Nat → Bool) (W : WX)
abbrev PEf (e : Expr) (f : FE) : Prop := PE X e (teOf X.K f)
abbrev PTf (e : Expr) (f : FB) : Prop := PT X e (ttOf X.K f)
abbrev PWf (e : Expr) (f : FB) : Prop := PW X e (ttOf X.K f)
def POf (e : Expr) : Op → Prop
  | .b i => PE X e (tVar i)
  | .t f => PEf X e f
abbrev PAf (es : List Expr) (ops : List Op) : Prop := PA X es (taOf X.K ops)
abbrev PSf (st : Stmt) (f : FS) : Prop := PS X st (tsOf X.K pn W f)
abbrev PSsf (st : List Stmt) (f : FS) : Prop := PSs X st (tsOf X.K pn W f)
abbrev PGf (e : Expr) (f : D → Env → Option Env) : Prop := PG X e (tgOf X.K pn f)
abbrev PGsf (es : List Expr) (f : List D → Env → Option Env) : Prop := PGs X es (tgsOf X.K pn f)
abbrev PIf (tg e : Expr) (f : FI) : Prop := PI X tg e (tiOf X.K f)
end
section
variable {X : Cx} {pn : Nat → Bool} {W : WX} {e a b : Expr} {es : List Expr} {pos : Pos}
theorem PEf.mk {te : TE} {f : FE} (h : PE X e te) (s : SimE X.K te f) : PEf X e f := ⟨fun pins sh σ H Q I ⟨ρ, d, ρ', G, F, ee, r, q⟩ => h.run pins sh σ H Q I (s ρ d ρ' ee σ G H F r Q q)⟩
theorem PTf.mk {te : TT} {f : FB} (h : PT X e te) (s : SimT X.K te f) : PTf X e f := ⟨fun pins sh σ H Q I ⟨ρ, d, ρ', G, F, ee, r, q⟩ => h.run pins sh σ H Q I (s ρ d ρ' ee σ G H F r Q q)⟩
theorem PWf.mk {te : TT} {f : FB} (h : PW X e te) (s : SimT X.K te f) : PWf X e f := ⟨fun w pins sh σ H Q I ⟨ρ, d, ρ', G, F, ee, r, q⟩ => h.run w pins sh σ H Q I (s ρ d ρ' ee σ G H F r Q q)⟩
theorem PAf.mk {te : TA} {f : List Op} (h : PA X es te) (s : SimA X.K te f) : PAf X es f := ⟨fun p pins sh σ H Q I ⟨ρ, d, ρ', G, F, ee, r, q⟩ => h.run p pins sh σ H Q I (s ρ d ρ' ee σ G H F r Q q)⟩
theorem PSf.mk {st : Stmt} {te : TS} {f : FS} (h : PS X st te) (s : SimS X.K pn W te f) : PSf X pn W st f := ⟨fun pins sh σ H Q I ⟨ρ, d, G, F, ee, r, q⟩ => h.run pins sh σ H Q I (s ρ d ee σ G H F r Q q)⟩
theorem PSsf.mk {st : List Stmt} {te : TS} {f : FS} (h : PSs X st te) (s : SimS X.K pn W te f) : PSsf X pn W st f := ⟨fun pins sh σ H Q I ⟨ρ, d, G, F, ee, r, q⟩ => h.run pins sh σ H Q I (s ρ d ee σ G H F r Q q)⟩
theorem PGf.mk {te : TG} {f : D → Env → Option Env} (h : PG X e te) (s : SimG X.K pn te f) : PGf X pn e f := ⟨fun pins sh σ H v u Q I rv ⟨d, ρ, ρ', G, F, L, ee, r, hr, n, q⟩ => h.run pins sh σ H v u Q I rv (s d ρ ρ' ee v σ G H F L r hr n Q q)⟩
theorem PGsf.mk {te : TGs} {f : List D → Env → Option Env} (h : PGs X es te) (s : SimGs X.K pn te f) : PGsf X pn es f := ⟨fun pins sh σ H v u Q I rv ⟨d, ρ, ρ', G, F, L, ee, r, hr, n, q⟩ => h.run pins sh σ H v u Q I rv (s d ρ ρ' ee v σ G H F L r hr n Q q)⟩
theorem PIf.mk {tg : Expr} {te : TI} {f : FI} (h : PI X tg e te) (s : SimI X.K te f) : PIf X tg e f := ⟨fun pins sh σ H R I ⟨ρ, ds, ρ', G, F, ee, r, q⟩ => h.run pins sh σ H R I (s ρ ds ρ' ee σ G H F r R q)⟩
theorem POf.ex {o : Op} (h : POf X e o) : ∃ te, PE X e te ∧ SimO X.K te o := by
  cases o with
  | b i => exact ⟨_, h, rfl⟩
  | t f => exact ⟨_, h, simE_of f⟩
theorem po_b {i : Nat} (h : PE X e (tVar i)) : POf X e (.b i) := h
theorem po_t {f : FE} (h : PEf X e f) : POf X e (.t f) := h
theorem pf_var {i : Nat} (h : PE X e (tVar i)) : PEf X e (varF i) := .mk h (simE_var i)
theorem pf_mov {i : Nat} (h : PE X e (tVar i)) : PEf X e (movF i) := .mk h (simE_mov i)
theorem pf_int {i : Int} {j} : PEf X (.Constant (.int i) j pos) (litF (.int i)) := .mk pe_int (simE_lit fun _ _ => .int i)
theorem pf_bl {i : Bool} {j} : PEf X (.Constant (.bool i) j pos) (litF (.bl i)) := .mk pe_bl (simE_lit fun _ _ => .bl i)
theorem pf_non {j} : PEf X (.Constant .none j pos) (litF .non) := .mk pe_non (simE_lit fun _ _ => .non)
theorem paf_nil : PAf X [] [] := .mk pa_nil simA_nil
theorem paf_cons {o : Op} {ops : List Op} (h1 : POf X e o) (h2 : PAf X es ops) (hs : starEach (e :: es) X.env = (false, eval e X.env) :: starEach es X.env := by rfl) : PAf X (e :: es) (o :: ops) := by
  obtain ⟨te, p1, s1⟩ := h1.ex
  exact .mk (pa_cons p1 h2 hs) (simA_cons s1 (simA_of _))
/-- a two-place rule on a list of two -/
def r2L (r : R2) : List V → Hp → VK → Prop := fun vs H Q => match vs with
  | [x, y] => r x y H Q
  | _ => False
def r1L (r : V → Hp → VK → Prop) : List V → Hp → VK → Prop := fun vs H Q => match vs with
  | [x] => r x H Q
  | _ => False
theorem pf_bin {op : Operator} {r : R2} {g : List D → Option D} {o1 o2 : Op} (ho : OpR X (binaryOp op) r) (hv : VOk X.K (r2L r) g) (h1 : POf X a o1) (h2 : POf X b o2) : PEf X (.BinOp a op b pos) (opF g [o1, o2]) := by
  obtain ⟨ta, p1, s1⟩ := h1.ex
  obtain ⟨tb, p2, s2⟩ := h2.ex
  exact .mk (pe_op ho p1 p2) (simE_op (simA_cons s1 (simA_cons s2 simA_nil)) hv)
theorem pf_un {op : UnaryOp} {r : V → Hp → VK → Prop} {g : List D → Option D} {o1 : Op} (ho : UnR X (unaryOp op) r) (hv : VOk X.K (r1L r) g) (h1 : POf X a o1) : PEf X (.UnaryOp op a pos) (opF g [o1]) := by
  obtain ⟨ta, p1, s1⟩ := h1.ex
  exact .mk (pe_un ho p1) (simE_op (simA_cons s1 simA_nil) hv)
theorem pf_cmp {op : CmpOp} {r : R2} {g : List D → Option D} {o1 o2 : Op} (ho : OpR X (compareOp op) r) (hv : VOk X.K (r2L r) g) (h1 : POf X a o1) (h2 : POf X b o2) (hm : behindInMarks op b = false) : PEf X (.Compare a [op] [b] pos) (opF g [o1, o2]) := by
  obtain ⟨ta, p1, s1⟩ := h1.ex
  obtain ⟨tb, p2, s2⟩ := h2.ex
  exact .mk (pe_cmpR ho p1 p2 hm) (simE_op (simA_cons s1 (simA_cons s2 simA_nil)) hv)
theorem pt_cmpf {op : CmpOp} {r : R2} {g : List D → Option D} {o1 o2 : Op} (ho : OpR X (compareOp op) r) (hv : VOk X.K (r2L r) g) (h1 : POf X a o1) (h2 : POf X b o2) (hm : behindInMarks op b = false) : PTf X (.Compare a [op] [b] pos) (bT (opF g [o1, o2])) := by
  obtain ⟨ta, p1, s1⟩ := h1.ex
  obtain ⟨tb, p2, s2⟩ := h2.ex
  exact .mk (pt_cmpR ho p1 p2 hm) (simT_of (simE_op (simA_cons s1 (simA_cons s2 simA_nil)) hv))
theorem pf_ix {r : R2} {g : List D → Option D} {o1 o2 : Op} (ho : IxR X r) (hv : VOk X.K (r2L r) g) (h1 : POf X a o1) (h2 : POf X b o2) (hs : PlainIx b) : PEf X (.Subscript a b pos) (opF g [o1, o2]) := by
  obtain ⟨ta, p1, s1⟩ := h1.ex
  obtain ⟨tb, p2, s2⟩ := h2.ex
  exact .mk (pe_ix ho p1 p2 hs) (simE_op (simA_cons s1 (simA_cons s2 simA_nil)) hv)
theorem pf_callB {id : String} {x : Str} {p : Pos} {o : Op} {r : List V → Hp → VK → Prop} {g : List D → Option D} {ops : List Op} (hc : CallR X (.builtin id) r) (hv' : VOk X.K r g) (hg : Gl X x) (hm : X.mg x = none) (hv : bootBuiltins x = some (.builtin id)) (ha : PAf X (e :: es) (o :: ops)) (hn : x ≠ "__name__" := by decide) (hdb : (x == ("__debug__" : Str)) = false := by decide)
    (he : starEach (e :: es) X.env = (false, eval e X.env) :: starEach es X.env := by rfl) (hpl : (backTo pos (starEach es X.env)).any (·.1) = false := by rfl) : PEf X (.Call (.Name x p) (e :: es) [] pos) (opF g (o :: ops)) :=
  .mk (pe_callB hc hg hm hv ha hn hdb he hpl) (simE_op (simA_of _) hv')
theorem pf_callTy {T : String} {x : Str} {p : Pos} {o : Op} {r : List V → Hp → VK → Prop} {g : List D → Option D} {ops : List Op} (hc : CallR X (.type T) r) (hv' : VOk X.K r g) (hg : Gl X x) (hm : X.mg x = none) (hv : bootBuiltins x = some (.type T)) (ha : PAf X (e :: es) (o :: ops)) (hn : x ≠ "__name__" := by decide) (hdb : (x == ("__debug__" : Str)) = false := by decide)
    (he : starEach (e :: es) X.env = (false, eval e X.env) :: starEach es X.env := by rfl) (hpl : (backTo pos (starEach es X.env)).any (·.1) = false := by rfl) : PEf X (.Call (.Name x p) (e :: es) [] pos) (opF g (o :: ops)) :=
  .mk (pe_callTy hc hg hm hv ha hn hdb he hpl) (simE_op (simA_of _) hv')
/-! tests -/
theorem pt_tst {o : Op} (h : POf X e o) (he : ∀ whole, isTrue e X.env whole = (do let v ← whole; standAt e.pos; holding [v] (truthy v)) := by intro _; rfl) : PTf X e (tstF o) := by
  obtain ⟨te, p1, s1⟩ := h.ex
  exact .mk (pt_truth p1 he) (simT_tst s1)
theorem ptf_not {f : FB} (h : PTf X a f) : PTf X (.UnaryOp .Not a pos) (notF f) := .mk (pt_not h) (simT_not (simT_of' f))
theorem pwf_and1 {f : FB} (h : PTf X a f) : PWf X (.BoolOp .And [a] pos) f := pw_and1 h
theorem pwf_or1 {f : FB} (h : PTf X a f) : PWf X (.BoolOp .Or [a] pos) f := pw_or1 h
theorem pwf_and {rest : List Expr} {f g : FB} (h : PTf X a f) (h2 : PWf X (.BoolOp .And (b :: rest) pos) g) : PWf X (.BoolOp .And (a :: b :: rest) pos) (andF f g) := .mk (pw_and h h2) (simT_and (simT_of' f) (simT_of' g))
theorem pwf_or {rest : List Expr} {f g : FB} (h : PTf X a f) (h2 : PWf X (.BoolOp .Or (b :: rest) pos) g) : PWf X (.BoolOp .Or (a :: b :: rest) pos) (orF f g) := .mk (pw_or h h2) (simT_or (simT_of' f) (simT_of' g))
theorem PWf.pt {f : FB} (h : PWf X e f) : PTf X e f := L2.PW.pt h
theorem pf_one {op} {f : FE} (h : PEf X a f) : PEf X (.BoolOp op [a] pos) f := pe_one h
theorem pf_and {rest : List Expr} {f g : FE} (h : PEf X a f) (h2 : PEf X (.BoolOp .And (b :: rest) pos) g) : PEf X (.BoolOp .And (a :: b :: rest) pos) (andV f g) := .mk (pe_and h h2) (simE_andV (simE_of f) (simE_of g))
theorem pf_or {rest : List Expr} {f g : FE} (h : PEf X a f) (h2 : PEf X (.BoolOp .Or (b :: rest) pos) g) : PEf X (.BoolOp .Or (a :: b :: rest) pos) (orV f g) := .mk (pe_or h h2) (simE_orV (simE_of f) (simE_of g))
theorem pf_not {f : FE} (h : PEf X a f) : PEf X (.UnaryOp .Not a pos) (notV f) := .mk (pe_not h) (simE_notV (simE_of f))
theorem pf_if {c : Expr} {fc : FB} {f g : FE} (hc : PTf X c fc) (h1 : PEf X a f) (h2 : PEf X b g) : PEf X (.IfExp c a b pos) (ifE fc f g) := .mk (pe_ifExp hc h1 h2) (simE_if (simT_of' fc) (simE_of f) (simE_of g))
/-! statements -/
theorem psf_nil : PSsf X pn W [] passF := .mk pss_nil simS_pass
theorem psf_cons {st : Stmt} {rest : List Stmt} {f g : FS} (h1 : PSf X pn W st f) (h2 : PSsf X pn W rest g) : PSsf X pn W (st :: rest) (seqF f g) := .mk (pss_cons h1 h2) (simS_seq (simS_of f) (simS_of g))
theorem psf_one {st : Stmt} {f : FS} (h1 : PSf X pn W st f) : PSsf X pn W [st] f := pss_one h1
theorem psf_never {st : Stmt} : PSf X pn W st neverF := .mk ps_never simS_never
theorem psf_expr {f : FE} (h : PEf X e f) (hs : swapsWith e none pos.line X.env = pure false := by rfl) : PSf X pn W (.Expr e pos) (dropF f) := .mk (ps_expr h hs) (simS_drop (simE_of f))
theorem psf_ret {f : FE} (h : PEf X e f) : PSf X pn W (.Return (some e) pos) (retF f) := .mk (ps_ret h) (simS_ret (simE_of f))
theorem psf_if {c : Expr} {A B : List Stmt} {fc : FB} {f g : FS} (hc : PTf X c fc) (h1 : PSsf X pn W A f) (h2 : PSsf X pn W B g) : PSf X pn W (.If c A B pos) (ifF fc f g) := .mk (ps_if hc h1 h2) (simS_if (simT_of' fc) (simS_of f) (simS_of g))
theorem psf_asg {tg : Expr} {f : FE} {g : D → Env → Option Env} (h : PEf X e f) (hg : PGf X pn tg g) (hs : swapsWithSole [tg] e pos.line X.env = pure false := by rfl) (hw : swappedStores [tg] e X.env = pure none := by rfl)
    (h1 : (assignEach [tg] X.env).map (·.2) = [assign tg X.env] := by rfl) : PSf X pn W (.Assign [tg] e pos) (asgF f g) := .mk (ps_asg h hg hs hw h1) (simS_asg (simE_of f) (simG_of g))
theorem psf_set {i : Nat} {x : Str} {pos' : Pos} {f : FE} (hN : X.N.Nodup) (hi : X.N[i]? = some x) (hx : Loc X.env.scope x) (hp : pn i = false) (h : PEf X e f) (hs : swapsWith e (some (.Name x pos')) pos.line X.env = pure false := by rfl) (hf : X.fn x = true ∨ X.env.scope.names.lookup x = some .local := by first | exact .inl rfl | exact .inr rfl | assumption) :
    PSf X pn W (.Assign [.Name x pos'] e pos) (asgF f (tgN i)) := .mk (ps_set hN hi hx h hs hf) (simS_asg (simE_of f) (simG_name hp))
theorem pgf_name {i : Nat} {x : Str} (hN : X.N.Nodup) (hi : X.N[i]? = some x) (hx : Loc X.env.scope x) (hp : pn i = false) (hf : X.fn x = true ∨ X.env.scope.names.lookup x = some .local := by first | exact .inl rfl | exact .inr rfl | assumption) : PGf X pn (.Name x pos) (tgN i) := .mk (pg_name hN hi hx hf) (simG_name hp)
theorem pgsf_nil : PGsf X pn [] tgNil := .mk pgs_nil simGs_nil
theorem pgsf_cons {g : D → Env → Option Env} {gs : List D → Env → Option Env} (h1 : PGf X pn e g) (h2 : PGsf X pn es gs) (hs : (assignEach (e :: es) X.env).map (·.2) = assign e X.env :: (assignEach es X.env).map (·.2) := by rfl) : PGsf X pn (e :: es) (tgCons g gs) := .mk (pgs_cons h1 h2 hs) (simGs_cons (simG_of g) (simGs_of gs))
theorem pgf_tup {k n : Nat} {gs : List D → Env → Option Env} (hc : X.calm = true) (h : PGsf X pn es gs) (hn : (assignEach es X.env).length = n := by rfl) (hst : (assignEach es X.env).findIdx? (·.1) = none := by rfl) : PGf X pn (.Tuple es k pos) (tgT n gs) := .mk (pg_tup hc h hn hst) (simG_tup (simGs_of gs))
theorem psf_for {tg iter : Expr} {body : List Stmt} {fi : FI} {g : D → Env → Option Env} {f : FS} (hp : PassesOwn (model X.prog X.w) X.A X.env X.xe) (hc : X.calm = true) (hi : PIf X tg iter fi) (hg : PGf X pn tg g) (hb : PSsf X pn W body f)
    (hs : ∀ x, foldedSetIterable iter X.env x = pure x := by intro _; rfl) : PSf X pn W (.For tg iter body [] pos) (forF fi g f) := .mk (ps_for hp hc hi hg hb hs) (simS_for (simI_of fi) (simG_of g) (simS_of f))
theorem psf_while {c : Expr} {body : List Stmt} {fc : FB} {f : FS} (n : Nat) (hp : PassesOwn (model X.prog X.w) X.A X.env X.xe) (hc : PTf X c fc) (hb : PSsf X pn W body f) : PSf X pn W (.While c body [] pos) (whF n fc f) := .mk (ps_while hp hc hb) (simS_while n (simT_of' fc) (simS_of f))
end
end VS
set_option Elab.async false
set_option linter.all false
set_option maxRecDepth 100000
namespace VS
open PySem PySem.Spec PyProof.Rows L2
/-! ### operands that are kept: what is read off a slot bears nothing owned -/
def takeN : List Op → List (Option D) → Env → Option (List D)
  | .b i :: r, _ :: ts, ρ => (getS ρ i).bind fun d => if noOwn d = true then (takeN r ts ρ).bind fun ds => some (d :: ds) else none
  | .t _ :: r, some d :: ts, ρ => (takeN r ts ρ).bind fun ds => some (d :: ds)
  | [], _, _ => some []
  | _, _, _ => none
def smallL : Nat := 100000
def tupF (ops : List Op) : FE := fun ρ => (evOps ops ρ).bind fun p => (takeN ops p.1 p.2).bind fun ds => if ds.length ≤ smallL then some (.tup ds, p.2) else none
def lstF (ops : List Op) : FE := fun ρ => (evOps ops ρ).bind fun p => (takeN ops p.1 p.2).bind fun ds => if ds.length ≤ smallL then some (.lst true ds, p.2) else none
/-- a method of a list that stands in a slot -/
def mutF (i : Nat) (g : List D → List D → Option (D × List D)) (ops : List Op) : FE := fun ρ => match getS ρ i with
  | some (.lst true _) => (evOps ops ρ).bind fun p => (takeN ops p.1 p.2).bind fun ds => match getS p.2 i with
    | some (.lst true xs) => (g xs ds).bind fun q => some (q.1, p.2.set i (some (.lst true q.2)))
    | _ => none
  | _ => none
section
variable {K : PySem.W.Frag} {pn : Nat → Bool} {W : WX}
theorem small_line {n : Nat} (h : n ≤ smallL) : n ≤ sizeLine := Nat.le_trans h (by decide)
theorem OpsOk.take {G H : Hp} {σ : L2.St} {ρ : Env} {F : Nat → List Addr} (r : REnv K G H σ ρ F) : ∀ {ops : List Op} {ts : List (Option D)} {vs : List V} {M : List Addr} {ds : List D}, OpsOk K G H σ ops ts vs M → takeN ops ts ρ = some ds → Reps K G H vs ds M
  | _, _, _, _, ds, .nil, e => by
    unfold takeN at e; cases e; exact .nil
  | .b i :: ops, o :: ts, v :: vs, M, ds, .b hv ok, e => by
    unfold takeN at e
    cases hd : getS ρ i with
    | none => rw [hd] at e; cases e
    | some d =>
      rw [hd] at e
      have e1 : (if noOwn d = true then (takeN ops ts ρ).bind fun ds => some (d :: ds) else none) = some ds := e
      by_cases hn : noOwn d = true
      · rw [if_pos hn] at e1
        cases he : takeN ops ts ρ with
        | none => rw [he] at e1; cases e1
        | some ds1 =>
          rw [he] at e1; cases e1
          obtain ⟨w, hw, hr⟩ := r.at_ i d hd
          rw [hv] at hw; cases hw
          have h0 := hr.noL hn
          rw [h0] at hr
          have := Reps.cons hr (ok.take r he) (fun a z => nomatch z)
          exact this
      · rw [if_neg hn] at e1; cases e1
  | .t f :: ops, some d :: ts, v :: vs, _, ds, .t hr hn ok, e => by
    unfold takeN at e
    cases he : takeN ops ts ρ with
    | none => rw [he] at e; cases e
    | some ds1 => rw [he] at e; cases e; exact .cons hr (ok.take r he) hn
theorem simE_disp {ta : TA} {ops : List Op} {mk : List V → HO} {f : FE} {mkD : List D → D} (h : SimA K ta ops)
    (hf : ∀ ρ d ρ', f ρ = some (d, ρ') → ∃ ts ds, evOps ops ρ = some (ts, ρ') ∧ takeN ops ts ρ' = some ds ∧ ds.length ≤ smallL ∧ d = mkD ds)
    (hm : ∀ (G H : Hp) (vs : List V) (ds : List D) (M : List Addr) (p : Addr), Same G H → H p = none → Reps K G H vs ds M → ∃ G' L, Tr G H (fun a => a ∈ M) G' (upd H p (mk vs)) (fun a => a ∈ L) ∧ (∀ a, H a ≠ none → a ∉ M → a ∉ L) ∧ Rep K G' (upd H p (mk vs)) (.ref p) (mkD ds) L) :
    SimE K (fun σ H Q => ta σ H fun xs H1 => xs.length ≤ sizeLine ∧ ∀ p, H1 p = none → Q (.ref p) (upd H1 p (mk xs))) f := by
  intro ρ d ρ' e σ G H F r Q q
  obtain ⟨ts, ds, he, ht, hz, rfl⟩ := hf ρ d ρ' e
  refine h ρ ts ρ' he σ G H F r _ fun vs G1 H1 F1 M t1 r1 ok n1 => ?_
  have rs := ok.take r1 ht
  refine ⟨by rw [rs.length]; exact small_line hz, fun p hp => ?_⟩
  obtain ⟨G2, L, t2, hL, rv⟩ := hm G1 H1 vs ds M p r1.sub hp rs
  have nF : ∀ a, own F1 a → a ∉ M := fun a h m => n1 a m h
  have r2 := r1.tr t2 nF
  refine q (.ref p) G2 _ F1 L (t1.trans (t2.wk (fun a m => .inr m) fun a h => ?_)) r2 rv fun a ha ⟨j, hj⟩ => ?_
  · rcases h with h | h
    · exact .inr (.inl (.inl h))
    · exact .inl h
  · refine hL a (fun z => ?_) (nF a ⟨j, hj⟩) ha
    obtain ⟨_, vs, e, _⟩ := r1.owned j a hj
    rw [z] at e; cases e
theorem simE_tup {ta : TA} {ops : List Op} (h : SimA K ta ops) : SimE K (tTup ta) (tupF ops) := by
  refine simE_disp (mk := .tup) (mkD := .tup) h (fun ρ d ρ' e => ?_) fun G H vs ds M p s hp rs => ?_
  · unfold tupF at e
    cases he : evOps ops ρ with
    | none => rw [he] at e; cases e
    | some pr =>
      obtain ⟨ts, ρ1⟩ := pr
      rw [he] at e
      cases ht : takeN ops ts ρ1 with
      | none => have e2 : (takeN ops ts ρ1).bind (fun ds => if ds.length ≤ smallL then some (D.tup ds, ρ1) else none) = some (d, ρ') := e; rw [ht] at e2; cases e2
      | some ds =>
        have e2 : (takeN ops ts ρ1).bind (fun ds => if ds.length ≤ smallL then some (D.tup ds, ρ1) else none) = some (d, ρ') := e
        rw [ht] at e2
        have e3 : (if ds.length ≤ smallL then some (D.tup ds, ρ1) else none) = some (d, ρ') := e2
        by_cases hz : ds.length ≤ smallL
        · rw [if_pos hz] at e3; cases e3; exact ⟨ts, ds, rfl, ht, hz, rfl⟩
        · rw [if_neg hz] at e3; cases e3
  · have t := Tr.newG (A := fun a => a ∈ M) (o := .tup vs) s hp
    refine ⟨_, M, t, fun a _ n => n, .tup (.inl (.inl upd_same)) (rs.keep ⟨t.g, fun a ha hg => ?_, fun a ha => ?_⟩)⟩
    · have : a ≠ p := fun z => by subst z; obtain ⟨_, vs, e, _⟩ := rs.owned a ha; rw [hp] at e; cases e
      rw [upd_ne this]; exact hg
    · have : a ≠ p := fun z => by subst z; obtain ⟨_, vs, e, _⟩ := rs.owned a ha; rw [hp] at e; cases e
      rw [upd_ne this]
theorem simE_lst {ta : TA} {ops : List Op} (h : SimA K ta ops) : SimE K (tLst ta) (lstF ops) := by
  refine simE_disp (mk := .lst) (mkD := .lst true) h (fun ρ d ρ' e => ?_) fun G H vs ds M p s hp rs => ?_
  · unfold lstF at e
    cases he : evOps ops ρ with
    | none => rw [he] at e; cases e
    | some pr =>
      obtain ⟨ts, ρ1⟩ := pr
      rw [he] at e
      cases ht : takeN ops ts ρ1 with
      | none => have e2 : (takeN ops ts ρ1).bind (fun ds => if ds.length ≤ smallL then some (D.lst true ds, ρ1) else none) = some (d, ρ') := e; rw [ht] at e2; cases e2
      | some ds =>
        have e2 : (takeN ops ts ρ1).bind (fun ds => if ds.length ≤ smallL then some (D.lst true ds, ρ1) else none) = some (d, ρ') := e
        rw [ht] at e2
        have e3 : (if ds.length ≤ smallL then some (D.lst true ds, ρ1) else none) = some (d, ρ') := e2
        by_cases hz : ds.length ≤ smallL
        · rw [if_pos hz] at e3; cases e3; exact ⟨ts, ds, rfl, ht, hz, rfl⟩
        · rw [if_neg hz] at e3; cases e3
  · have t := Tr.newO (A := fun a => a ∈ M) (o := .lst vs) s hp
    have hne : ∀ a ∈ M, a ≠ p := fun a ha z => by subst z; obtain ⟨_, vs, e, _⟩ := rs.owned a ha; rw [hp] at e; cases e
    refine ⟨G, p :: M, t.post fun a h => ?_, fun a ha n m => ?_, .lstO (s.free hp) upd_same (fun z => hne p z rfl) (rs.keep ⟨t.g, fun a ha hg => hg, fun a ha => upd_ne (hne a ha)⟩)⟩
    · rcases List.mem_cons.mp h with h | h
      · exact .inr h
      · exact .inl h
    · rcases List.mem_cons.mp m with z | z
      · subst z; exact ha hp
      · exact n z
/-- a method that changes its list -/
def MOk (K : PySem.W.Frag) (r : V → List V → Hp → VK → Prop) (g : List D → List D → Option (D × List D)) : Prop := ∀ (G H : Hp) (a : Addr) (vs us : List V) (xs ds : List D) (L M : List Addr) (d : D) (xs' : List D), Same G H → G a = none → H a = some (.lst vs) →
  Reps K G H vs xs L → Reps K G H us ds M → (∀ b ∈ L, b ∉ M) → g xs ds = some (d, xs') → ∀ Q : VK,
  (∀ v vs' L' N, Reps K G H vs' xs' L' → Rep K G H v d N → (∀ b ∈ L', b ∈ L ∨ b ∈ M) → (∀ b ∈ N, b ∈ L ∨ b ∈ M) → (∀ b ∈ L', b ∉ N) → Q v (upd H a (.lst vs'))) → r (.ref a) us H Q
theorem simE_mut {to : TE} {i : Nat} {ta : TA} {ops : List Op} {r : V → List V → Hp → VK → Prop} {g : List D → List D → Option (D × List D)} (ho : to = tVar i) (h : SimA K ta ops) (hm : MOk K r g) : SimE K (tBM K "list" r to ta) (mutF i g ops) := by
  subst ho
  intro ρ d ρ' e σ G H F rr Q q
  unfold mutF at e
  cases h0 : getS ρ i with
  | none => rw [h0] at e; cases e
  | some d0 =>
    rw [h0] at e
    cases d0 with
    | lst o xs0 =>
      cases o with
      | false => cases e
      | true =>
        obtain ⟨v, hv, hrep⟩ := rr.at_ i _ h0
        have e1 : ((evOps ops ρ).bind fun p => (takeN ops p.1 p.2).bind fun ds => match getS p.2 i with
          | some (.lst true xs) => (g xs ds).bind fun q => some (q.1, p.2.set i (some (.lst true q.2)))
          | _ => none) = some (d, ρ') := e
        cases he : evOps ops ρ with
        | none => rw [he] at e1; cases e1
        | some pr =>
          obtain ⟨ts, ρ1⟩ := pr
          rw [he] at e1
          have e2 : ((takeN ops ts ρ1).bind fun ds => match getS ρ1 i with
            | some (.lst true xs) => (g xs ds).bind fun q => some (q.1, ρ1.set i (some (.lst true q.2)))
            | _ => none) = some (d, ρ') := e1
          cases ht : takeN ops ts ρ1 with
          | none => rw [ht] at e2; cases e2
          | some ds =>
            rw [ht] at e2
            have e3 : (match getS ρ1 i with
              | some (.lst true xs) => (g xs ds).bind fun q => some (q.1, ρ1.set i (some (.lst true q.2)))
              | _ => none) = some (d, ρ') := e2
            cases h1 : getS ρ1 i with
            | none => rw [h1] at e3; cases e3
            | some d1 =>
              rw [h1] at e3
              cases d1 with
              | lst o1 xs =>
                cases o1 with
                | false => cases e3
                | true =>
                  have e4 : ((g xs ds).bind fun q => some (q.1, ρ1.set i (some (.lst true q.2)))) = some (d, ρ') := e3
                  cases hg : g xs ds with
                  | none => rw [hg] at e4; cases e4
                  | some pq =>
                    obtain ⟨d2, xs'⟩ := pq
                    rw [hg] at e4; cases e4
                    refine ⟨v, hv, ?_, h ρ ts ρ1 he σ G H F rr _ fun us G1 H1 F1 M t1 r1 ok n1 => ?_⟩
                    · generalize hFi : F i = Fi at hrep
                      cases hrep with
                      | lstO _ hH _ _ => exact .inl ⟨rfl, _, .inl (.inl hH)⟩
                    · have rs := ok.take r1 ht
                      obtain ⟨v', hv', hrep'⟩ := r1.at_ i _ h1
                      rw [hv] at hv'; cases hv'
                      generalize hFi : F1 i = Fi at hrep'
                      cases hrep' with
                      | lstO hG hH hn hr =>
                        rename_i a vs L
                        have hsub : ∀ b ∈ a :: L, b ∈ F1 i := fun b hb => by rw [hFi]; exact hb
                        have nLM : ∀ b ∈ L, b ∉ M := fun b hb hm => n1 b hm ⟨i, hsub b (List.mem_cons_of_mem _ hb)⟩
                        have naM : a ∉ M := fun hm => n1 a hm ⟨i, hsub a List.mem_cons_self⟩
                        refine hm G1 H1 a vs us xs ds L M _ xs' r1.sub hG hH hr rs nLM hg Q fun v2 vs' L' N hr' hrv sL' sN nLN => ?_
                        have naL' : a ∉ L' := fun z => (sL' a z).elim hn naM
                        have naN : a ∉ N := fun z => (sN a z).elim hn naM
                        have tw : Tr G1 H1 (fun b => b = a) G1 (upd H1 a (.lst vs')) (fun b => b = a) := Tr.write r1.sub hG rfl ⟨_, hH⟩
                        have kL : ∀ {L0 : List Addr}, a ∉ L0 → Keep G1 H1 G1 (upd H1 a (.lst vs')) L0 := fun {L0} hn0 => ⟨Same.refl _, fun _ _ h => h, fun b hb => upd_ne fun z => hn0 (z ▸ hb)⟩
                        have rd := (r1.drop i).tr tw fun b ⟨j, hj⟩ z => by
                          subst z
                          by_cases hji : j = i
                          · subst hji; rw [fset_same] at hj; cases hj
                          · rw [fset_ne hji] at hj; exact r1.dis j i hji _ hj (hsub _ List.mem_cons_self)
                        have hnew : Rep K G1 (upd H1 a (.lst vs')) (.ref a) (.lst true xs') (a :: L') := .lstO hG upd_same naL' (hr'.keep (kL naL'))
                        have hap : ∀ b ∈ a :: L', ∀ j, j ≠ i → b ∉ fset F1 i [] j := fun b hb j hj hbj => by
                          rw [fset_ne hj] at hbj
                          rcases List.mem_cons.mp hb with z | z
                          · subst z; exact r1.dis j i hj _ hbj (hsub _ List.mem_cons_self)
                          · rcases sL' b z with y | y
                            · exact r1.dis j i hj _ hbj (hsub b (List.mem_cons_of_mem _ y))
                            · exact n1 b y ⟨j, hbj⟩
                        have rp := rd.re (i := i) (by rw [List.length_set]; exact r1.lt h1) hv hnew hap
                        rw [List.set_set] at rp
                        refine q v2 G1 _ _ N ?_ rp (hrv.keep (kL naN)) fun b hb ⟨j, hj⟩ => ?_
                        · refine t1.trans (tw.wk (fun b z => .inl ⟨i, z ▸ hsub a List.mem_cons_self⟩) fun b hb => .inr (.inl ?_))
                          rcases hb with ⟨j, hj⟩ | hb
                          · by_cases hji : j = i
                            · subst hji
                              rw [fset_same] at hj
                              rcases List.mem_cons.mp hj with z | z
                              · exact .inl ⟨j, z ▸ hsub a List.mem_cons_self⟩
                              · rcases sL' b z with y | y
                                · exact .inl ⟨j, hsub b (List.mem_cons_of_mem _ y)⟩
                                · exact .inr y
                            · rw [fset_ne hji, fset_ne hji] at hj; exact .inl ⟨j, hj⟩
                          · rcases sN b hb with y | y
                            · exact .inl ⟨i, hsub b (List.mem_cons_of_mem _ y)⟩
                            · exact .inr y
                        · by_cases hji : j = i
                          · subst hji
                            rw [fset_same] at hj
                            rcases List.mem_cons.mp hj with z | z
                            · subst z; exact naN hb
                            · exact nLN b z hb
                          · rw [fset_ne hji, fset_ne hji] at hj
                            rcases sN b hb with y | y
                            · exact r1.dis j i hji _ hj (hsub b (List.mem_cons_of_mem _ y))
                            · exact n1 b y ⟨j, hj⟩
              | _ => cases e3
    | _ => cases e
end
end VS
set_option Elab.async false
set_option linter.all false
set_option maxRecDepth 100000
namespace VS
open PySem PySem.Spec PyProof.Rows L2
/-! ### defs and their calls -/
/-- a def by its data: how many parameters, which of them are never stored anew (a list handed in there is the caller's still), and what it makes: a value, and the data of those parameters behind -/
structure Fn where
  np : Nat
  pins : List Bool
  sem : List D → Option (D × List (Option D))
  len : ∀ ds r, sem ds = some r → ds.length = np
def finP : List Bool → Env → List (Option D)
  | p :: ps, o :: ρ => (if p = true then o else none) :: finP ps ρ
  | _, _ => []
def bodySem (nN np : Nat) (pins : List Bool) (f : FS) : List D → Option (D × List (Option D)) := fun ds =>
  if ds.length = np then match f (ds.map some ++ List.replicate (nN - np) none) with
    | some (.rt d ρ) => some (d, finP pins ρ)
    | some (.nx ρ) => some (.non, finP pins ρ)
    | _ => none
  else none
def fetchC : List Bool → List Op → List (Option D) → Env → Option (List D × Env)
  | p :: ps, .b i :: r, _ :: ts, ρ => (getS ρ i).bind fun d => if noOwn d = true then (fetchC ps r ts ρ).bind fun q => some (d :: q.1, q.2) else if p = true then (fetchC ps r ts (ρ.set i none)).bind fun q => some (d :: q.1, q.2) else none
  | _ :: ps, .t _ :: r, some d :: ts, ρ => (fetchC ps r ts ρ).bind fun q => some (d :: q.1, q.2)
  | [], [], [], ρ => some ([], ρ)
  | _, _, _, _ => none
def putB : List Op → List D → List (Option D) → Env → Env
  | .b i :: r, d :: ds, o :: os, ρ => if noOwn d = true then putB r ds os ρ else putB r ds os (ρ.set i o)
  | .t _ :: r, _ :: ds, _ :: os, ρ => putB r ds os ρ
  | _, _, _, ρ => ρ
def callF (fn : Fn) (ops : List Op) : FE := fun ρ => (evOps ops ρ).bind fun p => (fetchC fn.pins ops p.1 p.2).bind fun c => (fn.sem c.1).bind fun q => some (q.1, putB ops c.1 q.2 c.2)
inductive ROs (K : PySem.W.Frag) (G H : Hp) : List V → List (Option D) → List Addr → Prop
  | nil : ROs K G H [] [] []
  | no {v : V} {vs os L} : ROs K G H vs os L → ROs K G H (v :: vs) (none :: os) L
  | yes {v : V} {d : D} {L1 vs os L} : Rep K G H v d L1 → ROs K G H vs os L → (∀ a, a ∈ L1 → a ∉ L) → ROs K G H (v :: vs) (some d :: os) (L1 ++ L)
/-- the promise of a def, by its data -/
def spOf (K : PySem.W.Frag) (fn : Fn) : Sp := fun vs H Q _ => ∃ G ds L d os, Same G H ∧ Reps K G H vs ds L ∧ vs.length = fn.np ∧ fn.sem ds = some (d, os) ∧
  ∀ v G' H' P N, Tr G H (fun a => a ∈ L) G' H' (fun a => a ∈ P ∨ a ∈ N) → ROs K G' H' vs os P → Rep K G' H' v d N → (∀ a ∈ N, a ∉ P) → Q v H'
section
variable {K : PySem.W.Frag} {G H : Hp}
theorem own_cons {L1 : List Addr} {F : Nat → List Addr} {a : Addr} (h : own (fun j => match j with | 0 => L1 | j + 1 => F j) a) : a ∈ L1 ∨ own F a := by
  obtain ⟨j, h⟩ := h
  cases j with
  | zero => exact .inl h
  | succ j => exact .inr ⟨j, h⟩
theorem REnv.cons (v : V) {d : D} {L1 : List Addr} {σ : L2.St} {ρ : Env} {F : Nat → List Addr} (h : Rep K G H v d L1) (r : REnv K G H σ ρ F) (n : ∀ a ∈ L1, ¬ own F a) :
    REnv K G H (some v :: σ) (some d :: ρ) (fun j => match j with | 0 => L1 | j + 1 => F j) := by
  refine ⟨r.sub, by simp [r.len], fun i e q => ?_, fun i q => ?_, fun i j ne a ha => ?_⟩
  · cases i with
    | zero => cases q; exact ⟨v, rfl, h⟩
    | succ i => exact r.at_ i e q
  · cases i with
    | zero => cases q
    | succ i => exact r.off i q
  · cases i with
    | zero =>
      cases j with
      | zero => exact absurd rfl ne
      | succ j => exact fun z => n a ha ⟨j, z⟩
    | succ i =>
      cases j with
      | zero => exact fun z => n a z ⟨i, ha⟩
      | succ j => exact r.dis i j (fun z => ne (by rw [z])) a ha
theorem REnv.empty (s : Same G H) (n : Nat) : REnv K G H (List.replicate n none) (List.replicate n none) (fun _ => []) := by
  refine ⟨s, by simp, fun i e q => ?_, fun _ _ => rfl, fun _ _ _ a z => nomatch z⟩
  unfold getS at q
  cases h : (List.replicate n (none : Option D))[i]? with
  | none => rw [h] at q; cases q
  | some o =>
    have := List.mem_of_getElem? h
    rw [List.mem_replicate] at this
    rw [h, this.2] at q; cases q
theorem REnv.start (s : Same G H) : ∀ {vs : List V} {ds : List D} {L : List Addr} (n : Nat), Reps K G H vs ds L → ∃ F, REnv K G H (vs.map some ++ List.replicate n none) (ds.map some ++ List.replicate n none) F ∧ ∀ a, own F a → a ∈ L
  | _, _, _, n, .nil => ⟨_, REnv.empty s n, fun a ⟨_, h⟩ => nomatch h⟩
  | _, _, _, n, .cons (v := v) hv hr nn => by
    obtain ⟨F, r, o⟩ := REnv.start s n hr
    refine ⟨_, REnv.cons v hv r (fun a ha z => nn a ha (o a z)), fun a h => ?_⟩
    rcases own_cons h with z | z
    · exact List.mem_append_left _ z
    · exact List.mem_append_right _ (o a z)
theorem REnv.tail {s : Option V} {o : Option D} {σ : L2.St} {ρ : Env} {F : Nat → List Addr} (r : REnv K G H (s :: σ) (o :: ρ) F) : REnv K G H σ ρ (fun j => F (j + 1)) :=
  ⟨r.sub, by simpa using r.len, fun i d q => r.at_ (i + 1) d q, fun i q => r.off (i + 1) q, fun i j n a => r.dis (i + 1) (j + 1) (by omega) a⟩
theorem REnv.fin : ∀ {pins : List Bool} {vs : List V} {σ : L2.St} {ρ : Env} {F : Nat → List Addr}, REnv K G H σ ρ F → vs.length = pins.length → pins.length ≤ σ.length → (∀ j : Nat, pins[j]? = some true → σ[j]? = (vs[j]?).map some) →
    ∃ P, ROs K G H vs (finP pins ρ) P ∧ ∀ a ∈ P, own F a
  | [], vs, σ, ρ, F, r, h, _, _ => by
    have : vs = [] := List.length_eq_zero_iff.mp h
    subst this
    refine ⟨[], ?_, fun a z => nomatch z⟩
    have : finP [] ρ = [] := by cases ρ <;> rfl
    rw [this]; exact .nil
  | p :: ps, [], σ, ρ, F, r, h, _, _ => by cases h
  | p :: ps, v :: vs, [], ρ, F, r, h, hl, _ => by simp at hl
  | p :: ps, v :: vs, s :: σ, [], F, r, h, hl, _ => by have := r.len; cases this
  | p :: ps, v :: vs, s :: σ, o :: ρ, F, r, h, hl, hp => by
    obtain ⟨P, q, s1⟩ := REnv.fin (pins := ps) (vs := vs) r.tail (by simpa using h) (by simpa using hl) (fun j hj => hp (j + 1) hj)
    unfold finP
    by_cases hpp : p = true
    · rw [if_pos hpp]
      cases o with
      | none => exact ⟨P, .no q, fun a ha => let ⟨j, hj⟩ := s1 a ha; ⟨j + 1, hj⟩⟩
      | some d =>
        obtain ⟨w, e, hr⟩ := r.at_ 0 d rfl
        have e2 := hp 0 (by rw [hpp]; rfl)
        have : w = v := by
          have e3 : some s = some (some v) := e2
          have e4 : some s = some (some w) := e
          rw [e4] at e3; cases e3; rfl
        subst this
        refine ⟨F 0 ++ P, .yes hr q fun a ha hP => ?_, fun a ha => ?_⟩
        · obtain ⟨j, hj⟩ := s1 a hP
          exact r.dis 0 (j + 1) (by omega) a ha hj
        · rcases List.mem_append.mp ha with z | z
          · exact ⟨0, z⟩
          · obtain ⟨j, hj⟩ := s1 a z; exact ⟨j + 1, hj⟩
    · rw [if_neg hpp]
      exact ⟨P, .no q, fun a ha => let ⟨j, hj⟩ := s1 a ha; ⟨j + 1, hj⟩⟩
theorem OpsOk.fetchC {σ : L2.St} : ∀ {pins : List Bool} {ops : List Op} {ts : List (Option D)} {vs : List V} {M : List Addr} {ds : List D} {ρ ρr : Env} {F : Nat → List Addr}, REnv K G H σ ρ F → OpsOk K G H σ ops ts vs M → (∀ a ∈ M, ¬ own F a) → VS.fetchC pins ops ts ρ = some (ds, ρr) →
    ∃ L Fr, Reps K G H vs ds L ∧ REnv K G H σ ρr Fr ∧ (∀ a ∈ L, ¬ own Fr a) ∧ (∀ a ∈ L, own F a ∨ a ∈ M) ∧ (∀ a, own Fr a → own F a)
  | [], _, _, _, _, ds, ρ, ρr, F, r, .nil, n, e => by
    unfold VS.fetchC at e; cases e
    exact ⟨[], F, .nil, r, fun a z => (nomatch z), fun a z => (nomatch z), fun _ h => h⟩
  | p :: ps, _, _, _, _, ds, ρ, ρr, F, r, .nil, n, e => by
    unfold VS.fetchC at e; cases e
  | [], .b i :: ops, o :: ts, v :: vs, M, ds, ρ, ρr, F, r, .b hv ok, n, e => by
    unfold VS.fetchC at e; cases e
  | p :: ps, .b i :: ops, o :: ts, v :: vs, M, ds, ρ, ρr, F, r, .b hv ok, n, e => by
    unfold VS.fetchC at e
    cases hd : getS ρ i with
    | none => rw [hd] at e; cases e
    | some d =>
      rw [hd] at e
      obtain ⟨w, hw, hr⟩ := r.at_ i d hd
      rw [hv] at hw; cases hw
      have e1 : (if noOwn d = true then (VS.fetchC ps ops ts ρ).bind fun q => some (d :: q.1, q.2) else if p = true then (VS.fetchC ps ops ts (ρ.set i none)).bind fun q => some (d :: q.1, q.2) else none) = some (ds, ρr) := e
      by_cases hn : noOwn d = true
      · rw [if_pos hn] at e1
        cases he : VS.fetchC ps ops ts ρ with
        | none => rw [he] at e1; cases e1
        | some q =>
          rw [he] at e1; cases e1
          obtain ⟨L, Fr, h1, h2, h3, h4, h5⟩ := ok.fetchC r n he
          have h0 := hr.noL hn
          rw [h0] at hr
          exact ⟨L, Fr, Reps.cons hr h1 (fun a z => nomatch z), h2, h3, h4, h5⟩
      · rw [if_neg hn] at e1
        by_cases hp : p = true
        · rw [if_pos hp] at e1
          cases he : VS.fetchC ps ops ts (ρ.set i none) with
          | none => rw [he] at e1; cases e1
          | some q =>
            rw [he] at e1; cases e1
            have sub : ∀ a, own (fset F i []) a → own F a := fun a h => (own_set h).elim id fun z => nomatch z
            obtain ⟨L, Fr, h1, h2, h3, h4, h5⟩ := ok.fetchC (r.drop i) (fun a ha z => n a ha (sub a z)) he
            have nFi : ∀ a ∈ F i, ¬ own (fset F i []) a := fun a ha ⟨j, hj⟩ => by
              by_cases hji : j = i
              · subst hji; rw [fset_same] at hj; cases hj
              · rw [fset_ne hji] at hj; exact r.dis j i hji a hj ha
            refine ⟨F i ++ L, Fr, Reps.cons hr h1 (fun a ha hL => ?_), h2, fun a ha => ?_, fun a ha => ?_, fun a h => sub a (h5 a h)⟩
            · rcases h4 a hL with z | z
              · exact nFi a ha z
              · exact n a z ⟨i, ha⟩
            · rcases List.mem_append.mp ha with z | z
              · exact fun y => nFi a z (h5 a y)
              · exact h3 a z
            · rcases List.mem_append.mp ha with z | z
              · exact .inl ⟨i, z⟩
              · exact (h4 a z).imp (sub a) id
        · rw [if_neg hp] at e1; cases e1
  | [], .t f :: ops, some d :: ts, v :: vs, _, ds, ρ, ρr, F, r, .t hr hn ok, n, e => by
    unfold VS.fetchC at e; cases e
  | p :: ps, .t f :: ops, some d :: ts, v :: vs, _, ds, ρ, ρr, F, r, .t (L := L1) (M := M) hr hn ok, n, e => by
    unfold VS.fetchC at e
    cases he : VS.fetchC ps ops ts ρ with
    | none => rw [he] at e; cases e
    | some q =>
      rw [he] at e; cases e
      obtain ⟨L, Fr, h1, h2, h3, h4, h5⟩ := ok.fetchC r (fun a ha => n a (List.mem_append_right _ ha)) he
      refine ⟨L1 ++ L, Fr, Reps.cons hr h1 (fun a ha hL => ?_), h2, fun a ha => ?_, fun a ha => ?_, h5⟩
      · rcases h4 a hL with z | z
        · exact n a (List.mem_append_left _ ha) z
        · exact hn a ha z
      · rcases List.mem_append.mp ha with z | z
        · exact fun y => n a (List.mem_append_left _ z) (h5 a y)
        · exact h3 a z
      · rcases List.mem_append.mp ha with z | z
        · exact .inr (List.mem_append_left _ z)
        · exact (h4 a z).imp id (List.mem_append_right _)
/-- the places of the operands' slots -/
inductive OpsAt (σ : L2.St) : List Op → List V → Prop
  | nil : OpsAt σ [] []
  | b {i v ops vs} : σ[i]? = some (some v) → OpsAt σ ops vs → OpsAt σ (.b i :: ops) (v :: vs)
  | t {f v ops vs} : OpsAt σ ops vs → OpsAt σ (.t f :: ops) (v :: vs)
theorem OpsOk.at' {σ : L2.St} : ∀ {ops ts vs M}, OpsOk K G H σ ops ts vs M → OpsAt σ ops vs
  | _, _, _, _, .nil => .nil
  | _, _, _, _, .b h r => .b h r.at'
  | _, _, _, _, .t _ _ r => .t r.at'
theorem putB_ok {σ : L2.St} : ∀ {ops : List Op} {vs : List V} {ds : List D} {os : List (Option D)} {P : List Addr} {ρ : Env} {F : Nat → List Addr}, OpsAt σ ops vs → ROs K G H vs os P → REnv K G H σ ρ F → (∀ a ∈ P, ¬ own F a) →
    ∃ F', REnv K G H σ (putB ops ds os ρ) F' ∧ ∀ a, own F' a → own F a ∨ a ∈ P
  | [], _, ds, os, P, ρ, F, .nil, h, r, n => by
    have e : putB [] ds os ρ = ρ := by cases ds <;> rfl
    rw [e]
    exact ⟨F, r, fun a h => .inl h⟩
  | .b i :: ops, v :: vs, [], os, P, ρ, F, .b hv ha, h, r, n => ⟨F, r, fun a h => .inl h⟩
  | .t f :: ops, v :: vs, [], os, P, ρ, F, .t ha, h, r, n => ⟨F, r, fun a h => .inl h⟩
  | .t f :: ops, v :: vs, d :: ds, _, P, ρ, F, .t ha, .no h, r, n => by
    unfold putB; exact putB_ok ha h r n
  | .t f :: ops, v :: vs, d :: ds, _, _, ρ, F, .t ha, .yes hr h hn, r, n => by
    unfold putB
    obtain ⟨F', r', s⟩ := putB_ok (ds := ds) ha h r (fun a ha => n a (List.mem_append_right _ ha))
    exact ⟨F', r', fun a q => (s a q).imp id (List.mem_append_right _)⟩
  | .b i :: ops, v :: vs, d :: ds, _, P, ρ, F, .b hv ha, .no h, r, n => by
    unfold putB
    by_cases hd : noOwn d = true
    · rw [if_pos hd]; exact putB_ok ha h r n
    · rw [if_neg hd]
      have sub : ∀ a, own (fset F i []) a → own F a := fun a h => (own_set h).elim id fun z => nomatch z
      obtain ⟨F', r', s⟩ := putB_ok (ds := ds) ha h (r.drop i) (fun a ha z => n a ha (sub a z))
      exact ⟨F', r', fun a q => (s a q).imp (sub a) id⟩
  | .b i :: ops, v :: vs, d :: ds, _, _, ρ, F, .b hv ha, .yes (d := d') (L1 := L1) (L := L) hr h hn, r, n => by
    unfold putB
    by_cases hd : noOwn d = true
    · rw [if_pos hd]
      obtain ⟨F', r', s⟩ := putB_ok (ds := ds) ha h r (fun a ha => n a (List.mem_append_right _ ha))
      exact ⟨F', r', fun a q => (s a q).imp id (List.mem_append_right _)⟩
    · rw [if_neg hd]
      have hi : i < ρ.length := by rw [← r.len]; exact (List.getElem?_eq_some_iff.mp hv).1
      have r1 := r.re hi hv hr (fun a ha j _ z => n a (List.mem_append_left _ ha) ⟨j, z⟩)
      have sub : ∀ a, own (fset F i L1) a → own F a ∨ a ∈ L1 := fun a h => own_set h
      obtain ⟨F', r', s⟩ := putB_ok (ds := ds) ha h r1 (fun a ha z => (sub a z).elim (n a (List.mem_append_right _ ha)) fun y => hn a y ha)
      refine ⟨F', r', fun a q => ?_⟩
      rcases s a q with z | z
      · exact (sub a z).imp id (List.mem_append_left _)
      · exact .inr (List.mem_append_right _ z)
theorem ROs.owned : ∀ {vs : List V} {os : List (Option D)} {P : List Addr}, ROs K G H vs os P → ∀ a ∈ P, G a = none ∧ ∃ o, H a = some o ∧ LD o
  | _, _, _, .nil, a, h => nomatch h
  | _, _, _, .no r, a, h => r.owned a h
  | _, _, _, .yes hr r _, a, h => by
    rcases List.mem_append.mp h with z | z
    · exact hr.owned a z
    · exact r.owned a z
/-- the operands' values, then the def -/
theorem simE_call {ta : TA} {ops : List Op} {fn : Fn} {dv : List V} {E : XK} (h : SimA K ta ops) (hd : dv = []) : SimE K (tCall (spOf K fn) dv E ta) (callF fn ops) := by
  subst hd
  intro ρ d ρ' e σ G H F r Q q
  unfold callF at e
  cases he : evOps ops ρ with
  | none => rw [he] at e; cases e
  | some p =>
    obtain ⟨ts, ρ1⟩ := p
    rw [he] at e
    have e1 : ((VS.fetchC fn.pins ops ts ρ1).bind fun c => (fn.sem c.1).bind fun q => some (q.1, putB ops c.1 q.2 c.2)) = some (d, ρ') := e
    cases hf : VS.fetchC fn.pins ops ts ρ1 with
    | none => rw [hf] at e1; cases e1
    | some c =>
      obtain ⟨ds, ρr⟩ := c
      rw [hf] at e1
      have e2 : ((fn.sem ds).bind fun q => some (q.1, putB ops ds q.2 ρr)) = some (d, ρ') := e1
      cases hs : fn.sem ds with
      | none => rw [hs] at e2; cases e2
      | some pq =>
        obtain ⟨d1, os⟩ := pq
        rw [hs] at e2; cases e2
        refine h ρ ts ρ1 he σ G H F r _ fun vs G1 H1 F1 M t1 r1 ok n1 => ?_
        obtain ⟨L, Fr, hR, rr, nL, sL, sF⟩ := ok.fetchC r1 n1 hf
        have ap := ok.at'
        show spOf K fn (vs ++ []) H1 Q E
        rw [List.append_nil]
        have hnp : vs.length = fn.np := hR.length.trans (fn.len ds _ hs)
        · refine ⟨G1, ds, L, _, os, r1.sub, hR, hnp, hs, fun v G2 H2 P N t2 ro rv nN => ?_⟩
          have rr2 := rr.tr t2 (fun a ho hl => nL a hl ho)
          have apF : ∀ a, own Fr a → ¬ (a ∈ P ∨ a ∈ N) := fun a ho => by
            obtain ⟨j, hj⟩ := id ho
            exact t2.apart (L := Fr j) (rr.owned j) (fun b hb hl => nL b hl ⟨j, hb⟩) a hj
          obtain ⟨F', r', s⟩ := putB_ok (ds := ds) ap ro rr2 (fun a ha ho => apF a ho (.inl ha))
          refine q v G2 H2 F' N (t1.trans (t2.wk (fun a ha => ?_) fun a ha => ?_)) r' rv fun a ha ho => ?_
          · exact (sL a ha).imp id id
          · rcases ha with z | z
            · rcases s a z with y | y
              · exact .inr (.inl (.inl (sF a y)))
              · exact .inl (.inl y)
            · exact .inl (.inr z)
          · rcases s a ho with y | y
            · exact apF a y (.inr ha)
            · exact nN a ha y
end
end VS
set_option Elab.async false
set_option linter.all false
set_option maxRecDepth 100000
namespace VS
open PySem PySem.Spec PyProof.Rows L2
/-- nothing is let out -/
def noW : WX := fun _ _ _ _ => False
def pnOf (pins : List Bool) : Nat → Bool := fun j => pins.getD j false
def bodyFn (nN np : Nat) (pins : List Bool) (f : FS) : Fn := ⟨np, pins, bodySem nN np pins f, fun ds r h => by
  unfold bodySem at h
  by_cases e : ds.length = np
  · exact e
  · rw [if_neg e] at h; cases h⟩
def stuckFn (np : Nat) (pins : List Bool) : Fn := ⟨np, pins, fun _ => none, fun _ _ h => by cases h⟩
theorem bodySem_cases {nN np : Nat} {pins : List Bool} {f : FS} {ds : List D} {d : D} {os : List (Option D)} (h : bodySem nN np pins f ds = some (d, os)) :
    ds.length = np ∧ ∃ ρ, os = finP pins ρ ∧ (f (ds.map some ++ List.replicate (nN - np) none) = some (.rt d ρ) ∨ (d = .non ∧ f (ds.map some ++ List.replicate (nN - np) none) = some (.nx ρ))) := by
  unfold bodySem at h
  by_cases hn : ds.length = np
  · rw [if_pos hn] at h
    cases hf : f (ds.map some ++ List.replicate (nN - np) none) with
    | none => rw [hf] at h; cases h
    | some o =>
      rw [hf] at h
      cases o with
      | rt d' ρ => cases h; exact ⟨hn, ρ, rfl, .inl rfl⟩
      | nx ρ => cases h; exact ⟨hn, ρ, rfl, .inr ⟨rfl, rfl⟩⟩
      | bk ρ => cases h
      | ct ρ => cases h
      | rz _ _ ρ => cases h
  · rw [if_neg hn] at h; cases h
theorem body_sim {K : PySem.W.Frag} {W : WX} {N : List Str} {np : Nat} {pins : List Bool} {f : FS} (hpl : pins.length = np) (hN : np ≤ N.length) {vs : List V} {H : Hp} {Q : VK} {E : XK} (h : spOf K (bodyFn N.length np pins f) vs H Q E) :
    tsOf K (pnOf pins) W f { nx := fun _ H' => Q .non H', rt := Q } (L2.start N vs) H := by
  obtain ⟨G, ds, L, d, os, s, hR, hl, hs, q⟩ := h
  have hl' : vs.length = np := hl
  obtain ⟨hn, ρ, rfl, hb⟩ := bodySem_cases hs
  obtain ⟨F, r, sF⟩ := REnv.start s (N.length - np) hR
  have es : L2.start N vs = vs.map some ++ List.replicate (N.length - np) none := by unfold L2.start; rw [hl']
  rw [← es] at r
  have post : ∀ (v : V) (σ' : L2.St) (G' H' : Hp) (F' : Nat → List Addr) (M : List Addr), Tr G H (own F) G' H' (fun a => own F' a ∨ a ∈ M) → REnv K G' H' σ' ρ F' → Pin (pnOf pins) (L2.start N vs) σ' → Rep K G' H' v d M → (∀ a ∈ M, ¬ own F' a) → Q v H' := fun v σ' G' H' F' M t r' p rv n => by
    have lσ : pins.length ≤ σ'.length := by
      rw [p.1, es, List.length_append, List.length_map, List.length_replicate, hpl]; omega
    obtain ⟨P, ro, sP⟩ := REnv.fin (pins := pins) (vs := vs) r' (by rw [hl', hpl]) lσ (fun j hj => by
      have hjp : pnOf pins j = true := by unfold pnOf; rw [List.getD_eq_getElem?_getD, hj]; rfl
      rw [p.2 j hjp, es]
      have hjl : j < vs.length := by rw [hl', ← hpl]; exact (List.getElem?_eq_some_iff.mp hj).1
      rw [List.getElem?_append_left (by simpa using hjl), List.getElem?_map])
    refine q v G' H' P M (t.wk (fun a h => sF a h) fun a h => ?_) ro rv fun a ha hP => n a ha (sP a hP)
    rcases h with h | h
    · exact .inl (.inl (sP a h))
    · exact .inl (.inr h)
  rcases hb with hb | ⟨rfl, hb⟩
  · exact ⟨_, _, G, F, hb, r, fun v σ' G' H' F' M t r' p rv n => post v σ' G' H' F' M t r' p rv n⟩
  · exact ⟨_, _, G, F, hb, r, fun σ' G' H' F' t r' p => post .non σ' G' H' F' [] (t.post fun a h => h.elim id fun z => nomatch z) r' p .non (fun a z => nomatch z)⟩
end VS
set_option Elab.async false
set_option linter.all false
set_option maxRecDepth 100000
namespace VS
open PySem PySem.Spec PyProof.Rows L2
section
variable {P : Program} {w : World} {K : PySem.W.Frag} {mg : Str → Option Value} {base : Heap}
theorem fn_ok {x qual : Str} {st : Stmt} {f : Addr} {fd : FuncData} {N ps : List Str} {k : Nat} {pins : List Bool} {fb : FS} (F : Fun K x qual st f fd) (S : FnScope N ps (defScope st)) (hpl : pins.length = ps.length) (hN : ps.length ≤ N.length)
    (hbody : ∀ (cdv : Value) (A : Around) (outer : List PySem.Env) (s : Shared) (H : Hp) (E : XK), Room k (A.deeper (envOfC qual (defScope st) s.heap.objs.size f cdv)) →
      PSsf (cxOf CX0 P w K mg base N qual (defScope st) f cdv A outer s H E).nox (pnOf pins) noW (defBody st) fb) : FnOk P w K mg base CX0 (k + 1) f fd ps (spOf K (bodyFn N.length ps.length pins fb)) :=
  F.ok S (fun vs H Q E ⟨_, _, _, _, _, _, _, h, _⟩ => h) fun cdv A outer s H vs Q E hr h => ⟨_, hbody cdv A outer s H E hr, body_sim hpl hN h⟩
theorem stuck_ok {x qual : Str} {st : Stmt} {f : Addr} {fd : FuncData} {N ps : List Str} {k : Nat} {pins : List Bool} (F : Fun K x qual st f fd) (S : FnScope N ps (defScope st)) : FnOk P w K mg base CX0 (k + 1) f fd ps (spOf K (stuckFn ps.length pins)) :=
  F.ok S (fun vs H Q E ⟨_, _, _, _, _, _, _, h, _⟩ => h) fun cdv A outer s H vs Q E hr ⟨_, _, _, _, _, _, _, _, h, _⟩ => by cases h
end
section
variable {X : Cx} {pn : Nat → Bool} {W : WX} {k : Nat} {f : Addr} {fd : FuncData} {ps : List Str} {fn : Fn} {x : Str} {p pos : Pos} {e : Expr} {es : List Expr} {o : Op} {ops : List Op}
theorem pf_call (F : FnOk X.prog X.w X.K X.mg X.base CX0 k f fd ps (spOf X.K fn)) (hr : Room k X.A) (hg : Gl X x) (hm : X.mg x = some (.ref f)) (hk : PySem.W.keepIn X.K (.ref f) = true) (hb : Binds X.K fd ps [])
    (ha : PAf X (e :: es) ops) (hdb : (x == ("__debug__" : Str)) = false := by decide) (he : starEach (e :: es) X.env = (false, eval e X.env) :: starEach es X.env := by rfl) (hpl : (backTo pos (starEach es X.env)).any (·.1) = false := by rfl) :
    PEf X (.Call (.Name x p) (e :: es) [] pos) (callF fn ops) := .mk (pe_call F hr hg hm hk hb .nil pass0 ha hdb he hpl) (simE_call (simA_of _) rfl)
end
/-! ### keywords: the operands put in the parameters' order -/
def permL {α : Type} (is : List Nat) (xs : List α) : List α := is.filterMap fun i => xs[i]?
def callKF (fn : Fn) (is : List Nat) (ops : List Op) : FE := fun ρ => (evOps ops ρ).bind fun p => (fetchC fn.pins (permL is ops) (permL is p.1) p.2).bind fun c => (fn.sem c.1).bind fun q => some (q.1, putB (permL is ops) c.1 q.2 c.2)
section
variable {K : PySem.W.Frag} {G H : Hp}
structure Q4 where
  o : Op
  t : Option D
  v : V
  L : List Addr
def Q4.ok (K : PySem.W.Frag) (G H : Hp) (σ : L2.St) (q : Q4) : Prop := match q.o with
  | .b i => σ[i]? = some (some q.v) ∧ q.L = []
  | .t _ => ∃ d, q.t = some d ∧ Rep K G H q.v d q.L
def Q4.apart (a b : Q4) : Prop := ∀ x, x ∈ a.L → x ∉ b.L
theorem Q4.apart_symm {a b : Q4} (h : a.apart b) : b.apart a := fun x hx hy => h x hy hx
theorem OpsOk.to4 {σ : L2.St} : ∀ {ops ts vs M}, OpsOk K G H σ ops ts vs M → ∃ qs : List Q4, qs.map (·.o) = ops ∧ qs.map (·.t) = ts ∧ qs.map (·.v) = vs ∧ (∀ q ∈ qs, q.ok K G H σ) ∧ qs.Pairwise Q4.apart ∧ (qs.map (·.L)).flatten = M
  | _, _, _, _, .nil => ⟨[], rfl, rfl, rfl, fun q z => (nomatch z), .nil, rfl⟩
  | _, _, _, _, .b (i := i) (v := v) (o := o) h r => by
    obtain ⟨qs, e1, e2, e3, h1, h2, e4⟩ := r.to4
    refine ⟨⟨.b i, o, v, []⟩ :: qs, by simp [e1], by simp [e2], by simp [e3], fun q hq => ?_, .cons (fun q _ x hx => nomatch hx) h2, by simp [e4]⟩
    rcases List.mem_cons.mp hq with z | z
    · subst z; exact ⟨h, rfl⟩
    · exact h1 q z
  | _, _, _, _, .t (f := f) (v := v) (d := d) (L := L) hr hn r => by
    obtain ⟨qs, e1, e2, e3, h1, h2, e4⟩ := r.to4
    refine ⟨⟨.t f, some d, v, L⟩ :: qs, by simp [e1], by simp [e2], by simp [e3], fun q hq => ?_, .cons (fun q hq x hx hy => ?_) h2, by simp [e4]⟩
    · rcases List.mem_cons.mp hq with z | z
      · subst z; exact ⟨d, rfl, hr⟩
      · exact h1 q z
    · refine hn x hx ?_
      rw [← e4]
      exact List.mem_flatten.mpr ⟨q.L, List.mem_map.mpr ⟨q, hq, rfl⟩, hy⟩
theorem OpsOk.of4 {σ : L2.St} : ∀ {qs : List Q4}, (∀ q ∈ qs, q.ok K G H σ) → qs.Pairwise Q4.apart → OpsOk K G H σ (qs.map (·.o)) (qs.map (·.t)) (qs.map (·.v)) (qs.map (·.L)).flatten
  | [], _, _ => .nil
  | ⟨.b i, t', v, L⟩ :: qs, h, hp => by
    obtain ⟨h1, h2⟩ : _ ∧ L = [] := h _ List.mem_cons_self
    subst h2
    exact .b h1 (OpsOk.of4 (fun q hq => h q (List.mem_cons_of_mem _ hq)) (List.pairwise_cons.mp hp).2)
  | ⟨.t f, t', v, L⟩ :: qs, h, hp => by
    obtain ⟨d, h1, h2⟩ : ∃ d, t' = some d ∧ Rep K G H v d L := h _ List.mem_cons_self
    subst h1
    obtain ⟨p1, p2⟩ := List.pairwise_cons.mp hp
    refine .t h2 (fun a ha hm => ?_) (OpsOk.of4 (fun q hq => h q (List.mem_cons_of_mem _ hq)) p2)
    obtain ⟨l, hl, ha2⟩ := List.mem_flatten.mp hm
    obtain ⟨q, hq, rfl⟩ := List.mem_map.mp hl
    exact p1 q hq a ha ha2
theorem permL_map {α β : Type} (is : List Nat) (xs : List α) (f : α → β) : permL is (xs.map f) = (permL is xs).map f := by
  unfold permL
  rw [List.map_filterMap]
  congr 1
  funext i
  rw [List.getElem?_map]
theorem range_self {α : Type} : ∀ xs : List α, (List.range xs.length).filterMap (fun i => xs[i]?) = xs
  | [] => rfl
  | x :: xs => by
    rw [List.length_cons, List.range_succ_eq_map, List.filterMap_cons]
    show x :: _ = x :: xs
    rw [List.filterMap_map]
    congr 1
    exact range_self xs
theorem permL_perm {α : Type} {is : List Nat} {xs : List α} (h : is.Perm (List.range xs.length)) : (permL is xs).Perm xs := by
  have := h.filterMap fun i => xs[i]?
  rw [range_self] at this
  exact this
theorem OpsOk.perm {σ : L2.St} {is : List Nat} {ops ts vs M} (h : OpsOk K G H σ ops ts vs M) (hp : is.Perm (List.range ops.length)) : ∃ M', OpsOk K G H σ (permL is ops) (permL is ts) (permL is vs) M' ∧ ∀ a, a ∈ M' → a ∈ M := by
  obtain ⟨qs, e1, e2, e3, h1, h2, e4⟩ := h.to4
  have hl : is.Perm (List.range qs.length) := by rw [← e1, List.length_map] at hp; exact hp
  have pp := permL_perm (xs := qs) hl
  subst e1; subst e2; subst e3; subst e4
  rw [permL_map, permL_map, permL_map]
  refine ⟨_, OpsOk.of4 (fun q hq => h1 q (pp.subset hq)) ((pp.pairwise_iff fun {a b} h => Q4.apart_symm h).mpr h2), fun a ha => ?_⟩
  obtain ⟨l, hl, ha2⟩ := List.mem_flatten.mp ha
  obtain ⟨q, hq, rfl⟩ := List.mem_map.mp hl
  exact List.mem_flatten.mpr ⟨q.L, List.mem_map.mpr ⟨q, pp.subset hq, rfl⟩, ha2⟩
theorem simE_callK {ta : TA} {ops : List Op} {fn : Fn} {is : List Nat} {E : XK} (h : SimA K ta ops) (hp : is.Perm (List.range ops.length)) : SimE K (fun σ H Q => ta σ H fun vs H1 => spOf K fn (permL is vs) H1 Q E) (callKF fn is ops) := by
  intro ρ d ρ' e σ G H F r Q q
  unfold callKF at e
  cases he : evOps ops ρ with
  | none => rw [he] at e; cases e
  | some p =>
    obtain ⟨ts, ρ1⟩ := p
    rw [he] at e
    have e1 : ((VS.fetchC fn.pins (permL is ops) (permL is ts) ρ1).bind fun c => (fn.sem c.1).bind fun q => some (q.1, putB (permL is ops) c.1 q.2 c.2)) = some (d, ρ') := e
    cases hf : VS.fetchC fn.pins (permL is ops) (permL is ts) ρ1 with
    | none => rw [hf] at e1; cases e1
    | some c =>
      obtain ⟨ds, ρr⟩ := c
      rw [hf] at e1
      have e2 : ((fn.sem ds).bind fun q => some (q.1, putB (permL is ops) ds q.2 ρr)) = some (d, ρ') := e1
      cases hs : fn.sem ds with
      | none => rw [hs] at e2; cases e2
      | some pq =>
        obtain ⟨d1, os⟩ := pq
        rw [hs] at e2; cases e2
        refine h ρ ts ρ1 he σ G H F r _ fun vs0 G1 H1 F1 M0 t1 r1 ok0 n0 => ?_
        obtain ⟨M, ok, sM⟩ := ok0.perm hp
        generalize permL is vs0 = vs at ok
        have n1 : ∀ a ∈ M, ¬ own F1 a := fun a ha => n0 a (sM a ha)
        obtain ⟨L, Fr, hR, rr, nL, sL, sF⟩ := ok.fetchC r1 n1 hf
        have ap := ok.at'
        have hnp : vs.length = fn.np := hR.length.trans (fn.len ds _ hs)
        refine ⟨G1, ds, L, _, os, r1.sub, hR, hnp, hs, fun v G2 H2 P N t2 ro rv nN => ?_⟩
        have rr2 := rr.tr t2 (fun a ho hl => nL a hl ho)
        have apF : ∀ a, own Fr a → ¬ (a ∈ P ∨ a ∈ N) := fun a ho => by
          obtain ⟨j, hj⟩ := id ho
          exact t2.apart (L := Fr j) (rr.owned j) (fun b hb hl => nL b hl ⟨j, hb⟩) a hj
        obtain ⟨F', r', s⟩ := putB_ok (ds := ds) ap ro rr2 (fun a ha ho => apF a ho (.inl ha))
        refine q v G2 H2 F' N (t1.trans (t2.wk (fun a ha => ?_) fun a ha => ?_)) r' rv fun a ha ho => ?_
        · exact (sL a ha).imp id (sM a)
        · rcases ha with z | z
          · rcases s a z with y | y
            · exact .inr (.inl (.inl (sF a y)))
            · exact .inl (.inl y)
          · exact .inl (.inr z)
        · rcases s a ho with y | y
          · exact apF a y (.inr ha)
          · exact nN a ha y
end
section
variable {X : Cx} {k : Nat} {f : Addr} {fd : FuncData} {ps ks : List Str} {fn : Fn} {x : Str} {p pos kpos : Pos} {e : Expr} {es : List Expr} {kws : List Keyword} {ops kops : List Op} {nm : Option Str}
abbrev PKf (X : Cx) (kws : List Keyword) (ops : List Op) : Prop := PK X kws (taOf X.K ops)
theorem PKf.mk {ta : TA} (h : PK X kws ta) (s : SimA X.K ta ops) : PKf X kws ops := ⟨fun p pins sh σ H Q I ⟨ρ, d, ρ', G, F, ee, r, q⟩ => h.run p pins sh σ H Q I (s ρ d ρ' ee σ G H F r Q q)⟩
theorem pkf_nil : PKf X [] [] := .mk pk_nil simA_nil
theorem pkf_cons {o : Op} (h1 : POf X e o) (h2 : PKf X kws ops) : PKf X (⟨nm, e, kpos⟩ :: kws) (o :: ops) := by
  obtain ⟨te, p1, s1⟩ := h1.ex
  exact .mk (pk_cons p1 h2) (simA_cons s1 (simA_of _))
/-- how n positional values and the keywords ks are bound: the parameters' order is told by places -/
def KB (K : PySem.W.Frag) (fd : FuncData) (ps : List Str) (n : Nat) (ks : List Str) (is : List Nat) : Prop :=
  ∀ (s : Shared) (us ws : List Value), K.In s.heap → us.length = n → ws.length = ks.length → BindsTo s fd ⟨us, ks.zip ws⟩ (ps.zip (permL is (us ++ ws)))
theorem permL_vals {vs : List V} {us : List Value} (h : Vals vs us) : ∀ is : List Nat, Vals (permL is vs) (permL is us)
  | [] => .nil
  | i :: is => by
    unfold permL
    rw [List.filterMap_cons, List.filterMap_cons]
    cases hv : vs[i]? with
    | none =>
      rw [h.none_of hv]
      exact permL_vals h is
    | some v =>
      obtain ⟨u, hu, r⟩ := h.get hv
      rw [hu]
      exact .cons r (permL_vals h is)
theorem run_fnP {n : Nat} {is : List Nat} {pins : List (Addr × Obj)} {σ : L2.St} {H : Hp} {s : Shared} {Q : VK} {us ws : List Value} {vs zs : List V} (F : FnOk X.prog X.w X.K X.mg X.base CX0 k f fd ps (spOf X.K fn)) (hr : Room k X.A) (hb : KB X.K fd ps n ks is)
    (I : Inv X pins σ H s) (r : Vals vs us) (rz : Vals zs ws) (l1 : vs.length = n) (l2 : zs.length = ks.length) (h : spOf X.K fn (permL is (vs ++ zs)) H Q E0) : wpAny (model X.prog X.w) X.A (call (.ref f) us (ks.zip ws)) (EP X pins σ Q) X.xe s := by
  have r2 := permL_vals (r.append rz) is
  refine wpAny_call (codeAny_mono (F.run X.A X.stack s H ⟨us, ks.zip ws⟩ (permL is (us ++ ws)) (permL is (vs ++ zs)) Q E0 hr I.env0 (hb s us ws I.kIn (r.length.symm.trans l1) (rz.length.symm.trans l2)) r2 h) fun r s' hq => ?_)
  cases r with
  | error e => exact hq.elim
  | ok fl =>
    cases fl with
    | ret u => exact I.after hq
    | next => exact False.elim hq
    | brk => exact False.elim hq
    | cont => exact False.elim hq
theorem OpsOk.len {K : PySem.W.Frag} {G H : Hp} {σ : L2.St} : ∀ {ops ts vs M}, OpsOk K G H σ ops ts vs M → vs.length = ops.length
  | _, _, _, _, .nil => rfl
  | _, _, _, _, .b _ r => by simp [r.len]
  | _, _, _, _, .t _ _ r => by simp [r.len]
/-- a reading whose values are so many -/
def taN (n : Nat) (ta : TA) : TA := fun σ H Q => ta σ H fun vs H1 => vs.length = n ∧ Q vs H1
theorem simA_N {K : PySem.W.Frag} {ta : TA} (h : SimA K ta ops) : SimA K (taN ops.length ta) ops := fun ρ ts ρ' e σ G H F r Q q =>
  h ρ ts ρ' e σ G H F r _ fun vs G' H' F' M t r' ok n => ⟨ok.len, q vs G' H' F' M t r' ok n⟩
theorem pf_callK0 {is : List Nat} (F : FnOk X.prog X.w X.K X.mg X.base CX0 k f fd ps (spOf X.K fn)) (hr : Room k X.A) (hg : Gl X x) (hm : X.mg x = some (.ref f)) (hk : PySem.W.keepIn X.K (.ref f) = true) (hb : KB X.K fd ps 0 ks is) (hp : is.Perm (List.range kops.length)) (hkl : kops.length = ks.length)
    (hkw : PKf X kws kops) (hall : (backToKw pos (keywordEach kws X.env)).all (·.1.isSome) = true := by rfl) (hks : (backToKw pos (keywordEach kws X.env)).filterMap (·.1) = ks := by rfl)
    (hdb : (x == ("__debug__" : Str)) = false := by decide)
    (hpl : ((backTo pos (starEach [] X.env)).any (·.1) || (backToKw pos (keywordEach kws X.env)).any (·.1.isNone)) = false := by rfl) : PEf X (.Call (.Name x p) [] kws pos) (callKF fn is kops) := by
  refine .mk (te := fun σ H Q => taN kops.length (taOf X.K kops) σ H fun zs H2 => spOf X.K fn (permL is zs) H2 Q E0) ⟨fun pins s σ H Q I h => ?_⟩ (simE_callK (simA_N (simA_of kops)) hp)
  refine wpAny_Call_Name_kw (ld_glob I hg hm ?_ hdb)
  refine PySem.W.callWith_KW0 (h₀ := X.base) I.ok.mod.kin hk hall ?_ hpl
  refine thn (hkw.run pos pins s σ H _ I h) fun ws s2 ⟨zs, H2, I2, rz, q2⟩ => ⟨I2.kIn, ?_⟩
  rw [hks]
  have := run_fnP (us := []) (vs := []) F hr hb I2 .nil rz rfl (q2.1.trans hkl) (by rw [List.nil_append]; exact q2.2)
  exact this
end
end VS
set_option Elab.async false
set_option linter.all false
set_option maxRecDepth 100000
namespace VS
open PySem PySem.Spec PyProof.Rows L2
/-! ### comprehensions -/
def wipeD (ρ : Env) : List Nat → Env
  | [] => ρ
  | v :: vs => (wipeD ρ vs).set v none
def goLc (vs : List Nat) (fg : D → Env → Option Env) (ft : FB) (fe : FE) : List D → Env → Option (List D × Env)
  | [], ρ => some ([], ρ)
  | d :: ds, ρ => (fg d ρ).bind fun ρ1 => (ft ρ1).bind fun b => if b.1 = true then (fe b.2).bind fun q => (goLc vs fg ft fe ds (wipeD q.2 vs)).bind fun r => some (q.1 :: r.1, r.2) else goLc vs fg ft fe ds (wipeD b.2 vs)
def lcF (vs : List Nat) (fi : FI) (fg : D → Env → Option Env) (ft : FB) (fe : FE) : FE := fun ρ => (fi ρ).bind fun p => (goLc vs fg ft fe p.1 (wipeD p.2 vs)).bind fun q => if q.1.length ≤ smallL then some (.lst true q.1, q.2) else none
def yesF : FB := fun ρ => some (true, ρ)
section
variable {K : PySem.W.Frag} {G H : Hp} {σ : L2.St} {ρ : Env} {F : Nat → List Addr}
theorem REnv.drop2 (r : REnv K G H σ ρ F) (i : Nat) : REnv K G H (σ.set i none) (ρ.set i none) (fset F i []) := by
  have d := r.drop i
  refine ⟨d.sub, by rw [List.length_set]; exact d.len, fun j e q => ?_, d.off, d.dis⟩
  obtain ⟨v, e1, e2⟩ := d.at_ j e q
  have : j ≠ i := fun z => by
    subst z
    rw [getS_set] at q
    by_cases hl : j < ρ.length
    · rw [if_pos ⟨rfl, hl⟩] at q; cases q
    · rw [if_neg (fun z => hl z.2)] at q; exact hl (r.lt q)
  exact ⟨v, by rw [List.getElem?_set_ne (Ne.symm this)]; exact e1, e2⟩
theorem REnv.wipe (r : REnv K G H σ ρ F) : ∀ vs : List Nat, ∃ F', REnv K G H (L2.wipe σ vs) (wipeD ρ vs) F' ∧ ∀ a, own F' a → own F a
  | [] => ⟨F, r, fun _ h => h⟩
  | v :: vs => by
    obtain ⟨F', r', s⟩ := r.wipe vs
    exact ⟨_, r'.drop2 v, fun a h => s a ((own_set h).elim id fun z => nomatch z)⟩
theorem getS_wipe : ∀ {vs : List Nat} {i : Nat} {d : D}, getS (wipeD ρ vs) i = some d → i ∉ vs
  | [], _, _, _ => List.not_mem_nil
  | v :: vs, i, d, h => by
    unfold wipeD at h
    rw [getS_set] at h
    intro hm
    rcases List.mem_cons.mp hm with z | z
    · subst z
      by_cases hl : i < (wipeD ρ vs).length
      · rw [if_pos ⟨rfl, hl⟩] at h; cases h
      · rw [if_neg (fun z => hl z.2)] at h
        unfold getS at h
        rw [List.getElem?_eq_none (by omega)] at h; cases h
    · by_cases hv : i = v ∧ v < (wipeD ρ vs).length
      · rw [if_pos hv] at h; cases h
      · rw [if_neg hv] at h; exact getS_wipe h z
/-- nothing is known of the wiped slots: any values may stand there -/
theorem REnv.unwipe {vs : List Nat} (r : REnv K G H (L2.wipe σ vs) ρ F) (h : ∀ i d, getS ρ i = some d → i ∉ vs) : REnv K G H σ ρ F := by
  refine ⟨r.sub, by rw [← r.len, wipe_length], fun i d q => ?_, r.off, r.dis⟩
  obtain ⟨v, e, hr⟩ := r.at_ i d q
  exact ⟨v, by rw [← wipe_out (h i d q)]; exact e, hr⟩
theorem wipe_pin {vs : List Nat} {σ σ' : L2.St} (p : Pin (fun j => !vs.contains j) (L2.wipe σ vs) σ') : L2.wipe σ' vs = L2.wipe σ vs := by
  have none_in : ∀ (τ : L2.St) (us : List Nat) (i : Nat), i ∈ us → i < τ.length → (L2.wipe τ us)[i]? = some none := by
    intro τ us
    induction us with
    | nil => intro i h; cases h
    | cons u us ih =>
      intro i h hl
      unfold L2.wipe
      by_cases hu : u = i
      · subst hu; rw [List.getElem?_set_self (by rw [wipe_length]; exact hl)]
      · rw [List.getElem?_set_ne hu]
        rcases List.mem_cons.mp h with z | z
        · exact absurd z.symm hu
        · exact ih i z hl
  apply List.ext_getElem?
  intro i
  by_cases hi : i ∈ vs
  · by_cases hl : i < σ.length
    · rw [none_in _ _ _ hi (by rw [p.1, wipe_length]; exact hl), none_in _ _ _ hi hl]
    · rw [List.getElem?_eq_none (by rw [wipe_length, p.1, wipe_length]; omega), List.getElem?_eq_none (by rw [wipe_length]; omega)]
  · rw [wipe_out hi]
    exact p.2 i (by simpa using hi)
theorem Reps.snoc : ∀ {vs : List V} {ds : List D} {L M : List Addr} {v : V} {d : D}, Reps K G H vs ds L → Rep K G H v d M → (∀ a ∈ L, a ∉ M) → Reps K G H (vs ++ [v]) (ds ++ [d]) (L ++ M)
  | _, _, _, M, v, d, .nil, h, n => by
    have := Reps.cons h (.nil (K := K) (G := G) (H := H)) (fun a _ z => nomatch z)
    rw [List.append_nil] at this
    exact this
  | _, _, _, M, v, d, .cons (L := L1) (M := L2) hv hr hn, h, n => by
    have := Reps.cons hv (hr.snoc h fun a ha => n a (List.mem_append_right _ ha)) (fun a ha hm => (List.mem_append.mp hm).elim (hn a ha) (n a (List.mem_append_left _ ha)))
    rw [← List.append_assoc] at this
    exact this
theorem goLc_len {vs : List Nat} {fg : D → Env → Option Env} {ft : FB} {fe : FE} {ds : List D} {ρ ρ' : Env} {xs : List D} (h : goLc vs fg ft fe ds ρ = some (xs, ρ')) (hv : ∀ i d, getS ρ i = some d → i ∉ vs) : ∀ i d, getS ρ' i = some d → i ∉ vs := by
  induction ds generalizing ρ xs with
  | nil => unfold goLc at h; cases h; exact hv
  | cons d ds ih =>
    unfold goLc at h
    cases h1 : fg d ρ with
    | none => rw [h1] at h; cases h
    | some ρ1 =>
      rw [h1] at h
      have h2 : (ft ρ1).bind (fun b => if b.1 = true then (fe b.2).bind fun q => (goLc vs fg ft fe ds (wipeD q.2 vs)).bind fun r => some (q.1 :: r.1, r.2) else goLc vs fg ft fe ds (wipeD b.2 vs)) = some (xs, ρ') := h
      cases h3 : ft ρ1 with
      | none => rw [h3] at h2; cases h2
      | some b =>
        rw [h3] at h2
        have h4 : (if b.1 = true then (fe b.2).bind fun q => (goLc vs fg ft fe ds (wipeD q.2 vs)).bind fun r => some (q.1 :: r.1, r.2) else goLc vs fg ft fe ds (wipeD b.2 vs)) = some (xs, ρ') := h2
        by_cases hb : b.1 = true
        · rw [if_pos hb] at h4
          cases h5 : fe b.2 with
          | none => rw [h5] at h4; cases h4
          | some q =>
            rw [h5] at h4
            have h6 : (goLc vs fg ft fe ds (wipeD q.2 vs)).bind (fun r => some (q.1 :: r.1, r.2)) = some (xs, ρ') := h4
            cases h7 : goLc vs fg ft fe ds (wipeD q.2 vs) with
            | none => rw [h7] at h6; cases h6
            | some r => rw [h7] at h6; cases h6; exact ih h7 (fun i d q => getS_wipe q)
        · rw [if_neg hb] at h4
          exact ih h4 (fun i d q => getS_wipe q)
theorem simE_lc {wi : TI} {g : TG} {tt : TT} {te : TE} {vs : List Nat} {fi : FI} {fg : D → Env → Option Env} {ft : FB} {fe : FE} (hi : SimI K wi fi) (hg : SimG K (fun j => !vs.contains j) g fg) (ht : SimT K tt ft) (he : SimE K te fe) : SimE K (tLc wi g tt te vs) (lcF vs fi fg ft fe) := by
  intro ρ d ρ' e σ G H F r Q q
  unfold lcF at e
  cases hf : fi ρ with
  | none => rw [hf] at e; cases e
  | some p =>
    obtain ⟨ds, ρ1⟩ := p
    rw [hf] at e
    have e1 : (goLc vs fg ft fe ds (wipeD ρ1 vs)).bind (fun q => if q.1.length ≤ smallL then some (D.lst true q.1, q.2) else none) = some (d, ρ') := e
    cases hgo : goLc vs fg ft fe ds (wipeD ρ1 vs) with
    | none => rw [hgo] at e1; cases e1
    | some pq =>
      obtain ⟨xs, ρe⟩ := pq
      rw [hgo] at e1
      have e2 : (if xs.length ≤ smallL then some (D.lst true xs, ρe) else none) = some (d, ρ') := e1
      by_cases hz : xs.length ≤ smallL
      · rw [if_pos hz] at e2; cases e2
        have hwe : ∀ i d, getS ρ' i = some d → i ∉ vs := goLc_len hgo (fun i d q => getS_wipe q)
        refine hi ρ ds ρ1 hf σ G H F r _ fun J G1 H1 F1 t1 r1 jo Dl hDl => ?_
        obtain ⟨F0, r0, s0⟩ := r1.wipe vs
        have tn : Tr G1 H1 (own F1) G1 (upd H1 Dl (.lst [])) (fun a => own F1 a ∨ a = Dl) := Tr.newO r1.sub hDl
        have nD : ¬ own F1 Dl := fun ⟨j, hj⟩ => by obtain ⟨_, vs, ee, ld⟩ := r1.owned j _ hj; rw [hDl] at ee; cases ee
        have gD : G1 Dl = none := r1.sub.free hDl
        have r0' : REnv K G1 (upd H1 Dl (.lst [])) (L2.wipe σ vs) (wipeD ρ1 vs) F0 := r0.tr (Tr.newO (A := fun _ => False) r0.sub hDl) (fun _ _ z => z)
        -- the word
        let Wd : Nat → Hp → Prop := fun i H' => ∃ accV accD rest L ρi Gi Fi, goLc vs fg ft fe (ds.drop i) ρi = some (rest, ρ') ∧ accD ++ rest = xs ∧ H' Dl = some (.lst accV) ∧ Gi Dl = none ∧ Dl ∉ L ∧ ¬ own Fi Dl ∧ Reps K Gi H' accV accD L ∧ (∀ a ∈ L, ¬ own Fi a) ∧ REnv K Gi H' (L2.wipe σ vs) ρi Fi ∧ Tr G1 H1 (own F1) Gi H' (fun a => own Fi a ∨ a ∈ Dl :: L)
        refine ⟨fun i m H' => m = ds.length - i ∧ i ≤ ds.length ∧ Wd i H', ⟨ds.length, by omega, Nat.zero_le _, [], [], xs, [], wipeD ρ1 vs, G1, F0, hgo, rfl, upd_same, gD, List.not_mem_nil, fun z => nD (s0 _ z), .nil, fun a z => (nomatch z), r0', tn.post fun a h => ?_⟩, ?_⟩
        · rcases h with h | h
          · exact .inl (s0 a h)
          · exact .inr (by simpa using h)
        rintro i m H' ⟨rfl, hle, accV, accD, rest, L, ρi, Gi, Fi, eg, ex, hD, hGD, nDL, nDF, hR, nLF, ri, ti⟩
        have sH : Same G1 H' := ti.g.trans ti.sub
        by_cases hlt : i < ds.length
        · refine .inr ⟨jo.goes i H' hlt sH, fun H2 => ∃ m', m' < ds.length - i ∧ (m' = ds.length - (i + 1) ∧ i + 1 ≤ ds.length ∧ Wd (i + 1) H2), fun _ h => h, fun x H2 hy => ?_⟩
          have hd : ds[i]? = some ds[i] := List.getElem?_eq_getElem hlt
          obtain ⟨G2, t2, rv⟩ := jo.yields i ds[i] Gi H' x H2 hd ti.g ri.sub hy
          have r2 := ri.tr t2 (fun _ _ z => z)
          have hR2 := hR.tr t2 (fun _ _ z => z)
          have hD2 := t2.keep Dl _ hD (fun z => z)
          have hGD2 : G2 Dl = none := (t2.keepG Dl _ hD (fun z => z)).trans hGD
          have ti2 : Tr G1 H1 (own F1) G2 H2 (fun a => own Fi a ∨ a ∈ Dl :: L) := ti.trans (t2.wk (fun _ z => z.elim) fun a h => .inr (.inl h))
          rw [show ds.drop i = ds[i] :: ds.drop (i + 1) from List.drop_eq_getElem_cons hlt] at eg
          have eg1 : (fg ds[i] ρi).bind (fun ρ1 => (ft ρ1).bind fun b => if b.1 = true then (fe b.2).bind fun q => (goLc vs fg ft fe (ds.drop (i + 1)) (wipeD q.2 vs)).bind fun r => some (q.1 :: r.1, r.2) else goLc vs fg ft fe (ds.drop (i + 1)) (wipeD b.2 vs)) = some (rest, ρ') := eg
          cases hg1 : fg ds[i] ρi with
          | none => rw [hg1] at eg1; cases eg1
          | some ρ2 =>
            rw [hg1] at eg1
            have eg2 : (ft ρ2).bind (fun b => if b.1 = true then (fe b.2).bind fun q => (goLc vs fg ft fe (ds.drop (i + 1)) (wipeD q.2 vs)).bind fun r => some (q.1 :: r.1, r.2) else goLc vs fg ft fe (ds.drop (i + 1)) (wipeD b.2 vs)) = some (rest, ρ') := eg1
            refine hg ds[i] ρi ρ2 hg1 x (L2.wipe σ vs) G2 H2 Fi [] r2 rv (fun a z => nomatch z) _ fun σ3 G3 H3 F3 t3 r3 p3 => ?_
            have nA3 : ∀ a ∈ Dl :: L, ¬ (own Fi a ∨ a ∈ ([] : List Addr)) := fun a ha z => by
              rcases z with z | z
              · rcases List.mem_cons.mp ha with y | y
                · subst y; exact nDF z
                · exact nLF a y z
              · cases z
            have own2 : ∀ a ∈ Dl :: L, G2 a = none ∧ ∃ o, H2 a = some o ∧ LD o := fun a ha => by
              rcases List.mem_cons.mp ha with y | y
              · subst y; exact ⟨hGD2, _, hD2, .l _⟩
              · exact hR2.owned a y
            have ap3 := t3.apart own2 nA3
            have hR3 := hR2.tr t3 (fun a ha => nA3 a (List.mem_cons_of_mem _ ha))
            have hD3 := t3.keep Dl _ hD2 (nA3 Dl List.mem_cons_self)
            have hGD3 : G3 Dl = none := (t3.keepG Dl _ hD2 (nA3 Dl List.mem_cons_self)).trans hGD2
            refine ⟨wipe_pin p3, ?_⟩
            cases ht1 : ft ρ2 with
            | none => rw [ht1] at eg2; cases eg2
            | some b =>
              obtain ⟨b, ρ4⟩ := b
              rw [ht1] at eg2
              have eg3 : (if b = true then (fe ρ4).bind fun q => (goLc vs fg ft fe (ds.drop (i + 1)) (wipeD q.2 vs)).bind fun r => some (q.1 :: r.1, r.2) else goLc vs fg ft fe (ds.drop (i + 1)) (wipeD ρ4 vs)) = some (rest, ρ') := eg2
              refine ht ρ2 b ρ4 ht1 σ3 G3 H3 F3 r3 _ fun G4 H4 F4 t4 r4 => ?_
              have own3 : ∀ a ∈ Dl :: L, G3 a = none ∧ ∃ o, H3 a = some o ∧ LD o := fun a ha => by
                rcases List.mem_cons.mp ha with y | y
                · subst y; exact ⟨hGD3, _, hD3, .l _⟩
                · exact hR3.owned a y
              have ap4 := t4.apart own3 ap3
              have hR4 := hR3.tr t4 (fun a ha => ap3 a (List.mem_cons_of_mem _ ha))
              have hD4 := t4.keep Dl _ hD3 (ap3 Dl List.mem_cons_self)
              have hGD4 : G4 Dl = none := (t4.keepG Dl _ hD3 (ap3 Dl List.mem_cons_self)).trans hGD3
              have t34 : Tr G2 H2 (own Fi) G4 H4 (own F4) := (t3.wk (fun a h => h.elim id fun z => nomatch z) fun a h => .inl h).trans t4
              -- behind the turn so far
              have tlong : Tr G1 H1 (own F1) G4 H4 (fun a => own F4 a ∨ a ∈ Dl :: L) := ti2.trans (t34.wk (fun a h => .inl h) fun a h => by
                rcases h with h | h
                · exact .inl h
                · exact .inr (.inl (.inr h)))
              cases b with
              | false =>
                rw [if_neg Bool.false_ne_true] at eg3
                rw [if_neg Bool.false_ne_true]
                obtain ⟨F5, r5, s5⟩ := r4.wipe vs
                rw [wipe_pin p3] at r5
                refine ⟨_, by omega, rfl, hlt, accV, accD, rest, L, _, G4, F5, eg3, ex, hD4, hGD4, nDL, fun z => ap4 Dl List.mem_cons_self (s5 _ z), hR4, fun a ha z => ap4 a (List.mem_cons_of_mem _ ha) (s5 a z), r5, tlong.post fun a h => h.imp (s5 a) id⟩
              | true =>
                rw [if_pos rfl] at eg3
                rw [if_pos rfl]
                cases he1 : fe ρ4 with
                | none => rw [he1] at eg3; cases eg3
                | some qd =>
                  obtain ⟨y, ρ5⟩ := qd
                  rw [he1] at eg3
                  have eg4 : (goLc vs fg ft fe (ds.drop (i + 1)) (wipeD ρ5 vs)).bind (fun r => some (y :: r.1, r.2)) = some (rest, ρ') := eg3
                  cases hgo2 : goLc vs fg ft fe (ds.drop (i + 1)) (wipeD ρ5 vs) with
                  | none => rw [hgo2] at eg4; cases eg4
                  | some rr =>
                    obtain ⟨rest2, ρr⟩ := rr
                    rw [hgo2] at eg4; cases eg4
                    refine he ρ4 y ρ5 he1 σ3 G4 H4 F4 r4 _ fun v G5 H5 F5 M t5 r5 rv5 n5 => ?_
                    have own4 : ∀ a ∈ Dl :: L, G4 a = none ∧ ∃ o, H4 a = some o ∧ LD o := fun a ha => by
                      rcases List.mem_cons.mp ha with y | y
                      · subst y; exact ⟨hGD4, _, hD4, .l _⟩
                      · exact hR4.owned a y
                    have ap5 := t5.apart own4 ap4
                    have hR5 := hR4.tr t5 (fun a ha => ap4 a (List.mem_cons_of_mem _ ha))
                    have hD5 := t5.keep Dl _ hD4 (ap4 Dl List.mem_cons_self)
                    have hGD5 : G5 Dl = none := (t5.keepG Dl _ hD4 (ap4 Dl List.mem_cons_self)).trans hGD4
                    obtain ⟨F6, r6, s6⟩ := r5.wipe vs
                    rw [wipe_pin p3] at r6
                    have nDM : Dl ∉ M := fun z => ap5 Dl List.mem_cons_self (.inr z)
                    have nLM : ∀ a ∈ L, a ∉ M := fun a ha z => ap5 a (List.mem_cons_of_mem _ ha) (.inr z)
                    have sn := hR5.snoc rv5 nLM
                    have kp : ∀ {L0 : List Addr}, Dl ∉ L0 → Keep G5 H5 G5 (upd H5 Dl (.lst (accV ++ [v]))) L0 := fun {L0} hn0 => ⟨Same.refl _, fun _ _ h => h, fun b hb => upd_ne fun z => hn0 (z ▸ hb)⟩
                    have nDLM : Dl ∉ L ++ M := fun z => (List.mem_append.mp z).elim nDL nDM
                    have tw : Tr G5 H5 (fun b => b = Dl) G5 (upd H5 Dl (.lst (accV ++ [v]))) (fun b => b = Dl) := Tr.write r5.sub hGD5 rfl ⟨_, hD5⟩
                    have nD6 : ∀ a, own F6 a → a ≠ Dl := fun a h z => ap5 Dl List.mem_cons_self (.inl (s6 _ (z ▸ h)))
                    have hlen : accV.length = accD.length := hR.length
                    refine ⟨accV, hD5, ?_, _, by omega, rfl, hlt, accV ++ [v], accD ++ [y], rest2, L ++ M, _, G5, F6, hgo2, by rw [List.append_assoc]; exact ex, upd_same, hGD5, nDLM, fun z => nD6 _ z rfl, sn.keep (kp nDLM), fun a ha z => ?_, r6.tr tw nD6, ?_⟩
                    · have : accD.length ≤ smallL := by
                        have h1 : accD.length ≤ xs.length := by rw [← ex, List.length_append]; omega
                        omega
                      rw [hlen]
                      exact Nat.lt_of_le_of_lt this (by decide)
                    · rcases List.mem_append.mp ha with w | w
                      · exact ap5 a (List.mem_cons_of_mem _ w) (.inl (s6 a z))
                      · exact n5 a w (s6 a z)
                    · refine (tlong.trans (t5.wk (A2 := fun a => own F5 a ∨ a ∈ Dl :: (L ++ M)) (B := fun a => own F4 a ∨ a ∈ Dl :: L) (fun a h => .inl h) fun a h => ?_)).trans (tw.wk (fun b z => .inr (z ▸ List.mem_cons_self)) fun a h => ?_)
                      · rcases h with h | h
                        · exact .inl (.inl h)
                        · rcases List.mem_cons.mp h with z | z
                          · exact .inr (.inl (.inr (z ▸ List.mem_cons_self)))
                          · rcases List.mem_append.mp z with y | y
                            · exact .inr (.inl (.inr (List.mem_cons_of_mem _ y)))
                            · exact .inl (.inr y)
                      · rcases h with h | h
                        · exact .inr (.inl (.inl (s6 a h)))
                        · exact .inr (.inl (.inr h))
        · have ei : i = ds.length := by omega
          subst ei
          rw [List.drop_length] at eg
          cases eg
          rw [List.append_nil] at ex
          subst ex
          have ru := ri.unwipe hwe
          refine .inl ⟨jo.stops H' sH, q (.ref Dl) Gi H' Fi (Dl :: L) (t1.trans ti) ru (.lstO hGD hD nDL hR) fun a ha => ?_⟩
          rcases List.mem_cons.mp ha with z | z
          · subst z; exact nDF
          · exact nLF a z
      · rw [if_neg hz] at e2; cases e2
end
end VS
set_option Elab.async false
set_option linter.all false
set_option maxRecDepth 100000
namespace VS
open PySem PySem.Spec PyProof.Rows L2
/-- name op= e: what stands in the slot bears nothing owned -/
def augF (i : Nat) (g : List D → Option D) (o : Op) : FS := fun ρ => (getS ρ i).bind fun d0 => if noOwn d0 = true then (evOps [o] ρ).bind fun p => (fetch [o] p.1 p.2).bind fun ds => (g (d0 :: ds)).bind fun d => some (.nx (p.2.set i (some d))) else none
section
variable {K : PySem.W.Frag} {pn : Nat → Bool} {W : WX}
theorem simS_aug {i : Nat} {te : TE} {ti : TIp} {o : Op} {g : List D → Option D} (hp : pn i = false) (ho : SimO K te o) (hv : VOk K (fun vs H Q => match vs with | [x, y] => ti x y H Q | _ => False) g) : SimS K pn W (tAug i te ti) (augF i g o) := by
  intro ρ out e σ G H F r E q
  unfold augF at e
  cases h0 : getS ρ i with
  | none => rw [h0] at e; cases e
  | some d0 =>
    rw [h0] at e
    have e0 : (if noOwn d0 = true then (evOps [o] ρ).bind fun p => (fetch [o] p.1 p.2).bind fun ds => (g (d0 :: ds)).bind fun d => some (Out.nx (p.2.set i (some d))) else none) = some out := e
    by_cases hn : noOwn d0 = true
    · rw [if_pos hn] at e0
      obtain ⟨v, hv0, hr⟩ := r.at_ i d0 h0
      have hL := hr.noL hn
      rw [hL] at hr
      cases he : evOps [o] ρ with
      | none => rw [he] at e0; cases e0
      | some p =>
        obtain ⟨ts, ρ1⟩ := p
        rw [he] at e0
        have e1 : (fetch [o] ts ρ1).bind (fun ds => (g (d0 :: ds)).bind fun d => some (Out.nx (ρ1.set i (some d)))) = some out := e0
        cases hf : fetch [o] ts ρ1 with
        | none => rw [hf] at e1; cases e1
        | some ds =>
          rw [hf] at e1
          have e2 : (g (d0 :: ds)).bind (fun d => some (Out.nx (ρ1.set i (some d)))) = some out := e1
          cases hg : g (d0 :: ds) with
          | none => rw [hg] at e2; cases e2
          | some d =>
            rw [hg] at e2; cases e2
            refine ⟨v, hv0, ?_⟩
            have key := simA_cons (ta := tNil) (ops := []) ho simA_nil ρ ts ρ1 he σ G H F r (fun vs H1 => ∀ x, vs = [x] → ti v x H1 fun z H2 => E.nx (σ.set i (some z)) H2) fun vs G1 H1 F1 M t1 r1 ok n1 x ev => ?_
            · have k2 : te σ H fun x H1 => ∀ y, [x] = [y] → ti v y H1 fun z H2 => E.nx (σ.set i (some z)) H2 := key
              have m : (fun (x : V) H1 => ∀ y, [x] = [y] → ti v y H1 fun z H2 => E.nx (σ.set i (some z)) H2) = (fun x H1 => ti v x H1 fun z H2 => E.nx (σ.set i (some z)) H2) := by
                funext x H1
                exact propext ⟨fun h => h x rfl, fun h y e => by cases e; exact h⟩
              rw [m] at k2
              exact k2
            · subst ev
              have rl := ok.get r1 hf
              refine hv G1 H1 [v, x] (d0 :: ds) d r1.sub (.cons (hr.far t1.g) rl) hg _ fun z G2 H2 L t2 rz => ?_
              have r2 := r1.tr t2 (fun _ _ z => z)
              have nL : ∀ a ∈ L, ¬ own F1 a := fun a ha ⟨j, hj⟩ => by
                rcases t2.new a ha with y | y
                · exact y
                · obtain ⟨_, vs, ee, ld⟩ := r1.owned j a hj
                  rw [y] at ee; cases ee
              obtain ⟨F3, r3, s3⟩ := r2.put' i rz nL
              refine q _ G2 H2 F3 ((t1.post fun a h => .inl h).trans (t2.wk (fun _ z => z.elim) fun a h => ?_)) r3 (Pin.set hp)
              rcases s3 a h with y | y
              · exact .inr (.inl y)
              · exact .inl y
    · rw [if_neg hn] at e0; cases e0
theorem Reps.setAt : ∀ {G H : Hp} {vs : List V} {ds : List D} {L M : List Addr} {v : V} {d : D} (j : Nat), Reps K G H vs ds L → Rep K G H v d M → (∀ a ∈ L, a ∉ M) → ∃ N, Reps K G H (vs.set j v) (ds.set j d) N ∧ ∀ a ∈ N, a ∈ L ∨ a ∈ M
  | _, _, _, _, _, M, v, d, j, .nil, h, n => ⟨[], .nil, fun a z => (nomatch z)⟩
  | _, _, _, _, _, M, v, d, 0, .cons (L := L1) (M := L2) hv hr hn, h, n =>
    ⟨M ++ L2, .cons h hr fun a ha hm => n a (List.mem_append_right _ hm) ha, fun a ha => (List.mem_append.mp ha).elim .inr fun z => .inl (List.mem_append_right _ z)⟩
  | _, _, _, _, _, M, v, d, j + 1, .cons (L := L1) (M := L2) hv hr hn, h, n => by
    obtain ⟨N, q, s⟩ := hr.setAt j h fun a ha => n a (List.mem_append_right _ ha)
    refine ⟨L1 ++ N, .cons hv q fun a ha hm => ?_, fun a ha => ?_⟩
    · rcases s a hm with z | z
      · exact hn a ha z
      · exact n a (List.mem_append_left _ ha) z
    · rcases List.mem_append.mp ha with z | z
      · exact .inl (List.mem_append_left _ z)
      · exact (s a z).imp (List.mem_append_right _) id
/-- x[i] = v -/
theorem simG_sub {k : Nat} {ti : TE} {oi : Op} (hi : SimO K ti oi) : SimG K pn (gSub (tVar k) ti rSetL) (tgSub k oi) := by
  intro d ρ ρ' e v σ G H F L r hv nn Q q
  unfold tgSub at e
  cases h0 : getS ρ k with
  | none => rw [h0] at e; cases e
  | some d0 =>
    rw [h0] at e
    obtain ⟨w, hw, hr0⟩ := r.at_ k d0 h0
    have e0 : (evOps [oi] ρ).bind (fun p => (fetch [oi] p.1 p.2).bind fun ds => subPut p.2 k d ds (getS p.2 k)) = some ρ' := e
    cases he : evOps [oi] ρ with
    | none => rw [he] at e0; cases e0
    | some p =>
      obtain ⟨ts, ρ1⟩ := p
      rw [he] at e0
      have e1 : (fetch [oi] ts ρ1).bind (fun ds => subPut ρ1 k d ds (getS ρ1 k)) = some ρ' := e0
      cases hf : fetch [oi] ts ρ1 with
      | none => rw [hf] at e1; cases e1
      | some ds =>
        rw [hf] at e1
        have e2 : subPut ρ1 k d ds (getS ρ1 k) = some ρ' := e1
        have key := simA_cons (ta := tNil) (ops := []) hi simA_nil ρ ts ρ1 he σ G H F r (fun vs H1 => ∀ x, vs = [x] → rSetL w x v H1 fun H2 => Q σ H2) fun vs G1 H1 F1 M t1 r1 ok n1 x ev => ?_
        · have k2 : ti σ H fun x H1 => ∀ y, [x] = [y] → rSetL w y v H1 fun H2 => Q σ H2 := key
          have m : (fun (x : V) H1 => ∀ y, [x] = [y] → rSetL w y v H1 fun H2 => Q σ H2) = (fun x H1 => rSetL w x v H1 fun H2 => Q σ H2) := by
            funext x H1
            exact propext ⟨fun h => h x rfl, fun h y e => by cases e; exact h⟩
          rw [m] at k2
          exact ⟨w, hw, k2⟩
        · subst ev
          have rl := ok.get r1 hf
          cases rl with
          | cons rx rr =>
            cases rr
            rename_i dx Lx
            cases dx with
            | int i =>
              cases rx
              cases h1 : getS ρ1 k with
              | none => rw [h1] at e2; cases e2
              | some d1 =>
                rw [h1] at e2
                cases d1 with
                | lst o xs =>
                  cases o with
                  | false => cases e2
                  | true =>
                    have e3 : (ixN xs.length i).bind (fun j => some (ρ1.set k (some (.lst true (xs.set j d))))) = some ρ' := e2
                    cases hj : ixN xs.length i with
                    | none => rw [hj] at e3; cases e3
                    | some j =>
                      rw [hj] at e3; cases e3
                      obtain ⟨w', hw', hrep⟩ := r1.at_ k _ h1
                      rw [hw] at hw'; cases hw'
                      generalize hFk : F1 k = Fk at hrep
                      cases hrep with
                      | lstO hG hH hn hr =>
                        rename_i a vs La
                        have hsub : ∀ b ∈ a :: La, own F1 b := fun b hb => ⟨k, by rw [hFk]; exact hb⟩
                        have apv : ∀ b ∈ L, ¬ (own F1 b ∨ b ∈ M) := t1.apart hv.owned nn
                        have hv1 := hv.tr t1 nn
                        obtain ⟨N, hN, sN⟩ := hr.setAt j hv1 fun b hb hbL => apv b hbL (.inl (hsub b (List.mem_cons_of_mem _ hb)))
                        have naN : a ∉ N := fun z => (sN a z).elim hn fun y => apv a y (.inl (hsub a List.mem_cons_self))
                        refine ⟨a, vs, i, j, rfl, rfl, hH, by rw [hr.length]; exact hj, ?_⟩
                        have tw : Tr G1 H1 (fun b => b = a) G1 (upd H1 a (.lst (vs.set j v))) (fun b => b = a) := Tr.write r1.sub hG rfl ⟨_, hH⟩
                        have rd := (r1.drop k).tr tw fun b ⟨jj, hjj⟩ z => by
                          subst z
                          by_cases hji : jj = k
                          · subst hji; rw [fset_same] at hjj; cases hjj
                          · rw [fset_ne hji] at hjj; exact r1.dis jj k hji _ hjj (by rw [hFk]; exact List.mem_cons_self)
                        have hnew : Rep K G1 (upd H1 a (.lst (vs.set j v))) (.ref a) (.lst true (xs.set j d)) (a :: N) := .lstO hG upd_same naN (hN.keep ⟨Same.refl _, fun _ _ h => h, fun b hb => upd_ne fun z => naN (z ▸ hb)⟩)
                        have rp := rd.re (i := k) (by rw [List.length_set]; exact r1.lt h1) hw hnew (fun b hb jj hjk hbj => by
                          rw [fset_ne hjk] at hbj
                          rcases List.mem_cons.mp hb with z | z
                          · subst z; exact r1.dis jj k hjk _ hbj (by rw [hFk]; exact List.mem_cons_self)
                          · rcases sN b z with y | y
                            · exact r1.dis jj k hjk _ hbj (by rw [hFk]; exact List.mem_cons_of_mem _ y)
                            · exact apv b y (.inl ⟨jj, hbj⟩))
                        rw [List.set_set] at rp
                        have t1' : Tr G H (fun a => own F a ∨ a ∈ L) G1 H1 (fun a => own F1 a ∨ a ∈ L) := t1.wk (fun a h => .inl h) fun a h => by
                          rcases h with h | h
                          · exact .inl (.inl h)
                          · exact .inr (.inl (.inr h))
                        refine q σ G1 _ _ (t1'.trans (tw.wk (fun b z => .inl (z ▸ hsub a List.mem_cons_self)) fun b hb => .inr (.inl ?_))) rp Pin.refl
                        obtain ⟨jj, hjj⟩ := hb
                        by_cases hji : jj = k
                        · subst hji
                          rw [fset_same] at hjj
                          rcases List.mem_cons.mp hjj with z | z
                          · exact .inl (z ▸ hsub a List.mem_cons_self)
                          · rcases sN b z with y | y
                            · exact .inl (hsub b (List.mem_cons_of_mem _ y))
                            · exact .inr y
                        · rw [fset_ne hji, fset_ne hji] at hjj; exact .inl ⟨jj, hjj⟩
                | _ => cases e2
            | _ => cases e2
end
section
variable {X : Cx} {pn : Nat → Bool} {W : WX} {e a b : Expr} {es : List Expr} {pos : Pos}
theorem psf_aug {i : Nat} {x : Str} {op : Operator} {ti : TIp} {pos' : Pos} {o : Op} {g : List D → Option D} (hN : X.N.Nodup) (hi : X.N[i]? = some x) (hx : Loc X.env.scope x) (hp : pn i = false) (he : POf X e o) (ho : PIp X op ti) (hv : VOk X.K (fun vs H Q => match vs with | [x, y] => ti x y H Q | _ => False) g)
    (hf : X.fn x = true ∨ X.env.scope.names.lookup x = some .local := by first | exact .inl rfl | exact .inr rfl | assumption) : PSf X pn W (.AugAssign (.Name x pos') op e pos) (augF i g o) := by
  obtain ⟨te, p1, s1⟩ := he.ex
  exact .mk (ps_aug hN hi hx p1 ho hf) (simS_aug hp s1 hv)
theorem pgf_sub {k : Nat} {o i : Expr} {oi : Op} (ho : PE X o (tVar k)) (hi : POf X i oi) (ha : ∀ v, assign (.Subscript o i pos) X.env v = (do
      let ov ← holding [v] (eval o X.env)
      let iv ← holding [v, ov] (eval i X.env)
      standAt pos
      holding [v, ov, iv] (setItem ov iv v)
      release [v, ov, iv] []) := by intro _; rfl) : PGf X pn (.Subscript o i pos) (tgSub k oi) := by
  obtain ⟨te, p1, s1⟩ := hi.ex
  exact .mk (pg_sub ho p1 set_list ha) (simG_sub s1)
theorem pf_tup {x1} {ops : List Op} (h : PAf X es ops) : PEf X (.Tuple es x1 pos) (tupF ops) := .mk (pe_tup h) (simE_tup (simA_of ops))
theorem pf_lst {ops : List Op} (h : PAf X es ops) : PEf X (.List es pos) (lstF ops) := .mk (pe_lst h) (simE_lst (simA_of ops))
theorem pf_lc {elt tg iter : Expr} {ifs : List Expr} {scope : Scope} {own : List (Str × Nat)} {fi : FI} {fg : D → Env → Option Env} {ft : FB} {fe : FE} (hc : X.calm = true) (hN : X.N.Nodup) (hi : PIf X tg iter fi) (ok : BlkOk X.N X.env.scope scope own)
    (hg : ∀ (s : Shared) (H : Hp) (C : Addr) (cl : List (Str × Addr)) (fp : List Addr), PGf (X.blk s H scope (compEnvC scope cl C X.env) fp) (fun j => !(own.map (·.2)).contains j) tg fg)
    (ht : ∀ (s : Shared) (H : Hp) (C : Addr) (cl : List (Str × Addr)) (fp : List Addr), PTs (X.blk s H scope (compEnvC scope cl C X.env) fp) ifs (ttOf X.K ft))
    (he : ∀ (s : Shared) (H : Hp) (C : Addr) (cl : List (Str × Addr)) (fp : List Addr), PEf (X.blk s H scope (compEnvC scope cl C X.env) fp) elt fe) (hs : ∀ x, foldedSetIterable iter X.env x = pure x := by intro _; rfl) :
    PEf X (.ListComp elt [⟨tg, iter, ifs, 0⟩] scope pos) (lcF (own.map (·.2)) fi fg ft fe) :=
  .mk (pe_lc hc hN hi ok hg ht he hs) (simE_lc (simI_of fi) (simG_of fg) (simT_of' ft) (simE_of fe))
theorem psf_setLc {i : Nat} {y : Str} {py : Pos} {elt tg iter : Expr} {ifs : List Expr} {scope : Scope} {own : List (Str × Nat)} {spos : Pos} {fi : FI} {fg : D → Env → Option Env} {ft : FB} {fe : FE} (hp : pn i = false) (hc : X.calm = true) (hN : X.N.Nodup) (hy : X.N[i]? = some y) (hyl : X.env.scope.names.lookup y = some .local)
    (hsw : swapsWith (.ListComp elt [⟨tg, iter, ifs, 0⟩] scope pos) (some (.Name y py)) spos.line X.env = pure true) (hi : PIf X tg iter fi) (ok : BlkOk X.N X.env.scope scope own)
    (hg : ∀ (s : Shared) (H : Hp) (C : Addr) (cl : List (Str × Addr)) (fp : List Addr), PGf (X.blk s H scope (compEnvC scope cl C X.env) fp) (fun j => !(own.map (·.2)).contains j) tg fg)
    (ht : ∀ (s : Shared) (H : Hp) (C : Addr) (cl : List (Str × Addr)) (fp : List Addr), PTs (X.blk s H scope (compEnvC scope cl C X.env) fp) ifs (ttOf X.K ft))
    (he : ∀ (s : Shared) (H : Hp) (C : Addr) (cl : List (Str × Addr)) (fp : List Addr), PEf (X.blk s H scope (compEnvC scope cl C X.env) fp) elt fe) (hs : ∀ x, foldedSetIterable iter X.env x = pure x := by intro _; rfl) :
    PSf X pn W (.Assign [.Name y py] (.ListComp elt [⟨tg, iter, ifs, 0⟩] scope pos) spos) (asgF (lcF (own.map (·.2)) fi fg ft fe) (tgN i)) :=
  .mk (ps_setLc hc hN hy hyl hsw hi ok hg ht he hs) (simS_asg (simE_lc (simI_of fi) (simG_of fg) (simT_of' ft) (simE_of fe)) (simG_name hp))
theorem ptsf_nil : PTs X [] (ttOf X.K yesF) := ⟨fun pins s σ H Q I ⟨ρ, b, ρ', G, F, ee, r, q⟩ => by
  cases ee
  exact pts_nil.run pins s σ H Q I (q G H F (Tr.refl r.sub) r)⟩
theorem ptsf_one {c : Expr} {f : FB} (h : PTf X c f) : PTs X [c] (ttOf X.K f) := pts_one h
end
end VS
set_option Elab.async false
set_option linter.all false
set_option maxRecDepth 100000
namespace PySem
open Sem (wp)
open AutoSeq1 (wpAny_loadPart')
/-- enumerate(v), v one that begins -/
theorem vs_enum_new {v : Value} {o : Obj} {H : Heap → Prop} (B : Begins v o H) :
    Meets (Builtin.«enumerate.__new__» ⟨[.type "enumerate", v], []⟩) (fun _ R s => H s.heap ∧
      R (.ok (.ret (.ref (s.heap.push o).objs.size))) { s with heap := (s.heap.push o).push { cls := .type "enumerate", data := .fields #[.none, .bool false, .ref s.heap.objs.size, rawInt 0, .none, .none] } }) :=
  .of_wp fun prog w A R s h => by
    obtain ⟨hp, g, d, tk, os⟩ := s; obtain ⟨h1, h⟩ := h
    have hsub := sub_enumerate
    have q1 : ∀ {A' : Around} {E : Value → Shared → Prop} {Q : Value → Shared → Prop}, Q (.ref hp.objs.size) ⟨hp.push o, g, d, tk, os⟩ → wpAny (model prog w) A' (pyIter v) Q E ⟨hp, g, d, tk, os⟩ :=
      fun q => B.iter prog w _ _ ⟨hp, g, d, tk, os⟩ _ h1 q
    wp_walk using q1
    refine wpAny_stack_any fun st => wpAny_pure ?_
    split
    · rename_i c _ _ _ _ _
      cases (c == Value.type "enumerate")
      · wp_walk using q1
        exact ⟨_, rfl, h⟩
      · wp_walk using q1
        exact ⟨_, rfl, h⟩
    · wp_walk using q1
      exact ⟨_, rfl, h⟩
section
variable {prog : Program} {w : World} {A : Around} {E : Value → Shared → Prop} {s : Shared}
theorem vs_enum_begins {v : Value} {o : Obj} {H : Heap → Prop} {Q : Value → Shared → Prop} (B : Begins v o H) (h1 : H s.heap)
    (h : ∀ h', IsEnum h' (s.heap.objs.size + 1) s.heap.objs.size 0 .none → h'.get? s.heap.objs.size = some o → h'.objs.size = s.heap.objs.size + 2 →
      (∀ b o, s.heap.get? b = some o → h'.get? b = some o) → Q (.ref (s.heap.objs.size + 1)) { s with heap := h' }) :
    wpAny (model prog w) A (call (.type "enumerate") [v]) Q E s := by
  refine callType_new F.called_enumerate (by decide) (F.typeCall_enumerate_1 _) (F.newCall_enumerate_1 _) (fun obj => F.args_object_init_2 obj _) F.entry_enumerate_new
    (vs_enum_new B) ⟨h1, ?_⟩
  have hz : (s.heap.push o).objs.size = s.heap.objs.size + 1 := Heap.size_push ..
  show _ ∧ _
  rw [hz]
  have he : IsEnum ((s.heap.push o).push { cls := .type "enumerate", data := .fields #[.none, .bool false, .ref s.heap.objs.size, rawInt 0, .none, .none] }) (s.heap.objs.size + 1) s.heap.objs.size 0 .none := by
    have := Heap.get?_push_size (s.heap.push o) (o := { cls := .type "enumerate", data := .fields #[.none, .bool false, .ref s.heap.objs.size, rawInt 0, .none, .none] }) rfl
    rw [hz] at this; exact this
  refine ⟨⟨_, he, rfl⟩, h _ he (Heap.get?_push_of_some _ (Heap.get?_push_size _ B.free)) (by rw [Heap.size_push, hz]) fun b o x => Heap.get?_push_of_some _ (Heap.get?_push_of_some _ x)⟩
end
end PySem
namespace VS
open PySem PySem.Spec PyProof.Rows L2
/-- the tuple at a, each item in a new pair -/
def IteT (K : PySem.W.Frag) (a : Addr) : It :=
  ⟨fun i H => ∃ (xs : List V) (x : V), SqT K H a xs ∧ xs[i]? = some x, fun i H v H' => ∃ T x, v = .ref T ∧ H T = none ∧ H' = upd H T (.tup [.int (i : Nat), x]) ∧ ∀ xs, SqT K H a xs → xs[i]? = some x, fun i H => ∃ xs : List V, SqT K H a xs ∧ xs.length ≤ i⟩
theorem turn_enumT {P : Program} {w : World} {K : PySem.W.Frag} {elts : List Expr} {kk : Nat} {tpos : Pos} (a e it : Addr) :
    Turn P w K (.Tuple elts kk tpos) (IteT K a) [e, it] e (fun i h => (∃ old, IsEnum h e it ((i : Nat) : Int) old) ∧ h.IsTupleIter it a i ∧ e ≠ it ∧ a ≠ it ∧ a ≠ e) where
  mem := by simp
  obj := fun i h st b hb => by
    obtain ⟨⟨old, he⟩, ⟨o, ho, hc, hd⟩, _⟩ := st
    have e' : b = e ∨ b = it := by simpa using hb
    rcases e' with z | z
    · rw [z]; exact ⟨_, he, fun v q => nomatch q⟩
    · rw [z]; exact ⟨o, ho, fun v q => by rw [hd] at q; cases q⟩
  keep := fun i h h' st k => let ⟨⟨old, he⟩, hi, hne⟩ := st; ⟨⟨old, k e (by simp) _ he⟩, hi.at fun o q => k it (by simp) o q, hne⟩
  item := by
    intro X hP hw hK hc i pins s σ H E I hf st hg
    subst hP hw hK
    obtain ⟨⟨old, he⟩, hit, hne, hai, hae⟩ := st
    obtain ⟨xs, x, hq, hx⟩ := hg
    obtain ⟨its, rv, p, hz⟩ := I.tuple hq
    obtain ⟨u, hu, ru⟩ := rv.get hx
    have hel : e < s.heap.objs.size := Heap.lt_size he
    have hil : it < s.heap.objs.size := by obtain ⟨_, q, _⟩ := hit; exact Heap.lt_size q
    have hh : X.A.in1.handled = none := I.ok.hd hc
    have hlt : i < its.toArray.size := by
      have := (List.getElem?_eq_some_iff.mp hu).1
      simpa using this
    refine wpAny_pyNext_enum_itemD (Draws.tuple hh it a hai its.toArray) he ⟨hit, p⟩ hlt hne (by simp only [List.mem_cons, List.not_mem_nil, or_false, not_or]; exact ⟨hne, fun z => hae z.symm⟩) fun x' h' tk hx' ho hst' hT hsz hk => ?_
    have ex : x' = u := by
      have : its.toArray[i]? = some u := by simpa using hu
      rw [this] at hx'; cases hx'; rfl
    subst ex
    refine ⟨_, rfl, wpAny_letOwnedTupleGo_enum (s := { s with heap := h', toks := tk + 1 }) ho fun h'' he' sb => ?_⟩
    have hT2 : h''.get? s.heap.objs.size = some { cls := .type "tuple", data := .seq #[.int i tk, x'] } := (sb.2 _ (Nat.ne_of_gt hel)).trans hT
    have new : ObjOk X.prog X.w (upd H s.heap.objs.size (.tup [.int (i : Nat), x])) h'' s.heap.objs.size (.tup [.int (i : Nat), x]) :=
      ⟨by show 2 ≤ sizeLine; decide, [.int i tk, x'], .cons ⟨_, rfl⟩ (.cons ru .nil), ⟨_, hT2, rfl, _, rfl⟩⟩
    have I1 : Inv X pins σ (upd H s.heap.objs.size (.tup [.int (i : Nat), x])) { s with heap := h'', toks := tk + 1 } :=
      I.turnedNew (ch := [e, it]) (fun b ob hb q => (sb.2 b (fun z => hb (by simp [z]))).trans (hk b ob (fun z => hb (by simp [z])) (fun z => hb (by simp [z])) q)) hf (Nat.le_refl _) new
    refine ⟨.ref s.heap.objs.size, _, I1, rfl, ⟨_, x, rfl, I.hok.fresh (Nat.le_refl _), rfl, fun ys hy => by rw [I.tuple_inj hy hq]; exact hx⟩, ⟨⟨x', ?_⟩, hst'.1.at fun o q => (sb.2 it (Ne.symm hne)).trans q, hne, hai, hae⟩, fun b hb => ?_⟩
    · have e1 : ((i + 1 : Nat) : Int) = (i : Int) + 1 := by omega
      rw [e1]; exact he'
    · have hb' : b < s.heap.objs.size := by
        have e' : b = e ∨ b = it := by simpa using hb
        rcases e' with z | z
        · rw [z]; exact hel
        · rw [z]; exact hil
      rw [upd_ne (Nat.ne_of_lt hb')]
      exact (hf b hb).1
  done := by
    intro X hP hw hK hc i pins s σ H E I hf st hg
    subst hP hw hK
    obtain ⟨⟨old, he⟩, hit, hne, hai, hae⟩ := st
    obtain ⟨xs, hq, hx⟩ := hg
    obtain ⟨its, rv, p, hz⟩ := I.tuple hq
    obtain ⟨f0, f1, f2, f3, f4, f5⟩ := hf it (by simp)
    have hl := rv.length
    have hh : X.A.in1.handled = none := I.ok.hd hc
    have hT : s.TypeIs (.ref e) "enumerate" := ⟨_, he, rfl⟩
    unfold pyNext
    refine wpAny_bind (wpAny_attempt (wpAny_callSpecial?_slot (name := Str.ofString "__next__") hT F.slot_enumerate_next
      (wpAny_call_entry F.slot_enumerate_next hT F.entry_enumerate_next ?_ (F.args_enumerate_next_1 _))))
    show wpAny _ _ (field (.ref e) 2 >>= _) _ _ _
    refine wpAny_bind (wpAny_field he rfl (x := .ref it) rfl ?_)
    refine wpAny_bind (wpAny_nextOf_tuple_end (i := i) hh hit p (by simp; omega) fun h' x he' hx' => ?_)
    obtain ⟨o, ho, hc'⟩ := hx'
    refine wpAny_bind (wpAny_isInstance (T := "StopIteration") (b := true) ⟨o, ho, hc'⟩ isSubtype_stop ?_)
    exact wpAny_pure ⟨rfl, I.turned (t' := s.toks) (fun b o hb q => he' b o hb q) f0 f1 f3 f4 f5⟩
  self := fun A i s Q E st h => let ⟨⟨_, he⟩, _⟩ := st; wpAny_pyIter_enum he h
theorem walk_enumT {K : PySem.W.Frag} {a : Addr} {xs : List V} : Walk (IteT K a) xs.length (fun H => SqT K H a xs) (YPair (fun i => some (.int (i : Nat))) (fun i => xs[i]?)) := by
  refine ⟨fun i _ hi q => ⟨xs, xs[i], q, by simp [hi]⟩, fun _ q => ⟨xs, q, Nat.le_refl _⟩, fun i H v H' _ q y => ?_⟩
  obtain ⟨T, x, h1, h2, h3, h4⟩ := y
  exact ⟨T, .int (i : Nat), x, h1, h2, h3, rfl, h4 xs q⟩
def iEnumA (K : PySem.W.Frag) (te : TE) : TI := fun σ H R => te σ H fun v H1 => ∃ a xs, v = .ref a ∧ ((SqL K H1 a xs ∧ R (Ite K a) H1) ∨ (SqT K H1 a xs ∧ R (IteT K a) H1))
theorem pi_enumA {X : Cx} {e : Expr} {te : TE} {p pos tpos : Pos} {elts : List Expr} {kk : Nat} (hg : Gl X "enumerate") (hm : X.mg "enumerate" = none) (he : PE X e te) (hs : starEach [e] X.env = [(false, eval e X.env)] := by rfl) :
    PI X (.Tuple elts kk tpos) (.Call (.Name "enumerate" p) [e] [] pos) (iEnumA X.K te) := by
  refine ⟨fun pins s σ H R I h => ?_⟩
  have ha : PA X [e] (tCons te tNil) := pa_cons he pa_nil hs
  have h' : (tCons te tNil) σ H fun vs H1 => ∃ v, vs = [v] ∧ ∃ a xs, v = .ref a ∧ ((SqL X.K H1 a xs ∧ R (Ite X.K a) H1) ∨ (SqT X.K H1 a xs ∧ R (IteT X.K a) H1)) := by
    show te σ H fun x H1 => ∃ v, [x] = [v] ∧ ∃ a xs, v = .ref a ∧ ((SqL X.K H1 a xs ∧ R (Ite X.K a) H1) ∨ (SqT X.K H1 a xs ∧ R (IteT X.K a) H1))
    have m : (fun (x : V) H1 => ∃ v, [x] = [v] ∧ ∃ a xs, v = .ref a ∧ ((SqL X.K H1 a xs ∧ R (Ite X.K a) H1) ∨ (SqT X.K H1 a xs ∧ R (IteT X.K a) H1))) = (fun v H1 => ∃ a xs, v = .ref a ∧ ((SqL X.K H1 a xs ∧ R (Ite X.K a) H1) ∨ (SqT X.K H1 a xs ∧ R (IteT X.K a) H1))) := by
      funext x H1
      exact propext ⟨fun ⟨v, e, q⟩ => by cases e; exact q, fun q => ⟨x, rfl, q⟩⟩
    rw [m]
    exact h
  refine Call_ (ld_blt I hg hm boot_enumerate (PyProof.Rows.callWith_type1 (thn (ha.run pos pins s σ H _ I h') fun us s1 ⟨vs, H1, I1, r1, q1⟩ => ?_) hs rfl))
  obtain ⟨v, ex, a, xs, ev, q1⟩ := q1
  subst ex; subst ev
  cases r1 with
  | cons r rr =>
    cases rr
    cases r
    rcases q1 with ⟨hq, q⟩ | ⟨hq, q⟩
    · obtain ⟨its, rv, p', hz⟩ := I1.list hq
      refine call_enumerate_list p'.isList fun h' he hit hsz hk => wpAny_pyIter_enum he ?_
      have I2 : Inv X pins σ H1 { s1 with heap := h' } := I1.kept (t' := s1.toks) hk
      refine ⟨s1.heap.objs.size + 1, [s1.heap.objs.size + 1, s1.heap.objs.size], _, _, H1, rfl, I2, turn_enum a (s1.heap.objs.size + 1) s1.heap.objs.size, ⟨⟨.none, he⟩, hit, Nat.succ_ne_self _⟩, fun b hb => ?_, q⟩
      have e' : b = s1.heap.objs.size + 1 ∨ b = s1.heap.objs.size := by simpa using hb
      have hle : s1.heap.objs.size ≤ b := by
        rcases e' with z | z
        · rw [z]; exact Nat.le_add_right _ _
        · rw [z]; exact Nat.le_refl _
      exact I1.fpOk hle (I1.hok.fresh hle)
    · obtain ⟨its, rv, p', hz⟩ := I1.tuple hq
      have hal : a < s1.heap.objs.size := by obtain ⟨o, ho, _⟩ := id p'; exact Heap.lt_size ho
      refine vs_enum_begins (begins_tuple a its.toArray) p' fun h' he hit hsz hk => wpAny_pyIter_enum he ?_
      have I2 : Inv X pins σ H1 { s1 with heap := h' } := I1.kept (t' := s1.toks) hk
      refine ⟨s1.heap.objs.size + 1, [s1.heap.objs.size + 1, s1.heap.objs.size], _, _, H1, rfl, I2, turn_enumT a (s1.heap.objs.size + 1) s1.heap.objs.size, ⟨⟨.none, he⟩, ⟨_, hit, rfl, rfl⟩, Nat.succ_ne_self _, Nat.ne_of_lt hal, Nat.ne_of_lt (Nat.lt_succ_of_lt hal)⟩, fun b hb => ?_, q⟩
      have e' : b = s1.heap.objs.size + 1 ∨ b = s1.heap.objs.size := by simpa using hb
      have hle : s1.heap.objs.size ≤ b := by
        rcases e' with z | z
        · rw [z]; exact Nat.le_add_right _ _
        · rw [z]; exact Nat.le_refl _
      exact I1.fpOk hle (I1.hok.fresh hle)
/-- a list, a tuple or a text walked -/
def iSeq (K : PySem.W.Frag) (tl : TE) : TI := fun σ H R => tl σ H fun x H1 => (∃ a, x = .ref a ∧ (((∃ xs, SqL K H1 a xs) ∧ R (Itl K a) H1) ∨ ((∃ xs, SqT K H1 a xs) ∧ R (Itt K a) H1)))
theorem pi_seq {X : Cx} {tg l : Expr} {tl : TE} (hl : PE X l tl) : PI X tg l (iSeq X.K tl) := by
  refine ⟨fun pins s σ H R I h => ?_⟩
  refine thn (hl.run pins s σ H _ I h) fun v s1 ⟨x, H1, I1, r1, q1⟩ => ?_
  obtain ⟨a, e, q1⟩ := q1
  subst e
  cases r1
  rcases q1 with ⟨⟨xs, hq⟩, q⟩ | ⟨⟨xs, hq⟩, q⟩
  · obtain ⟨its, rv, p, hz⟩ := I1.list hq
    refine wpAny_pyIter_list p.isList ?_
    refine ⟨s1.heap.objs.size, [s1.heap.objs.size], _, _, H1, rfl, I1.kept (t' := s1.toks) fun b o e => Heap.get?_push_of_some _ e, turn_list a _, ⟨_, Heap.get?_push_size _ rfl, rfl, rfl⟩, fun b hb => ?_, q⟩
    have e : b = s1.heap.objs.size := by simpa using hb
    subst e
    exact I1.fpOk (Nat.le_refl _) (I1.hok.fresh (Nat.le_refl _))
  · obtain ⟨its, rv, p, hz⟩ := I1.tuple hq
    refine wpAny_pyIter_tuple (show s1.heap.IsTuple a its.toArray from p) ?_
    refine ⟨s1.heap.objs.size, [s1.heap.objs.size], _, _, H1, rfl, I1.kept (t' := s1.toks) fun b o e => Heap.get?_push_of_some _ e, turn_tuple a _, ⟨_, Heap.get?_push_size _ rfl, rfl, rfl⟩, fun b hb => ?_, q⟩
    have e : b = s1.heap.objs.size := by simpa using hb
    subst e
    exact I1.fpOk (Nat.le_refl _) (I1.hok.fresh (Nat.le_refl _))
def seqD : D → Option (List D)
  | .lst _ xs => some (freezes xs)
  | .tup xs => some (freezes xs)
  | .scr ns => some (ns.map .int)
  | _ => none
def itSeq (f : FE) : FI := fun ρ => (f ρ).bind fun p => (seqD p.1).bind fun xs => some (xs, p.2)
def itEnum (f : FE) : FI := fun ρ => (f ρ).bind fun p => (seqD p.1).bind fun xs => some (((intsTo 0 xs.length).zip xs).map fun q => .tup [q.1, q.2], p.2)
def rng1D : List D → Option (List D)
  | [.int j] => if -4611686018427387904 ≤ j ∧ j < 4611686018427387904 then some (intsTo 0 j.toNat) else none
  | _ => none
def rng2D : List D → Option (List D)
  | [.int i, .int j] => if -4611686018427387904 ≤ i ∧ i < 4611686018427387904 ∧ -4611686018427387904 ≤ j ∧ j < 4611686018427387904 then some (intsTo i (j - i).toNat) else none
  | _ => none
def rng3D : List D → Option (List D)
  | [.int i, .int j, .int c] => if c = -1 ∧ -4611686018427387904 ≤ i ∧ i < 4611686018427387904 ∧ -4611686018427387904 ≤ j ∧ j < 4611686018427387904 then some (intsBy i (-1) (i - j).toNat)
    else if 0 < c ∧ c < 1000000 ∧ -1000000000 ≤ i ∧ i < 1000000000 ∧ -1000000000 ≤ j ∧ j < 1000000000 then some (intsBy i c (if i < j then (j - i - 1) / c + 1 else 0).toNat) else none
  | _ => none
def itRg (rd : List D → Option (List D)) (ops : List Op) : FI := fun ρ => (evOps ops ρ).bind fun p => (fetch ops p.1 p.2).bind fun ds => (rd ds).bind fun xs => some (xs, p.2)
section
variable {K : PySem.W.Frag} {pn : Nat → Bool} {W : WX}
theorem intsTo_len (lo : Int) (n : Nat) : (intsTo lo n).length = n := by unfold intsTo; rw [List.length_map, List.length_range]
theorem reps_ints {G H : Hp} : ∀ ns : List Int, Reps K G H (ns.map V.int) (ns.map D.int) []
  | [] => .nil
  | n :: ns => Reps.cons (.int n) (reps_ints ns) fun a z => nomatch z
/-- a value made, then frozen -/
theorem simE_frz {te : TE} {f : FE} (h : SimE K te f) {ρ : Env} {d : D} {ρ' : Env} (e : f ρ = some (d, ρ')) {σ : L2.St} {G H : Hp} {F : Nat → List Addr} (r : REnv K G H σ ρ F) (Q : VK)
    (q : ∀ v G' H' F', Tr G H (own F) G' H' (own F') → REnv K G' H' σ ρ' F' → Rep K G' H' v (freeze d) [] → Q v H') : te σ H Q :=
  h ρ d ρ' e σ G H F r Q fun v G1 H1 F1 L t1 r1 rv n1 => by
    obtain ⟨G2, t2, r2, rv2⟩ := r1.frz rv n1
    exact q v G2 H1 F1 (t1.trans t2) r2 rv2
theorem simI_seq {te : TE} {f : FE} (h : SimE K te f) : SimI K (iSeq K te) (itSeq f) := by
  intro ρ ds ρ' e σ G H F r R q
  unfold itSeq at e
  cases hf : f ρ with
  | none => rw [hf] at e; cases e
  | some p =>
    obtain ⟨d, ρ1⟩ := p
    rw [hf] at e
    have e1 : (seqD d).bind (fun xs => some (xs, ρ1)) = some (ds, ρ') := e
    cases d with
    | lst o xs =>
      cases e1
      refine simE_frz h hf r _ fun v G' H' F' t' r' rv => ?_
      cases rv with
      | lstS hs hr _ => exact ⟨_, rfl, .inl ⟨⟨_, SqL.of (r'.sub _ _ hs)⟩, q _ G' H' F' t' r' (jok_list (SqL.of hs) hr)⟩⟩
    | scr ns =>
      cases e1
      refine simE_frz h hf r _ fun v G' H' F' t' r' rv => ?_
      cases rv with
      | scr hs => exact ⟨_, rfl, .inl ⟨⟨_, Same.seq r'.sub hs⟩, q _ G' H' F' t' r' (jok_list (H0 := H') hs (reps_ints ns))⟩⟩
    | tup xs =>
      cases e1
      refine simE_frz h hf r _ fun v G' H' F' t' r' rv => ?_
      cases rv with
      | tup hs hr => exact ⟨_, rfl, .inr ⟨⟨_, Same.seqT r'.sub hs⟩, q _ G' H' F' t' r' (jok_tup hs hr)⟩⟩
    | _ => cases e1
theorem simI_enum {te : TE} {f : FE} (h : SimE K te f) : SimI K (iEnumA K te) (itEnum f) := by
  intro ρ ds ρ' e σ G H F r R q
  unfold itEnum at e
  cases hf : f ρ with
  | none => rw [hf] at e; cases e
  | some p =>
    obtain ⟨d, ρ1⟩ := p
    rw [hf] at e
    have e1 : (seqD d).bind (fun xs => some (((intsTo 0 xs.length).zip xs).map (fun q => D.tup [q.1, q.2]), ρ1)) = some (ds, ρ') := e
    have hint : ∀ (n : Nat) (i : Nat) (d : D) (x : V) (G : Hp) (H : Hp), (intsTo 0 n)[i]? = some d → some (V.int (i : Nat)) = some x → Rep K G H x d [] := fun n i d x G H hd hx => by
      have hi : i < n := by rw [← intsTo_len 0 n]; exact (List.getElem?_eq_some_iff.mp hd).1
      unfold intsTo at hd
      rw [List.getElem?_map, List.getElem?_range hi] at hd
      cases hd; cases hx
      have : (0 : Int) + (i : Nat) = (i : Nat) := Int.zero_add _
      show Rep K G H (.int ((i : Nat) : Int)) (.int (0 + ((i : Nat) : Int))) []
      rw [this]
      exact .int _
    cases d with
    | lst o xs =>
      cases e1
      refine simE_frz h hf r _ fun v G' H' F' t' r' rv => ?_
      cases rv with
      | lstS hs hr _ =>
        refine ⟨_, _, rfl, .inl ⟨SqL.of (r'.sub _ _ hs), q _ G' H' F' t' r' (jok_pair walk_enum (fun H s => SqL.of (s _ _ hs)) (by rw [intsTo_len, hr.length]) hr.length.symm (fun i d x G H hd hx _ => hint _ i d x G H hd hx) fun i d x G H hd hx s => ?_)⟩⟩
        obtain ⟨M, q1, s1⟩ := hr.get0 hx hd
        have : M = [] := List.eq_nil_iff_forall_not_mem.mpr fun a ha => nomatch s1 a ha
        subst this
        exact q1.far s
    | scr ns =>
      cases e1
      refine simE_frz h hf r _ fun v G' H' F' t' r' rv => ?_
      cases rv with
      | scr hs =>
        have hr := reps_ints (K := K) (G := G') (H := H') ns
        refine ⟨_, _, rfl, .inl ⟨Same.seq r'.sub hs, q _ G' H' F' t' r' (jok_pair walk_enum (fun H s => Same.seq s hs) (by rw [intsTo_len, hr.length]) hr.length.symm (fun i d x G H hd hx _ => hint _ i d x G H hd hx) fun i d x G H hd hx s => ?_)⟩⟩
        obtain ⟨M, q1, s1⟩ := hr.get0 hx hd
        have : M = [] := List.eq_nil_iff_forall_not_mem.mpr fun a ha => nomatch s1 a ha
        subst this
        exact q1.far s
    | tup xs =>
      cases e1
      refine simE_frz h hf r _ fun v G' H' F' t' r' rv => ?_
      cases rv with
      | tup hs hr =>
        refine ⟨_, _, rfl, .inr ⟨Same.seqT r'.sub hs, q _ G' H' F' t' r' (jok_pair walk_enumT (fun H s => Same.seqT s hs) (by rw [intsTo_len, hr.length]) hr.length.symm (fun i d x G H hd hx _ => hint _ i d x G H hd hx) fun i d x G H hd hx s => ?_)⟩⟩
        obtain ⟨M, q1, s1⟩ := hr.get0 hx hd
        have : M = [] := List.eq_nil_iff_forall_not_mem.mpr fun a ha => nomatch s1 a ha
        subst this
        exact q1.far s
    | _ => cases e1
theorem simI_rngs {ta : TA} {ops : List Op} {rd : List D → Option (List D)} {w : List V → Hp → (It → Hp → Prop) → Prop} (h : SimA K ta ops)
    (hw : ∀ G H vs ds xs R, RepL K G H vs ds → rd ds = some xs → (∀ J, JOk K J G xs → R J H) → w vs H R) :
    SimI K (fun σ H R => ta σ H fun vs H1 => w vs H1 R) (itRg rd ops) := by
  intro ρ ds ρ' e σ G H F r R q
  unfold itRg at e
  cases he : evOps ops ρ with
  | none => rw [he] at e; cases e
  | some p =>
    obtain ⟨ts, ρ1⟩ := p
    rw [he] at e
    have e1 : (fetch ops ts ρ1).bind (fun ds => (rd ds).bind fun xs => some (xs, ρ1)) = some (ds, ρ') := e
    cases hf : fetch ops ts ρ1 with
    | none => rw [hf] at e1; cases e1
    | some es =>
      rw [hf] at e1
      have e2 : (rd es).bind (fun xs => some (xs, ρ1)) = some (ds, ρ') := e1
      cases hr : rd es with
      | none => rw [hr] at e2; cases e2
      | some xs =>
        rw [hr] at e2; cases e2
        refine h ρ ts ρ' he σ G H F r _ fun vs G1 H1 F1 M t1 r1 ok n1 => ?_
        exact hw G1 H1 vs es _ R (ok.get r1 hf) hr fun J jo => q J G1 H1 F1 (t1.post fun a h => .inl h) r1 jo
theorem simI_rng1 {ta : TA} {ops : List Op} (h : SimA K ta ops) : SimI K (iRng1 ta) (itRg rng1D ops) := by
  refine simI_rngs (w := fun vs H1 R => ∃ j : Int, vs = [.int j] ∧ -(2 ^ 62) ≤ j ∧ j < 2 ^ 62 ∧ R (Itr 0 j.toNat) H1) h fun G H vs ds xs R rl hr q => ?_
  unfold rng1D at hr
  split at hr
  · cases rl with
    | cons r1 rr =>
      cases rr; cases r1
      split at hr
      · rename_i hb
        cases hr
        exact ⟨_, rfl, by omega, by omega, q _ jok_range⟩
      · cases hr
  · cases hr
theorem simI_rng2 {ta : TA} {ops : List Op} (h : SimA K ta ops) : SimI K (iRng2 ta) (itRg rng2D ops) := by
  refine simI_rngs (w := fun vs H1 R => ∃ i j : Int, vs = [.int i, .int j] ∧ (-(2 ^ 62) ≤ i ∧ i < 2 ^ 62 ∧ -(2 ^ 62) ≤ j ∧ j < 2 ^ 62) ∧ R (Itr i (j - i).toNat) H1) h fun G H vs ds xs R rl hr q => ?_
  unfold rng2D at hr
  split at hr
  · cases rl with
    | cons r1 rr =>
      cases rr with
      | cons r2 rr =>
        cases rr; cases r1; cases r2
        split at hr
        · rename_i hb
          cases hr
          exact ⟨_, _, rfl, ⟨by omega, by omega, by omega, by omega⟩, q _ jok_range⟩
        · cases hr
  · cases hr
theorem rgC_pos {i j c : Int} (h0 : 0 < c) (h1 : c < 1000000) (h2 : -1000000000 ≤ i) (h3 : i < 1000000000) (h4 : -1000000000 ≤ j) (h5 : j < 1000000000) : RgC i j c (if i < j then (j - i - 1) / c + 1 else 0).toNat := by
  have hs : Builtin.Range.rangeSize i j c = (if i < j then (j - i - 1) / c + 1 else 0) := by
    unfold Builtin.Range.rangeSize; rw [if_pos h0]
  have hnn : 0 ≤ (if i < j then (j - i - 1) / c + 1 else 0) := by
    split
    · have := Int.ediv_nonneg (a := j - i - 1) (b := c) (by omega) (by omega)
      omega
    · exact Int.le_refl _
  have hub : (if i < j then (j - i - 1) / c + 1 else 0) ≤ 2000000000 := by
    split
    · have := Int.ediv_le_self (a := j - i - 1) c (by omega)
      omega
    · omega
  refine ⟨by omega, by omega, ?_, by rw [hs]; omega⟩
  unfold Builtin.Range.small
  rw [hs]
  simp only [Builtin.Range.rangeFitsLong, Bool.and_eq_true, Bool.or_eq_true, decide_eq_true_eq, beq_iff_eq, show c > 0 from h0, if_true]
  refine ⟨⟨⟨⟨⟨by omega, by omega⟩, by omega, by omega⟩, by omega, by omega⟩, ?_, ?_⟩, .inr ⟨by omega, by omega⟩⟩ <;> omega
end
section
variable {X : Cx} {tg e e2 : Expr} {es : List Expr} {p pos tpos : Pos} {elts : List Expr} {kk : Nat}
theorem pif_seq {f : FE} (h : PEf X e f) : PIf X tg e (itSeq f) := .mk (pi_seq h) (simI_seq (simE_of f))
theorem pif_enum {f : FE} (hg : Gl X "enumerate") (hm : X.mg "enumerate" = none) (h : PEf X e f) (hs : starEach [e] X.env = [(false, eval e X.env)] := by rfl) : PIf X (.Tuple elts kk tpos) (.Call (.Name "enumerate" p) [e] [] pos) (itEnum f) := .mk (pi_enumA hg hm h hs) (simI_enum (simE_of f))
theorem pif_rng1 {o : Op} {a : Expr} (hg : Gl X "range") (hm : X.mg "range" = none) (ha : PAf X [a] [o]) (hs : starEach [a] X.env = [(false, eval a X.env)] := by rfl) : PIf X tg (.Call (.Name "range" p) [a] [] pos) (itRg rng1D [o]) := .mk (pi_range1 hg hm ha hs) (simI_rng1 (simA_of _))
theorem pif_rng2 {a b : Expr} {ops : List Op} (hg : Gl X "range") (hm : X.mg "range" = none) (ha : PAf X [a, b] ops) (hs : starEach [a, b] X.env = [(false, eval a X.env), (false, eval b X.env)] := by rfl) (hs2 : starEach [b] X.env = [(false, eval b X.env)] := by rfl) : PIf X tg (.Call (.Name "range" p) [a, b] [] pos) (itRg rng2D ops) := .mk (pi_range2 hg hm ha hs hs2) (simI_rng2 (simA_of _))
end
end VS
set_option Elab.async false
set_option linter.all false
set_option maxRecDepth 100000
namespace VS
open PySem PySem.Spec PyProof.Rows L2
/-! ### values by cases -/
section
variable {K : PySem.W.Frag} {G H G' H' : Hp}
theorem Rep.lstInv {v : V} {o : Bool} {xs : List D} {L : List Addr} (h : Rep K G H v (.lst o xs) L) (s : Same G H) : ∃ a vs M, v = .ref a ∧ H a = some (.lst vs) ∧ Reps K G H vs xs M ∧ ∀ x ∈ M, x ∈ L := by
  cases h with
  | lstS hs hr e => exact ⟨_, _, _, rfl, s _ _ hs, hr, fun x h => h⟩
  | lstO hg hh hn hr => exact ⟨_, _, _, rfl, hh, hr, fun x h => List.mem_cons_of_mem _ h⟩
theorem Rep.tupInv {v : V} {xs : List D} {L : List Addr} (h : Rep K G H v (.tup xs) L) (s : Same G H) : ∃ a vs, v = .ref a ∧ SqT K H a vs ∧ Reps K G H vs xs L := by
  cases h with
  | tup hs hr => exact ⟨_, _, rfl, Same.seqT s hs, hr⟩
theorem Reps.to0 {vs : List V} {xs : List D} {L : List Addr} (h : Reps K G H vs xs L) (n : noOwns xs = true) : Reps K G H vs xs [] := by
  have := h.noL n
  subst this
  exact h
theorem Reps.cons0 {v : V} {d : D} {vs : List V} {ds : List D} (h : Rep K G H v d []) (r : Reps K G H vs ds []) : Reps K G H (v :: vs) (d :: ds) [] := Reps.cons h r fun a z => nomatch z
theorem Reps.uncons {v : V} {d : D} {vs : List V} {ds : List D} {L : List Addr} (h : Reps K G H (v :: vs) (d :: ds) L) (e : L = []) : Rep K G H v d [] ∧ Reps K G H vs ds [] := by
  cases h with
  | cons h r n =>
    obtain ⟨e1, e2⟩ := List.append_eq_nil_iff.mp e
    subst e1; subst e2
    exact ⟨h, r⟩
theorem Reps.append0 : ∀ {vs us : List V} {xs ys : List D}, Reps K G H vs xs [] → Reps K G H us ys [] → Reps K G H (vs ++ us) (xs ++ ys) []
  | [], us, xs, ys, h, r => by cases h; exact r
  | v :: vs, us, [], ys, h, r => by cases h
  | v :: vs, us, x :: xs, ys, h, r => by
    obtain ⟨h1, h2⟩ := h.uncons rfl
    exact Reps.cons0 h1 (h2.append0 r)
theorem Reps.rep0 {vs : List V} {xs : List D} (h : Reps K G H vs xs []) : ∀ n : Nat, Reps K G H (List.replicate n vs).flatten (List.replicate n xs).flatten []
  | 0 => .nil
  | n + 1 => by
    rw [List.replicate_succ, List.replicate_succ, List.flatten_cons, List.flatten_cons]
    exact h.append0 (h.rep0 n)
theorem Reps.get1 {vs : List V} {xs : List D} {L : List Addr} {i : Nat} {d : D} (h : Reps K G H vs xs L) (e : xs[i]? = some d) (n : noOwn d = true) : ∃ v, vs[i]? = some v ∧ Rep K G H v d [] := by
  have hl := h.length
  have hi : i < vs.length := by rw [hl]; exact (List.getElem?_eq_some_iff.mp e).1
  obtain ⟨M, q, _⟩ := h.get0 (List.getElem?_eq_getElem hi) e
  have := q.noL n
  subst this
  exact ⟨_, List.getElem?_eq_getElem hi, q⟩
/-- a new list, a new tuple, as what an operation leaves -/
theorem new_lst {p : Addr} {vs : List V} {xs : List D} (s : Same G H) (hp : H p = none) (r : Reps K G H vs xs []) : Tr G H (fun _ => False) G (upd H p (.lst vs)) (fun a => a ∈ [p]) ∧ Rep K G (upd H p (.lst vs)) (.ref p) (.lst true xs) [p] := by
  have t := Tr.newO (A := fun _ => False) (o := .lst vs) s hp
  refine ⟨t.post fun a h => .inr (by simpa using h), .lstO (s.free hp) upd_same List.not_mem_nil (r.far (Same.refl _))⟩
theorem new_tup {p : Addr} {vs : List V} {xs : List D} (s : Same G H) (hp : H p = none) (r : Reps K G H vs xs []) : ∃ G', Tr G H (fun _ => False) G' (upd H p (.tup vs)) (fun a => a ∈ ([] : List Addr)) ∧ Rep K G' (upd H p (.tup vs)) (.ref p) (.tup xs) [] := by
  have t := Tr.newG (A := fun _ => False) (o := .tup vs) s hp
  exact ⟨_, t.post fun a h => (by cases h), .tup (.inl (.inl upd_same)) (r.far t.g)⟩
theorem fin0 {v : V} {d : D} {Q : VK} (s : Same G H) (r : Rep K G H v d []) (q : ∀ v G' H' L, Tr G H (fun _ => False) G' H' (fun a => a ∈ L) → Rep K G' H' v d L → Q v H') : Q v H := q v G H [] ((Tr.refl s).post fun a h => (by cases h)) r
theorem RepL.one {vs : List V} {d : D} (h : RepL K G H vs [d]) : ∃ v L, vs = [v] ∧ Rep K G H v d L := by
  cases h with
  | cons h r => cases r; exact ⟨_, _, rfl, h⟩
theorem RepL.two {vs : List V} {d e : D} (h : RepL K G H vs [d, e]) : ∃ v u L M, vs = [v, u] ∧ Rep K G H v d L ∧ Rep K G H u e M := by
  cases h with
  | cons h r =>
    obtain ⟨u, M, rfl, h2⟩ := r.one
    exact ⟨_, _, _, _, rfl, h, h2⟩
end
/-! ### + -/
section
variable {X : Cx}
def rAddA (K : PySem.W.Frag) : R2 := fun x y H Q => rI0 (fun i j => .int (i + j)) x y H Q ∨ ((∃ i j, x = .str i ∧ y = .str j ∧ i.length + j.length ≤ sizeLine ∧ Q (.str (i ++ j)) H) ∨ (rCat x y H Q ∨ rCatA K x y H Q))
theorem op_addA : OpR X (binaryOp .Add) (rAddA X.K) := op_add.or (op_add_str.or (op_cat.or op_catA))
end
def addD : List D → Option D
  | [.int a, .int b] => some (.int (a + b))
  | [.str a, .str b] => if a.length + b.length ≤ smallL then some (.str (a ++ b)) else none
  | [.lst _ xs, .lst _ ys] => if noOwns xs = true ∧ noOwns ys = true ∧ xs.length + ys.length ≤ smallL then some (.lst true (xs ++ ys)) else none
  | [.tup xs, .tup ys] => if noOwns xs = true ∧ noOwns ys = true ∧ xs.length + ys.length ≤ smallL then some (.tup (xs ++ ys)) else none
  | _ => none
section
variable {K : PySem.W.Frag}
theorem vok_add : VOk K (r2L (rAddA K)) addD := by
  intro G H vs ds d s rl e Q q
  unfold addD at e
  split at e
  · obtain ⟨v, u, L, M, rfl, r1, r2⟩ := rl.two
    cases e; cases r1; cases r2
    exact .inl ⟨_, _, rfl, rfl, fin0 s (.int _) q⟩
  · obtain ⟨v, u, L, M, rfl, r1, r2⟩ := rl.two
    split at e
    · rename_i hz
      cases e; cases r1; cases r2
      exact .inr (.inl ⟨_, _, rfl, rfl, small_line hz, fin0 s (.str _) q⟩)
    · cases e
  · obtain ⟨v, u, L, M, rfl, r1, r2⟩ := rl.two
    split at e
    · rename_i hz
      cases e
      obtain ⟨a, vs, L1, rfl, h1, h2, _⟩ := r1.lstInv s
      obtain ⟨b, us, L2, rfl, h3, h4, _⟩ := r2.lstInv s
      refine .inr (.inr (.inl ⟨a, b, vs, us, rfl, rfl, h1, h3, by rw [h2.length, h4.length]; exact small_line hz.2.2, fun p hp => ?_⟩))
      obtain ⟨t, r⟩ := new_lst s hp ((h2.to0 hz.1).append0 (h4.to0 hz.2.1))
      exact q _ _ _ _ t r
    · cases e
  · obtain ⟨v, u, L, M, rfl, r1, r2⟩ := rl.two
    split at e
    · rename_i hz
      cases e
      obtain ⟨a, vs, rfl, h1, h2⟩ := r1.tupInv s
      obtain ⟨b, us, rfl, h3, h4⟩ := r2.tupInv s
      have q2 := h2.to0 hz.1
      have q4 := h4.to0 hz.2.1
      have e1 : L = [] := h2.noL hz.1
      have e2 : M = [] := h4.noL hz.2.1
      subst e1; subst e2
      refine .inr (.inr (.inr ⟨a, b, vs, us, rfl, rfl, h1, h3, by rw [h2.length, h4.length]; exact small_line hz.2.2, fun ez => ?_, fun _ ez => ?_, fun _ _ p hp => ?_⟩))
      · subst ez
        have := q2.length
        have : ‹List D› = ‹List D› := rfl
        cases q2
        exact fin0 s r2 q
      · subst ez
        cases q4
        rw [List.append_nil] at q
        exact fin0 s r1 q
      · obtain ⟨G', t, r⟩ := new_tup s hp (q2.append0 q4)
        exact q _ _ _ _ t r
    · cases e
  · cases e
/-! ### the other operators of ints -/
def subD : List D → Option D
  | [.int a, .int b] => some (.int (a - b))
  | _ => none
theorem vok_sub : VOk K (r2L (rI0 fun i j => .int (i - j))) subD := by
  intro G H vs ds d s rl e Q q
  unfold subD at e
  split at e
  · obtain ⟨v, u, L, M, rfl, r1, r2⟩ := rl.two
    cases e; cases r1; cases r2
    exact ⟨_, _, rfl, rfl, fin0 s (.int _) q⟩
  · cases e
def mulOk (i j : Int) : Bool := decide (-18446744073709551616 < i ∧ i < 18446744073709551616) || decide (-18446744073709551616 < j ∧ j < 18446744073709551616) || decide (i.natAbs.log2 + j.natAbs.log2 < 1000000)
theorem mulOk_ok {i j : Int} (h : mulOk i j = true) : IntMulOk i j := by
  unfold mulOk at h
  simp only [Bool.or_eq_true, decide_eq_true_eq] at h
  rcases h with (h | h) | h
  · exact CMul.ok (.inl (by omega))
  · exact CMul.ok (.inr (by omega))
  · exact CMulW.ok h
def rMulI : R2 := rI (fun i j => mulOk i j = true) (fun i j => .int (i * j))
def rMulA (K : PySem.W.Frag) : R2 := fun x y H Q => rMulI x y H Q ∨ (rRep x y H Q ∨ rRepT K x y H Q)
section
variable {X : Cx}
theorem op_mulI : OpR X (binaryOp .Mult) rMulI := opI fun _ _ _ _ _ _ _ hc q => mul_int q (mulOk_ok hc)
theorem op_mulA : OpR X (binaryOp .Mult) (rMulA X.K) := op_mulI.or (op_rep.or op_repT)
end
def mulD : List D → Option D
  | [.int a, .int b] => if mulOk a b = true then some (.int (a * b)) else none
  | [.lst _ xs, .int k] => if noOwns xs = true ∧ -1000000 ≤ k ∧ k ≤ 1000000 ∧ xs.length * k.toNat ≤ smallL then some (.lst true (List.replicate k.toNat xs).flatten) else none
  | _ => none
theorem vok_mul : VOk K (r2L (rMulA K)) mulD := by
  intro G H vs ds d s rl e Q q
  unfold mulD at e
  split at e
  · obtain ⟨v, u, L, M, rfl, r1, r2⟩ := rl.two
    split at e
    · rename_i hz
      cases e; cases r1; cases r2
      exact .inl ⟨_, _, rfl, rfl, hz, fin0 s (.int _) q⟩
    · cases e
  · obtain ⟨v, u, L, M, rfl, r1, r2⟩ := rl.two
    split at e
    · rename_i hz
      cases e; cases r2
      obtain ⟨a, vs, L1, rfl, h1, h2, _⟩ := r1.lstInv s
      obtain ⟨z1, z2, z3, z4⟩ := hz
      refine .inr (.inl ⟨a, _, vs, rfl, rfl, h1, by omega, by omega, by rw [h2.length]; exact small_line z4, fun p hp => ?_⟩)
      obtain ⟨t, r⟩ := new_lst s hp ((h2.to0 z1).rep0 _)
      exact q _ _ _ _ t r
    · cases e
  · cases e
def fdivOk (j : Int) : Bool := decide (j ≠ 0 ∧ j.natAbs < 1073741824) || decide (0 < j ∧ j.natAbs.log2 < 9000)
def rFdiv : R2 := rI (fun _ j => fdivOk j = true) fun i j => .int (i.fdiv j)
theorem op_fdivA {X : Cx} : OpR X (binaryOp .FloorDiv) rFdiv := opI fun i j _ _ _ _ _ hc q => by
  unfold fdivOk at hc
  simp only [Bool.or_eq_true, decide_eq_true_eq] at hc
  rcases hc with h | h
  · exact floordiv_int h.1 q (.inl (PyProof.noPylong_small h.2))
  · exact floordiv_int (by omega) q (.inl (PyProof.noPylong_of_log2 h.2))
def fdivD : List D → Option D
  | [.int a, .int b] => if fdivOk b = true then some (.int (a.fdiv b)) else none
  | _ => none
theorem vok_fdiv : VOk K (r2L rFdiv) fdivD := by
  intro G H vs ds d s rl e Q q
  unfold fdivD at e
  split at e
  · obtain ⟨v, u, L, M, rfl, r1, r2⟩ := rl.two
    split at e
    · rename_i hz
      cases e; cases r1; cases r2
      exact ⟨_, _, rfl, rfl, hz, fin0 s (.int _) q⟩
    · cases e
  · cases e
def modD : List D → Option D
  | [.int a, .int b] => if b ≠ 0 then some (.int (a.fmod b)) else none
  | _ => none
theorem vok_mod : VOk K (r2L (rI (fun _ j => j ≠ 0) fun i j => .int (i.fmod j))) modD := by
  intro G H vs ds d s rl e Q q
  unfold modD at e
  split at e
  · obtain ⟨v, u, L, M, rfl, r1, r2⟩ := rl.two
    split at e
    · rename_i hz
      cases e; cases r1; cases r2
      exact ⟨_, _, rfl, rfl, hz, fin0 s (.int _) q⟩
    · cases e
  · cases e
def powOk (a n : Int) : Bool := decide (0 ≤ n) && decide ((Builtin.Int.intBits a : Int) * n ≤ 134217728)
def rPow : R2 := rI (fun i j => powOk i j = true) fun i j => .int (i ^ j.toNat)
theorem op_powA {X : Cx} : OpR X (binaryOp .Pow) rPow := opI fun i j _ _ _ _ _ hc q => by
  unfold powOk at hc
  simp only [Bool.and_eq_true, decide_eq_true_eq] at hc
  exact pow_int hc.1 (by have := hc.2; omega) q
def powD : List D → Option D
  | [.int a, .int b] => if powOk a b = true then some (.int (a ^ b.toNat)) else none
  | _ => none
theorem vok_pow : VOk K (r2L rPow) powD := by
  intro G H vs ds d s rl e Q q
  unfold powD at e
  split at e
  · obtain ⟨v, u, L, M, rfl, r1, r2⟩ := rl.two
    split at e
    · rename_i hz
      cases e; cases r1; cases r2
      exact ⟨_, _, rfl, rfl, hz, fin0 s (.int _) q⟩
    · cases e
  · cases e
def negD : List D → Option D
  | [.int a] => some (.int (-a))
  | _ => none
theorem vok_neg : VOk K (r1L (rU fun i => .int (-i))) negD := by
  intro G H vs ds d s rl e Q q
  unfold negD at e
  split at e
  · obtain ⟨v, L, rfl, r1⟩ := rl.one
    cases e; cases r1
    exact ⟨_, rfl, fin0 s (.int _) q⟩
  · cases e
end
end VS
set_option Elab.async false
set_option linter.all false
set_option maxRecDepth 100000
namespace VS
open PySem PySem.Spec PyProof.Rows L2
/-! ### == and its like -/
mutual
def pyD : D → PyData
  | .non => .none
  | .bl b => .bool b
  | .int i => .int i
  | .str s => .str s
  | .tup xs => .tuple (pyDs xs)
  | .lst _ xs => .list (pyDs xs)
  | .scr ns => .list (ns.map .int)
  | .ty _ => .none
  | .exc _ _ => .none
  | .dct _ _ => .none
def pyDs : List D → List PyData
  | [] => []
  | x :: r => pyD x :: pyDs r
end
mutual
def noTy : D → Bool
  | .ty _ => false
  | .exc _ _ => false
  | .dct _ _ => false
  | .tup xs => noTys xs
  | .lst _ xs => noTys xs
  | _ => true
def noTys : List D → Bool
  | [] => true
  | x :: r => noTy x && noTys r
end
def eqOk (d : D) : Bool := noTy d && SeqAt.shaped (pyD d)
section
variable {K : PySem.W.Frag} {G H : Hp}
theorem dpAll_ints : ∀ ns : List Int, DpAll K H (ns.map V.int) (ns.map PyData.int)
  | [] => .nil
  | n :: ns => .cons (.int n) (dpAll_ints ns)
mutual
theorem Rep.dp {v : V} {d : D} {L : List Addr} (s : Same G H) (r : Rep K G H v d L) (h : noTy d = true) : Dp K H v (pyD d) := by
  cases r with
  | non => exact .non
  | bl b => exact .bl b
  | int i => exact .int i
  | str x => exact .str x
  | ty n => cases h
  | exc _ _ _ _ => cases h
  | dctS _ => cases h
  | dctO _ _ => cases h
  | scr q => exact .lst (Same.seq s q) (dpAll_ints _)
  | tup q r => exact .tup (Same.seqT s q) (Reps.dp s r h)
  | lstS q r e => exact .lst (SqL.of (s _ _ q)) (Reps.dp s r h)
  | lstO _ q _ r => exact .lst (SqL.of q) (Reps.dp s r h)
theorem Reps.dp {vs : List V} {ds : List D} {L : List Addr} (s : Same G H) (r : Reps K G H vs ds L) (h : noTys ds = true) : DpAll K H vs (pyDs ds) := by
  cases r with
  | nil => exact .nil
  | cons q r n =>
    simp only [noTys, Bool.and_eq_true] at h
    exact .cons (Rep.dp s q h.1) (Reps.dp s r h.2)
end
end
def deq (x y : D) : Bool := PyData.eqv (pyD x) (pyD y)
def eqD : List D → Option D
  | [x, y] => if eqOk x = true ∧ eqOk y = true then some (.bl (deq x y)) else none
  | _ => none
def neD : List D → Option D
  | [x, y] => if eqOk x = true ∧ eqOk y = true then some (.bl (!deq x y)) else none
  | _ => none
theorem eqOk_split {d : D} (h : eqOk d = true) : noTy d = true ∧ SeqAt.shaped (pyD d) = true := by
  unfold eqOk at h
  exact Bool.and_eq_true_iff.mp h
section
variable {K : PySem.W.Frag}
theorem vok_eq : VOk K (r2L (rEqD K)) eqD := by
  intro G H vs ds d s rl e Q q
  unfold eqD at e
  split at e
  · obtain ⟨v, u, L, M, rfl, r1, r2⟩ := rl.two
    split at e
    · rename_i hz
      cases e
      obtain ⟨a1, a2⟩ := eqOk_split hz.1
      obtain ⟨b1, b2⟩ := eqOk_split hz.2
      exact ⟨_, _, r1.dp s a1, r2.dp s b1, a2, b2, fin0 s (.bl _) q⟩
    · cases e
  · cases e
theorem vok_ne : VOk K (r2L (rNeD K)) neD := by
  intro G H vs ds d s rl e Q q
  unfold neD at e
  split at e
  · obtain ⟨v, u, L, M, rfl, r1, r2⟩ := rl.two
    split at e
    · rename_i hz
      cases e
      obtain ⟨a1, a2⟩ := eqOk_split hz.1
      obtain ⟨b1, b2⟩ := eqOk_split hz.2
      exact ⟨_, _, r1.dp s a1, r2.dp s b1, a2, b2, fin0 s (.bl _) q⟩
    · cases e
  · cases e
/-! order of ints -/
def cmpD (p : Int → Int → Bool) : List D → Option D
  | [.int a, .int b] => some (.bl (p a b))
  | _ => none
theorem vok_cmp {p : Int → Int → Bool} : VOk K (r2L (rI0 fun i j => .bl (p i j))) (cmpD p) := by
  intro G H vs ds d s rl e Q q
  unfold cmpD at e
  split at e
  · obtain ⟨v, u, L, M, rfl, r1, r2⟩ := rl.two
    cases e; cases r1; cases r2
    exact ⟨_, _, rfl, rfl, fin0 s (.bl _) q⟩
  · cases e
def ltD := cmpD fun i j => decide (i < j)
def leD := cmpD fun i j => decide (i ≤ j)
def gtD := cmpD fun i j => decide (j < i)
def geD := cmpD fun i j => decide (j ≤ i)
theorem vok_lt : VOk K (r2L (rI0 fun i j => .bl (decide (i < j)))) ltD := vok_cmp
theorem vok_gt : VOk K (r2L (rI0 fun i j => .bl (decide (j < i)))) gtD := vok_cmp
theorem vok_ge : VOk K (r2L (rI0 fun i j => .bl (decide (j ≤ i)))) geD := vok_cmp
/-! is None; is of bools, of a bool and something else -/
def isNon : D → Bool
  | .non => true
  | _ => false
def isNonD : List D → Option D
  | [x, .non] => some (.bl (isNon x))
  | _ => none
def notNonD : List D → Option D
  | [x, .non] => some (.bl (!isNon x))
  | _ => none
theorem Rep.isNon {G H : Hp} {v : V} {d : D} {L : List Addr} (r : Rep K G H v d L) : decide (v = .non) = VS.isNon d := by
  cases r <;> rfl
theorem vok_isNon : VOk K (r2L (fun x y H Q => y = .non ∧ Q (.bl (decide (x = .non))) H)) isNonD := by
  intro G H vs ds d s rl e Q q
  unfold isNonD at e
  split at e
  · obtain ⟨v, u, L, M, rfl, r1, r2⟩ := rl.two
    cases e; cases r2
    refine ⟨rfl, ?_⟩
    rw [r1.isNon]
    exact fin0 s (.bl _) q
  · cases e
/-! x[i] -/
def ixD : List D → Option D
  | [.lst _ xs, .int i] => (atI xs i).bind fun d => if noOwn d = true then some d else none
  | [.tup xs, .int i] => (atI xs i).bind fun d => if noOwn d = true then some d else none
  | [.scr ns, .int i] => (atI ns i).bind fun d => some (.int d)
  | [.str z, .int i] => if z.length ≤ smallL then (atI z.cps.toList i).bind fun c => some (.str ⟨#[c]⟩) else none
  | _ => none
theorem atI_len {α β : Type} {xs : List α} {ys : List β} (h : xs.length = ys.length) {i : Int} {y : β} (e : atI ys i = some y) : ∃ j, ixN xs.length i = some j ∧ ys[j]? = some y := by
  unfold atI at e
  rw [← h] at e
  cases hj : ixN xs.length i with
  | none => rw [hj] at e; cases e
  | some j => rw [hj] at e; exact ⟨j, rfl, e⟩
theorem atI_of {α : Type} {xs : List α} {i : Int} {j : Nat} {x : α} (h : ixN xs.length i = some j) (e : xs[j]? = some x) : atI xs i = some x := by
  unfold atI
  rw [h]
  exact e
theorem vok_ix : VOk K (r2L (rIx K)) ixD := by
  intro G H vs ds d s rl e Q q
  unfold ixD at e
  split at e
  · obtain ⟨v, u, L, M, rfl, r1, r2⟩ := rl.two
    rename_i xs i
    cases hx : atI xs i with
    | none => rw [hx] at e; cases e
    | some d0 =>
      rw [hx] at e
      have e1 : (if noOwn d0 = true then some d0 else none) = some d := e
      split at e1
      · rename_i hn
        cases e1; cases r2
        obtain ⟨a, vs, L1, rfl, h1, h2, _⟩ := r1.lstInv s
        obtain ⟨j, hj, hd⟩ := atI_len h2.length hx
        obtain ⟨w, hw, hr⟩ := h2.get1 hd hn
        exact .inl ⟨a, vs, _, w, rfl, rfl, SqL.of h1, atI_of hj hw, fin0 s hr q⟩
      · cases e1
  · obtain ⟨v, u, L, M, rfl, r1, r2⟩ := rl.two
    rename_i xs i
    cases hx : atI xs i with
    | none => rw [hx] at e; cases e
    | some d0 =>
      rw [hx] at e
      have e1 : (if noOwn d0 = true then some d0 else none) = some d := e
      split at e1
      · rename_i hn
        cases e1; cases r2
        obtain ⟨a, vs, rfl, h1, h2⟩ := r1.tupInv s
        obtain ⟨j, hj, hd⟩ := atI_len h2.length hx
        obtain ⟨w, hw, hr⟩ := h2.get1 hd hn
        exact .inr (.inl ⟨a, vs, _, w, rfl, rfl, h1, atI_of hj hw, fin0 s hr q⟩)
      · cases e1
  · obtain ⟨v, u, L, M, rfl, r1, r2⟩ := rl.two
    rename_i ns i
    cases hx : atI ns i with
    | none => rw [hx] at e; cases e
    | some d0 =>
      rw [hx] at e
      cases e; cases r2
      cases r1 with
      | scr h1 =>
        rename_i a
        obtain ⟨j, hj, hd⟩ := atI_len (xs := ns.map V.int) (by rw [List.length_map]) hx
        exact .inl ⟨a, _, _, .int d0, rfl, rfl, Same.seq s h1, atI_of hj (by rw [List.getElem?_map, hd]; rfl), fin0 s (.int _) q⟩
  · obtain ⟨v, u, L, M, rfl, r1, r2⟩ := rl.two
    rename_i z i
    split at e
    · rename_i hz
      cases hx : atI z.cps.toList i with
      | none => rw [hx] at e; cases e
      | some c =>
        rw [hx] at e
        cases e; cases r2; cases r1
        exact .inr (.inr ⟨_, _, c, rfl, rfl, small_line hz, hx, fin0 s (.str _) q⟩)
    · cases e
  · cases e
/-! len, list(), tuple() -/
def lenD : List D → Option D
  | [.lst _ xs] => some (.int (xs.length : Nat))
  | [.tup xs] => some (.int (xs.length : Nat))
  | [.scr ns] => some (.int (ns.length : Nat))
  | _ => none
theorem vok_len : VOk K (fun xs H Q => ∃ p ys, xs = [.ref p] ∧ (SqL K H p ys ∨ SqT K H p ys) ∧ Q (.int ys.length) H) lenD := by
  intro G H vs ds d s rl e Q q
  unfold lenD at e
  split at e
  · obtain ⟨v, L, rfl, r1⟩ := rl.one
    cases e
    obtain ⟨a, vs, L1, rfl, h1, h2, _⟩ := r1.lstInv s
    exact ⟨a, vs, rfl, .inl (SqL.of h1), by rw [h2.length]; exact fin0 s (.int _) q⟩
  · obtain ⟨v, L, rfl, r1⟩ := rl.one
    cases e
    obtain ⟨a, vs, rfl, h1, h2⟩ := r1.tupInv s
    exact ⟨a, vs, rfl, .inr h1, by rw [h2.length]; exact fin0 s (.int _) q⟩
  · obtain ⟨v, L, rfl, r1⟩ := rl.one
    cases e
    cases r1 with
    | scr h1 => exact ⟨_, _, rfl, .inl (Same.seq s h1), by rw [List.length_map]; exact fin0 s (.int _) q⟩
  · cases e
def lenStrD : List D → Option D
  | [.str z] => if z.length ≤ smallL then some (.int (z.length : Nat)) else none
  | _ => none
def listD : List D → Option D
  | [.lst _ xs] => if noOwns xs = true then some (.lst true xs) else none
  | [.tup xs] => if noOwns xs = true then some (.lst true xs) else none
  | _ => none
def tupleD : List D → Option D
  | [.lst _ xs] => if noOwns xs = true then some (.tup xs) else none
  | [.tup xs] => if noOwns xs = true then some (.tup xs) else none
  | _ => none
theorem vok_tuple : VOk K (fun xs H Q => ∃ p ys, xs = [.ref p] ∧ ((SqL K H p ys ∧ ∀ l, H l = none → Q (.ref l) (upd H l (.tup ys))) ∨ (SqT K H p ys ∧ Q (.ref p) H))) tupleD := by
  intro G H vs ds d s rl e Q q
  unfold tupleD at e
  split at e
  · obtain ⟨v, L, rfl, r1⟩ := rl.one
    split at e
    · rename_i hn
      cases e
      obtain ⟨a, vs, L1, rfl, h1, h2, _⟩ := r1.lstInv s
      refine ⟨a, vs, rfl, .inl ⟨SqL.of h1, fun p hp => ?_⟩⟩
      obtain ⟨G', t, r⟩ := new_tup s hp (h2.to0 hn)
      exact q _ _ _ _ t r
    · cases e
  · obtain ⟨v, L, rfl, r1⟩ := rl.one
    split at e
    · rename_i hn
      cases e
      have e0 := r1.noL (d := .tup _) hn
      subst e0
      obtain ⟨a, vs, rfl, h1, h2⟩ := r1.tupInv s
      exact ⟨a, vs, rfl, .inr ⟨h1, fin0 s r1 q⟩⟩
    · cases e
  · cases e
/-! int(), max, min, abs -/
def intD : List D → Option D
  | [.int i] => some (.int i)
  | [.bl b] => some (.int (if b then 1 else 0))
  | _ => none
theorem vok_int : VOk K (fun xs H Q => (∃ i, xs = [.int i] ∧ Q (.int i) H) ∨ ∃ k, xs = [.bl k] ∧ Q (.int (if k then 1 else 0)) H) intD := by
  intro G H vs ds d s rl e Q q
  unfold intD at e
  split at e
  · obtain ⟨v, L, rfl, r1⟩ := rl.one
    cases e; cases r1
    exact .inl ⟨_, rfl, fin0 s (.int _) q⟩
  · obtain ⟨v, L, rfl, r1⟩ := rl.one
    cases e; cases r1
    exact .inr ⟨_, rfl, fin0 s (.int _) q⟩
  · cases e
def absD : List D → Option D
  | [.int i] => some (.int (if i < 0 then -i else i))
  | _ => none
def max2D : List D → Option D
  | [.int i, .int j] => some (.int (if j > i then j else i))
  | _ => none
def min2D : List D → Option D
  | [.int i, .int j] => some (.int (if j < i then j else i))
  | _ => none
theorem vok_max2 : VOk K (fun xs H Q => ∃ i j, xs = [.int i, .int j] ∧ Q (.int (if j > i then j else i)) H) max2D := by
  intro G H vs ds d s rl e Q q
  unfold max2D at e
  split at e
  · obtain ⟨v, u, L, M, rfl, r1, r2⟩ := rl.two
    cases e; cases r1; cases r2
    exact ⟨_, _, rfl, fin0 s (.int _) q⟩
  · cases e
theorem vok_min2 : VOk K (fun xs H Q => ∃ i j, xs = [.int i, .int j] ∧ Q (.int (if j < i then j else i)) H) min2D := by
  intro G H vs ds d s rl e Q q
  unfold min2D at e
  split at e
  · obtain ⟨v, u, L, M, rfl, r1, r2⟩ := rl.two
    cases e; cases r1; cases r2
    exact ⟨_, _, rfl, fin0 s (.int _) q⟩
  · cases e
end
end VS
set_option Elab.async false
set_option linter.all false
set_option maxRecDepth 100000
namespace VS
open PySem PySem.Spec PyProof.Rows L2
/-! ### slices -/
def rSlX (K : PySem.W.Frag) : V → Option Int → Option Int → Hp → VK → Prop := fun x lo hi H Q => rSlL K x lo hi H Q ∨ rSlA K x lo hi H Q
def cutD (xs : List D) (lo hi : Option Int) : List D := (xs.drop (HT.sIx xs.length 0 lo)).take (HT.sIx xs.length xs.length hi - HT.sIx xs.length 0 lo)
def cutOf (lo hi : Option Int) : D → Option D
  | .lst _ xs => if noOwns xs = true then some (.lst true (cutD xs lo hi)) else none
  | .tup xs => if noOwns xs = true then some (.tup (cutD xs lo hi)) else none
  | _ => none
/-- the parts of a slice that are written, as operands -/
def partD (wl wh : Bool) : List D → Option D
  | [x] => if wl = false ∧ wh = false then cutOf none none x else none
  | [x, .int i] => if wl = true ∧ wh = false then cutOf (some i) none x else if wl = false ∧ wh = true then cutOf none (some i) x else none
  | [x, .int i, .int j] => if wl = true ∧ wh = true then cutOf (some i) (some j) x else none
  | _ => none
section
variable {K : PySem.W.Frag}
end
section
variable {X : Cx} {e a b : Expr} {p2 pos : Pos}
end
/-! ### list(range(..)) -/
def rRg : List V → Hp → VK → Prop := fun vs H Q => ∃ (i j c : Int) (n : Nat), (vs = [.int j] ∧ i = 0 ∧ c = 1 ∨ vs = [.int i, .int j] ∧ c = 1 ∨ vs = [.int i, .int j, .int c]) ∧ RgC i j c n ∧ n ≤ 2 ^ 24 ∧ ∀ q, H q = none → Q (.ref q) (upd H q (.lst ((List.range n).map fun k => V.int (i + (k : Nat) * c))))
theorem vals_rgC {a c : Int} {n : Nat} {acc : Array Value} (h : ItemsOf (fun i v => ∃ t, v = .int (a + i * c) t) acc n) : Vals ((List.range n).map fun k => V.int (a + (k : Nat) * c)) acc.toList := by
  have e : acc.toList.length = n := by rw [Array.length_toList]; exact h.1
  rw [← e]
  refine vals_of_get acc.toList _ fun j u hj => ?_
  obtain ⟨t, rfl⟩ := h.2 j u (by rw [← hj, Array.getElem?_toList])
  exact ⟨t, rfl⟩
section
variable {X : Cx} {a b c : Expr} {ta : TA} {p p2 pos pos2 : Pos}
/-- range(..), then list of it -/
theorem list_of_rg {pins : List (Addr × Obj)} {σ : L2.St} {H1 : Hp} {s1 : Shared} {Q : VK} {i j k : Int} {n : Nat} {t u v : Tok} {tk : Nat} (hc : X.calm = true) (I1 : Inv X pins σ H1 s1) (h : RgC i j k n) (hn : n ≤ 2 ^ 24)
    (q : ∀ q, H1 q = none → Q (.ref q) (upd H1 q (.lst ((List.range n).map fun m => V.int (i + (m : Nat) * k))))) :
    wpAny (model X.prog X.w) X.A (call (.type "list") [.ref s1.heap.objs.size]) (EP X pins σ Q) X.xe { s1 with heap := s1.heap.push { cls := .type "range", data := .fields #[.int i t, .int j u, .int k v] }, toks := tk } := by
  obtain ⟨c0, c1, c2, c3⟩ := h
  have I2 : Inv X pins σ H1 { s1 with heap := s1.heap.push { cls := .type "range", data := .fields #[.int i t, .int j u, .int k v] }, toks := tk } := I1.kept (t' := tk) fun b o e => Heap.get?_push_of_some _ e
  refine call_list_range (n := n) (I2.ok.hd hc) (IsRange.new _ _ _ _ _ _ _) c2 c3 hn fun h' tk' acc c' hk e' hi => ?_
  refine ⟨.ref _, upd H1 _ (.lst ((List.range n).map fun m => V.int (i + (m : Nat) * k))), I2.laid hk (Nat.le_refl _) (show ObjOk X.prog X.w _ _ _ (.lst _) from ⟨?_, acc.toList, c', vals_rgC hi, ?_⟩), rfl, q _ (I2.hok.fresh (Nat.le_refl _))⟩
  · rw [List.length_map, List.length_range, sizeLine_eq]; omega
  · rw [Array.toArray_toList]; exact e'
theorem pe_lrg1 (hc : X.calm = true) (hgl : Gl X "list") (hml : X.mg "list" = none) (hg : Gl X "range") (hm : X.mg "range" = none) (ha : PA X [a] ta) (hs : starEach [a] X.env = [(false, eval a X.env)] := by rfl)
    (hs2 : starEach [Expr.Call (.Name "range" p) [a] [] pos] X.env = [(false, eval (Expr.Call (.Name "range" p) [a] [] pos) X.env)] := by rfl) :
    PE X (.Call (.Name "list" p2) [.Call (.Name "range" p) [a] [] pos] [] pos2) (fun σ H Q => ta σ H fun vs H1 => vs.length = 1 ∧ rRg vs H1 Q) := by
  refine ⟨fun pins s σ H Q I h => ?_⟩
  refine Call_ (ld_blt I hgl hml boot_list (PyProof.Rows.callWith_type1 (args_cons ?_ hs2) hs2))
  refine Call_ (ld_blt I hg hm boot_range (PyProof.Rows.callWith_type1 (thn (ha.run pos pins s σ H _ I h) fun us s1 ⟨vs, H1, I1, r1, q1⟩ => ?_) hs rfl))
  obtain ⟨hl, i, j, k, n, hv, hr, hn, q⟩ := q1
  rcases hv with ⟨e, rfl, rfl⟩ | ⟨e, _⟩ | e
  · subst e
    cases r1 with
    | cons r rr =>
      cases rr
      obtain ⟨t, rfl⟩ := r
      exact call_range_1 (args_nil (list_of_rg hc I1 hr hn q))
  · subst e; cases hl
  · subst e; cases hl
theorem pe_lrg2 (hc : X.calm = true) (hgl : Gl X "list") (hml : X.mg "list" = none) (hg : Gl X "range") (hm : X.mg "range" = none) (ha : PA X [a, b] ta) (hs : starEach [a, b] X.env = [(false, eval a X.env), (false, eval b X.env)] := by rfl) (hs3 : starEach [b] X.env = [(false, eval b X.env)] := by rfl)
    (hs2 : starEach [Expr.Call (.Name "range" p) [a, b] [] pos] X.env = [(false, eval (Expr.Call (.Name "range" p) [a, b] [] pos) X.env)] := by rfl) :
    PE X (.Call (.Name "list" p2) [.Call (.Name "range" p) [a, b] [] pos] [] pos2) (fun σ H Q => ta σ H fun vs H1 => vs.length = 2 ∧ rRg vs H1 Q) := by
  refine ⟨fun pins s σ H Q I h => ?_⟩
  refine Call_ (ld_blt I hgl hml boot_list (PyProof.Rows.callWith_type1 (args_cons ?_ hs2) hs2))
  refine Call_ (ld_blt I hg hm boot_range (PyProof.Rows.callWith_type1 (thn (ha.run pos pins s σ H _ I h) fun us s1 ⟨vs, H1, I1, r1, q1⟩ => ?_) (by rw [hs, hs3]) (by rw [hs3]; rfl)))
  obtain ⟨hl, i, j, k, n, hv, hr, hn, q⟩ := q1
  rcases hv with ⟨e, rfl, rfl⟩ | ⟨e, rfl⟩ | e
  · subst e; cases hl
  · subst e
    cases r1 with
    | cons r rr =>
      cases rr with
      | cons r' rr =>
        cases rr
        obtain ⟨t, rfl⟩ := r
        obtain ⟨t', rfl⟩ := r'
        exact call_range_2 (args_nil (list_of_rg hc I1 hr hn q))
  · subst e; cases hl
theorem pe_lrg3 (hc : X.calm = true) (hgl : Gl X "list") (hml : X.mg "list" = none) (hg : Gl X "range") (hm : X.mg "range" = none) (ha : PA X [a, b, c] ta) (hs : starEach [a, b, c] X.env = (false, eval a X.env) :: starEach [b, c] X.env := by rfl) (hpl : (backTo pos (starEach [b, c] X.env)).any (·.1) = false := by rfl)
    (hs2 : starEach [Expr.Call (.Name "range" p) [a, b, c] [] pos] X.env = [(false, eval (Expr.Call (.Name "range" p) [a, b, c] [] pos) X.env)] := by rfl) :
    PE X (.Call (.Name "list" p2) [.Call (.Name "range" p) [a, b, c] [] pos] [] pos2) (fun σ H Q => ta σ H fun vs H1 => vs.length = 3 ∧ rRg vs H1 Q) := by
  refine ⟨fun pins s σ H Q I h => ?_⟩
  refine Call_ (ld_blt I hgl hml boot_list (PyProof.Rows.callWith_type1 (args_cons ?_ hs2) hs2))
  refine Call_ (ld_blt I hg hm boot_range (PyProof.Rows.callWith_type1 (thn (ha.run pos pins s σ H _ I h) fun us s1 ⟨vs, H1, I1, r1, q1⟩ => ?_) hs hpl))
  obtain ⟨hl, i, j, k, n, hv, hr, hn, q⟩ := q1
  rcases hv with ⟨e, rfl, rfl⟩ | ⟨e, rfl⟩ | e
  · subst e; cases hl
  · subst e; cases hl
  · subst e
    cases r1 with
    | cons r rr =>
      cases rr with
      | cons r' rr =>
        cases rr with
        | cons r'' rr =>
          cases rr
          obtain ⟨t, rfl⟩ := r
          obtain ⟨t', rfl⟩ := r'
          obtain ⟨t'', rfl⟩ := r''
          exact call_range_3 hr.1 (args_nil (list_of_rg hc I1 hr hn q)) (.inl (PyProof.noPylong_small hr.2.1))
end
def lrgD (rd : List D → Option (List D)) : List D → Option D := fun ds => (rd ds).bind fun xs => if xs.length ≤ smallL then some (.lst true xs) else none
section
variable {K : PySem.W.Frag}
theorem reps_by {G H : Hp} (lo c : Int) (n : Nat) : Reps K G H ((List.range n).map fun k => V.int (lo + (k : Nat) * c)) (intsBy lo c n) [] := by
  unfold intsBy
  have : ∀ l : List Nat, Reps K G H (l.map fun k => V.int (lo + (k : Nat) * c)) (l.map fun i => D.int (lo + (i : Nat) * c)) [] := fun l => by
    induction l with
    | nil => exact .nil
    | cons x l ih => exact Reps.cons (.int _) ih fun a z => nomatch z
  exact this _
theorem intsBy_len (lo c : Int) (n : Nat) : (intsBy lo c n).length = n := by unfold intsBy; rw [List.length_map, List.length_range]
theorem intsTo_by (lo : Int) (n : Nat) : intsTo lo n = intsBy lo 1 n := by
  unfold intsTo intsBy
  congr 1
  funext i
  rw [Int.mul_one]
theorem lrg_fin {G H : Hp} {Q : VK} {d : D} {vs : List V} {i j c : Int} {n : Nat} (s : Same G H) (hv : vs = [.int j] ∧ i = 0 ∧ c = 1 ∨ vs = [.int i, .int j] ∧ c = 1 ∨ vs = [.int i, .int j, .int c]) (hr : RgC i j c n)
    (e : (if (intsBy i c n).length ≤ smallL then some (D.lst true (intsBy i c n)) else none) = some d) (q : ∀ v G' H' L, Tr G H (fun _ => False) G' H' (fun a => a ∈ L) → Rep K G' H' v d L → Q v H') : rRg vs H Q := by
  split at e
  · rename_i hz
    cases e
    rw [intsBy_len] at hz
    refine ⟨i, j, c, n, hv, hr, Nat.le_trans hz (by decide), fun p hp => ?_⟩
    obtain ⟨t, r⟩ := new_lst s hp (reps_by (K := K) (G := G) (H := H) i c n)
    exact q _ _ _ _ t r
  · cases e
theorem rgC_one {i j : Int} (h1 : -4611686018427387904 ≤ i) (h2 : i < 4611686018427387904) (h3 : -4611686018427387904 ≤ j) (h4 : j < 4611686018427387904) : RgC i j 1 (j - i).toNat :=
  ⟨by decide, by decide, small_one (by omega) (by omega) (by omega) (by omega), rangeSize_nat i j⟩
theorem vok_lrg1 : VOk K (fun vs H Q => vs.length = 1 ∧ rRg vs H Q) (lrgD rng1D) := by
  intro G H vs ds d s rl e Q q
  unfold lrgD rng1D at e
  split at e
  · obtain ⟨v, L, rfl, r1⟩ := rl.one
    cases r1
    split at e
    · rename_i hb
      have e' : (if (intsTo 0 _).length ≤ smallL then some (D.lst true (intsTo 0 _)) else none) = some d := e
      rw [intsTo_by] at e'
      refine ⟨rfl, lrg_fin s (.inl ⟨rfl, rfl, rfl⟩) ?_ e' q⟩
      have := rgC_one (i := 0) (by omega) (by omega) hb.1 hb.2
      rw [Int.sub_zero] at this
      exact this
    · cases e
  · cases e
theorem vok_lrg2 : VOk K (fun vs H Q => vs.length = 2 ∧ rRg vs H Q) (lrgD rng2D) := by
  intro G H vs ds d s rl e Q q
  unfold lrgD rng2D at e
  split at e
  · obtain ⟨v, u, L, M, rfl, r1, r2⟩ := rl.two
    cases r1; cases r2
    split at e
    · rename_i hb
      have e' : (if (intsTo _ _).length ≤ smallL then some (D.lst true (intsTo _ _)) else none) = some d := e
      rw [intsTo_by] at e'
      exact ⟨rfl, lrg_fin s (.inr (.inl ⟨rfl, rfl⟩)) (rgC_one hb.1 hb.2.1 hb.2.2.1 hb.2.2.2) e' q⟩
    · cases e
  · cases e
theorem vok_lrg3 : VOk K (fun vs H Q => vs.length = 3 ∧ rRg vs H Q) (lrgD rng3D) := by
  intro G H vs ds d s rl e Q q
  unfold lrgD rng3D at e
  split at e
  · cases rl with
    | cons r0 rl =>
      obtain ⟨v, u, L, M, rfl, r1, r2⟩ := rl.two
      cases r0; cases r1; cases r2
      split at e
      · rename_i hb
        obtain ⟨rfl, b1, b2, b3, b4⟩ := hb
        exact ⟨rfl, lrg_fin s (.inr (.inr rfl)) (RgC.neg (by omega) (by omega) (by omega) (by omega)) e q⟩
      · split at e
        · rename_i hb
          obtain ⟨b0, b1, b2, b3, b4, b5⟩ := hb
          exact ⟨rfl, lrg_fin s (.inr (.inr rfl)) (rgC_pos b0 b1 b2 b3 b4 b5) e q⟩
        · cases e
  · cases e
end
section
variable {X : Cx} {a b c : Expr} {p p2 pos pos2 : Pos} {ops : List Op}
theorem pf_lrg1 (hc : X.calm = true) (hgl : Gl X "list") (hml : X.mg "list" = none) (hg : Gl X "range") (hm : X.mg "range" = none) (ha : PAf X [a] ops) (hs : starEach [a] X.env = [(false, eval a X.env)] := by rfl)
    (hs2 : starEach [Expr.Call (.Name "range" p) [a] [] pos] X.env = [(false, eval (Expr.Call (.Name "range" p) [a] [] pos) X.env)] := by rfl) : PEf X (.Call (.Name "list" p2) [.Call (.Name "range" p) [a] [] pos] [] pos2) (opF (lrgD rng1D) ops) := .mk (pe_lrg1 hc hgl hml hg hm ha hs hs2) (simE_op (simA_of _) vok_lrg1)
theorem pf_lrg2 (hc : X.calm = true) (hgl : Gl X "list") (hml : X.mg "list" = none) (hg : Gl X "range") (hm : X.mg "range" = none) (ha : PAf X [a, b] ops) (hs : starEach [a, b] X.env = [(false, eval a X.env), (false, eval b X.env)] := by rfl) (hs3 : starEach [b] X.env = [(false, eval b X.env)] := by rfl)
    (hs2 : starEach [Expr.Call (.Name "range" p) [a, b] [] pos] X.env = [(false, eval (Expr.Call (.Name "range" p) [a, b] [] pos) X.env)] := by rfl) : PEf X (.Call (.Name "list" p2) [.Call (.Name "range" p) [a, b] [] pos] [] pos2) (opF (lrgD rng2D) ops) := .mk (pe_lrg2 hc hgl hml hg hm ha hs hs3 hs2) (simE_op (simA_of _) vok_lrg2)
theorem pf_lrg3 (hc : X.calm = true) (hgl : Gl X "list") (hml : X.mg "list" = none) (hg : Gl X "range") (hm : X.mg "range" = none) (ha : PAf X [a, b, c] ops) (hs : starEach [a, b, c] X.env = (false, eval a X.env) :: starEach [b, c] X.env := by rfl) (hpl : (backTo pos (starEach [b, c] X.env)).any (·.1) = false := by rfl)
    (hs2 : starEach [Expr.Call (.Name "range" p) [a, b, c] [] pos] X.env = [(false, eval (Expr.Call (.Name "range" p) [a, b, c] [] pos) X.env)] := by rfl) : PEf X (.Call (.Name "list" p2) [.Call (.Name "range" p) [a, b, c] [] pos] [] pos2) (opF (lrgD rng3D) ops) := .mk (pe_lrg3 hc hgl hml hg hm ha hs hpl hs2) (simE_op (simA_of _) vok_lrg3)
end
end VS
set_option Elab.async false
set_option linter.all false
set_option maxRecDepth 100000
namespace VS
open PySem PySem.Spec PyProof.Rows L2
/-! ### methods of lists -/
def appD : List D → List D → Option (D × List D) := fun xs ds => match ds with
  | [d] => if xs.length < smallL then some (.non, xs ++ [d]) else none
  | _ => none
def popD : List D → List D → Option (D × List D) := fun xs ds => match ds with
  | [] => (xs[xs.length - 1]?).bind fun d => some (d, xs.eraseIdx (xs.length - 1))
  | _ => none
def popAtD : List D → List D → Option (D × List D) := fun xs ds => match ds with
  | [.int i] => if -1000000000 ≤ i ∧ i < 1000000000 then (ixN xs.length i).bind fun k => (xs[k]?).bind fun d => some (d, xs.eraseIdx k) else none
  | _ => none
def insD : List D → List D → Option (D × List D) := fun xs ds => match ds with
  | [.int i, d] => if 0 ≤ i ∧ i < 1000000 ∧ noOwns xs = true ∧ noOwn d = true ∧ xs.length < smallL then some (.non, xs.take i.toNat ++ [d] ++ xs.drop i.toNat) else none
  | _ => none
def revD : List D → List D → Option (D × List D) := fun xs ds => match ds with
  | [] => if noOwns xs = true then some (.non, xs.reverse) else none
  | _ => none
section
variable {K : PySem.W.Frag} {G H : Hp}
theorem Reps.erase : ∀ {vs : List V} {xs : List D} {L : List Addr} {k : Nat} {d : D}, Reps K G H vs xs L → xs[k]? = some d → ∃ v M N, vs[k]? = some v ∧ Rep K G H v d M ∧ Reps K G H (vs.eraseIdx k) (xs.eraseIdx k) N ∧ (∀ a ∈ M, a ∈ L) ∧ (∀ a ∈ N, a ∈ L) ∧ (∀ a ∈ N, a ∉ M)
  | _, _, _, k, d, .nil, e => by simp at e
  | _, _, _, 0, d, .cons (L := L) (M := M) h r n, e => by
    simp at e; subst e
    exact ⟨_, L, M, rfl, h, r, fun a ha => List.mem_append_left _ ha, fun a ha => List.mem_append_right _ ha, fun a ha hm => n a hm ha⟩
  | _, _, _, k + 1, d, .cons (v := v0) (L := L) (M := M) h r n, e => by
    obtain ⟨v, M1, N1, h1, h2, h3, h4, h5, h6⟩ := r.erase (k := k) (by simpa using e)
    refine ⟨v, M1, L ++ N1, by simpa using h1, h2, .cons h h3 fun a ha hm => n a ha (h5 a hm), fun a ha => List.mem_append_right _ (h4 a ha), fun a ha => ?_, fun a ha => ?_⟩
    · rcases List.mem_append.mp ha with z | z
      · exact List.mem_append_left _ z
      · exact List.mem_append_right _ (h5 a z)
    · rcases List.mem_append.mp ha with z | z
      · exact fun hm => n a z (h4 a hm)
      · exact h6 a z
theorem eraseIdx_last {α : Type} : ∀ xs : List α, xs.eraseIdx (xs.length - 1) = xs.dropLast
  | [] => rfl
  | [x] => rfl
  | x :: y :: r => by
    have ih := eraseIdx_last (y :: r)
    show x :: (y :: r).eraseIdx (r.length) = x :: (y :: r).dropLast
    rw [← ih]
    rfl
end
section
variable {K : PySem.W.Frag}
theorem mok_app : MOk K rAppend appD := by
  intro G H a vs us xs ds L M d xs' s hG hH hr hrs nLM e Q q
  unfold appD at e
  split at e
  · rename_i d0
    split at e
    · rename_i hz
      cases e
      cases hrs with
      | cons hv rr nn =>
        cases rr
        rename_i v L1
        rw [List.append_nil] at nLM q
        refine ⟨a, vs, v, rfl, rfl, hH, ?_, q .non (vs ++ [v]) (L ++ L1) [] (hr.snoc hv nLM) .non (fun b hb => List.mem_append.mp hb) (fun b hb => (by cases hb)) (fun b _ hb => (by cases hb))⟩
        rw [hr.length]
        exact Nat.lt_of_lt_of_le hz (by decide)
    · cases e
  · cases e
theorem mok_pop : MOk K rPop popD := by
  intro G H a vs us xs ds L M d xs' s hG hH hr hrs nLM e Q q
  unfold popD at e
  split at e
  · cases hx : xs[xs.length - 1]? with
    | none => rw [hx] at e; cases e
    | some d0 =>
      rw [hx] at e; cases e
      cases hrs
      obtain ⟨v, M1, N1, h1, h2, h3, h4, h5, h6⟩ := hr.erase hx
      have hl := hr.length
      rw [← hl] at h1 h3
      refine ⟨a, vs, v, rfl, rfl, hH, h1, ?_⟩
      rw [← eraseIdx_last]
      rw [hl] at h3 ⊢
      exact q v _ N1 M1 h3 h2 (fun b hb => .inl (h5 b hb)) (fun b hb => .inl (h4 b hb)) h6
  · cases e
end
section
variable {X : Cx} {o e : Expr} {es : List Expr} {i : Nat} {ops : List Op} {o1 : Op} {apos cpos : Pos}
theorem pf_append (ho : PE X o (tVar i)) (ha : PAf X (e :: es) ops) (hbase : attributeBase o "append" X.env (eval o X.env) = eval o X.env := by rfl)
    (hfew : ((backTo cpos (starEach (e :: es) X.env)).all (fun x => !x.1) && (backToKw cpos (keywordEach [] X.env)).all (fun x => x.1.isSome)
      && decide ((e :: es).length + ([] : List Keyword).length + (if ([] : List Keyword).isEmpty then 0 else 1) < 30)) = true := by rfl)
    (hline : (apos.endLine == cpos.line) = true := by rfl) (hs : starEach (e :: es) X.env = (false, eval e X.env) :: starEach es X.env := by rfl) (hplain : (backTo cpos (starEach es X.env)).any (·.1) = false := by rfl) :
    PEf X (.Call (.Attribute o "append" apos) (e :: es) [] cpos) (mutF i appD ops) :=
  .mk (pe_bm PySem.F.plainAttrs_list PySem.F.slot_list_append PySem.F.type_list_append mt_append ho ha hbase hfew hline hs hplain) (simE_mut rfl (simA_of ops) mok_app)
theorem bm0_bm {K : PySem.W.Frag} {T : String} {r : V → List V → Hp → VK → Prop} {to : TE} : tBM0 K T r to = tBM K T r to tNil := rfl
theorem pf_pop (ho : PE X o (tVar i)) (hbase : attributeBase o "pop" X.env (eval o X.env) = eval o X.env := by rfl) (hline : (apos.endLine == cpos.line) = true := by rfl) : PEf X (.Call (.Attribute o "pop" apos) [] [] cpos) (mutF i popD []) :=
  .mk (pe_bm0 PySem.F.plainAttrs_list PySem.F.slot_list_pop PySem.F.type_list_pop mt_pop ho hbase hline) (bm0_bm ▸ simE_mut rfl simA_nil mok_pop)
end
/-! ### isinstance of built-in types -/
def tyName : D → Option String
  | .non => some "NoneType"
  | .bl _ => some "bool"
  | .int _ => some "int"
  | .str _ => some "str"
  | .tup _ => some "tuple"
  | .lst _ _ => some "list"
  | .scr _ => some "list"
  | .ty _ => none
  | .exc _ _ => none
  | .dct _ _ => none
def anyB (t : String) : List String → Option Bool
  | [] => some false
  | n :: ns => match kitB t n with
    | some true => some true
    | some false => anyB t ns
    | none => none
def isiD (n : String) : List D → Option D
  | [d] => (tyName d).bind fun t => (kitB t n).bind fun b => some (.bl b)
  | _ => none
def isiTD (ns : List String) : List D → Option D
  | [d] => if ns.length ≤ smallL then (tyName d).bind fun t => (anyB t ns).bind fun b => some (.bl b) else none
  | _ => none
section
variable {K : PySem.W.Frag} {G H : Hp}
theorem Rep.tyx {v : V} {d : D} {L : List Addr} {t : String} (s : Same G H) (r : Rep K G H v d L) (h : tyName d = some t) : TyX K H v (.type t) := by
  cases r with
  | non => cases h; exact .base .non
  | bl b => cases h; exact .base (.bl b)
  | int i => cases h; exact .base (.int i)
  | str x => cases h; exact .base (.str x)
  | ty n => cases h
  | exc _ _ _ _ => cases h
  | dctS _ => cases h
  | dctO _ _ => cases h
  | scr q =>
    cases h
    rcases Same.seq s q with (q | ⟨o, q⟩) | ⟨o, its, n, hk, hc, _⟩
    · exact .base (.lst q)
    · exact .base (.frz q)
    · exact .kList hk hc
  | tup q r =>
    cases h
    rcases Same.seqT s q with (q | ⟨o, q⟩) | ⟨o, its, n, hk, hc, _⟩
    · exact .base (.tup q)
    · exact .fTuple q
    · exact .kTuple hk hc
  | lstS q r e => cases h; exact .base (.lst (s _ _ q))
  | lstO _ q _ r => cases h; exact .base (.lst q)
theorem vok_isi {n : String} : VOk K (fun vs H Q => match vs with | [x] => rIsi K [x, .ty n] H Q | _ => False) (isiD n) := by
  intro G H vs ds d s rl e Q q
  unfold isiD at e
  split at e
  · rename_i d0
    obtain ⟨v, L, rfl, r1⟩ := rl.one
    cases ht : tyName d0 with
    | none => rw [ht] at e; cases e
    | some t =>
      rw [ht] at e
      have e1 : (kitB t n).bind (fun b => some (D.bl b)) = some d := e
      cases hb : kitB t n with
      | none => rw [hb] at e1; cases e1
      | some b =>
        rw [hb] at e1; cases e1
        exact ⟨v, .ty n, .type t, .type n, b, rfl, .ty n, r1.tyx s ht, kit_ty hb, fin0 s (.bl _) q⟩
  · cases e
end
section
variable {X : Cx} {e : Expr} {p p2 p3 p4 pos : Pos} {k : Nat}
theorem pe_tyn {x : Str} {n : String} (hg : Gl X x) (hm : X.mg x = none) (hv : bootBuiltins x = some (.type n)) (hn : x ≠ "__name__" := by decide) (hd : (x == ("__debug__" : Str)) = false := by decide) : PE X (.Name x p) (tC (.ty n)) := pe_bltn hg hm hv rfl hn hd
theorem pf_isi {x : Str} {n : String} {o : Op} (hgi : Gl X "isinstance") (hmi : X.mg "isinstance" = none) (h : POf X e o) (ht : PE X (.Name x p2) (tC (.ty n)))
    (hs : starEach [e, Expr.Name x p2] X.env = (false, eval e X.env) :: starEach [Expr.Name x p2] X.env := by rfl) (hs2 : starEach [Expr.Name x p2] X.env = (false, eval (Expr.Name x p2) X.env) :: starEach [] X.env := by rfl) (hpl : (backTo pos (starEach [Expr.Name x p2] X.env)).any (·.1) = false := by rfl) :
    PEf X (.Call (.Name "isinstance" p) [e, .Name x p2] [] pos) (opF (isiD n) [o]) := by
  obtain ⟨te, p1, s1⟩ := h.ex
  refine PEf.mk (pe_callB call_isi hgi hmi boot_isinstance (pa_cons p1 (pa_cons ht pa_nil hs2) hs) (by decide) (by decide) hs hpl) ?_
  exact simE_op (ta := tCons te tNil) (r := fun vs H Q => match vs with | [x] => rIsi X.K [x, .ty n] H Q | _ => False) (simA_cons s1 simA_nil) vok_isi
end
end VS
set_option Elab.async false
set_option linter.all false
set_option maxRecDepth 100000
namespace VS
open PySem PySem.Spec PyProof.Rows L2 RZ
def pairD : D → D → Option (List D × List D)
  | .lst _ xs, .lst _ ys => some (freezes xs, freezes ys)
  | .tup xs, .tup ys => some (freezes xs, freezes ys)
  | _, _ => none
def itZip (f g : FE) : FI := fun ρ => (f ρ).bind fun p => (g p.2).bind fun q => (pairD p.1 q.1).bind fun r => some ((r.1.zip r.2).map fun u => .tup [u.1, u.2], q.2)
section
variable {K : PySem.W.Frag}
end
section
variable {X : Cx} {e e2 : Expr} {p pos tpos : Pos} {elts : List Expr} {kk : Nat}
end
/-- an int, or nothing -/
def asInt (f : FE) : FE := fun ρ => (f ρ).bind fun p => match p.1 with
  | .int i => some (.int i, p.2)
  | _ => none
section
variable {K : PySem.W.Frag}
end
section
variable {X : Cx} {e a b : Expr} {p2 pos : Pos}
end
end VS
set_option Elab.async false
set_option linter.all false
set_option maxRecDepth 100000
namespace VS
open PySem PySem.Spec PyProof.Rows L2 RZ
/-! ### a, b = x, y of plain local names -/
def setAll : List Nat → List D → Env → Env
  | i :: is, d :: ds, ρ => setAll is ds (ρ.set i (some d))
  | _, _, ρ => ρ
def setAllV : List Nat → List V → L2.St → L2.St
  | i :: is, v :: vs, σ => setAllV is vs (σ.set i (some v))
  | _, _, σ => σ
def parF (is : List Nat) (ops : List Op) : FS := fun ρ => (evOps ops ρ).bind fun p => (takeN ops p.1 p.2).bind fun ds => if ds.length = is.length then some (.nx (setAll is ds p.2)) else none
section
variable {K : PySem.W.Frag} {pn : Nat → Bool} {W : WX}
theorem setAll_ok {G H : Hp} : ∀ {is : List Nat} {vs : List V} {ds : List D} {M : List Addr} {σ : L2.St} {ρ : Env} {F : Nat → List Addr}, (∀ i ∈ is, pn i = false) → REnv K G H σ ρ F → Reps K G H vs ds M → (∀ a ∈ M, ¬ own F a) →
    ∃ F', REnv K G H (setAllV is vs σ) (setAll is ds ρ) F' ∧ (∀ a, own F' a → own F a ∨ a ∈ M) ∧ Pin pn σ (setAllV is vs σ)
  | [], vs, ds, M, σ, ρ, F, hp, r, h, n => ⟨F, r, fun a h => .inl h, Pin.refl⟩
  | i :: is, [], ds, M, σ, ρ, F, hp, r, h, n => by
    cases h
    exact ⟨F, r, fun a h => .inl h, Pin.refl⟩
  | i :: is, v :: vs, [], M, σ, ρ, F, hp, r, h, n => by cases h
  | i :: is, v :: vs, d :: ds, _, σ, ρ, F, hp, r, .cons hv hr hn, n => by
    obtain ⟨F1, r1, s1⟩ := r.put' i hv (fun a ha => n a (List.mem_append_left _ ha))
    obtain ⟨F2, r2, s2, p2⟩ := setAll_ok (is := is) (fun j hj => hp j (List.mem_cons_of_mem _ hj)) r1 hr (fun a ha z => (s1 a z).elim (n a (List.mem_append_right _ ha)) fun y => hn a y ha)
    refine ⟨F2, r2, fun a h => ?_, (Pin.set (hp i List.mem_cons_self)).trans p2⟩
    rcases s2 a h with z | z
    · exact (s1 a z).imp id (List.mem_append_left _)
    · exact .inr (List.mem_append_right _ z)
theorem simS_par {t : TS} {ta : TA} {is : List Nat} {ops : List Op} (hp : ∀ i ∈ is, pn i = false) (h : SimA K ta ops) (ht : ∀ (E : Ends) σ H, (ta σ H fun vs H1 => vs.length = is.length ∧ E.nx (setAllV is vs σ) H1) → t E σ H) : SimS K pn W t (parF is ops) := by
  intro ρ o e σ G H F r E q
  unfold parF at e
  cases he : evOps ops ρ with
  | none => rw [he] at e; cases e
  | some p =>
    obtain ⟨ts, ρ1⟩ := p
    rw [he] at e
    have e1 : (takeN ops ts ρ1).bind (fun ds => if ds.length = is.length then some (Out.nx (setAll is ds ρ1)) else none) = some o := e
    cases htk : takeN ops ts ρ1 with
    | none => rw [htk] at e1; cases e1
    | some ds =>
      rw [htk] at e1
      have e2 : (if ds.length = is.length then some (Out.nx (setAll is ds ρ1)) else none) = some o := e1
      split at e2
      · rename_i hl
        cases e2
        refine ht E σ H (h ρ ts ρ1 he σ G H F r _ fun vs G1 H1 F1 M t1 r1 ok n1 => ?_)
        have rs := ok.take r1 htk
        obtain ⟨F2, r2, s2, p2⟩ := setAll_ok (is := is) hp r1 rs n1
        exact ⟨rs.length.trans hl, q _ G1 H1 F2 (t1.post s2) r2 p2⟩
      · cases e2
end
def iaddD : List D → Option D := fun ds => match ds with | [.int a, .int b] => some (.int (a + b)) | _ => none
def isubD : List D → Option D := fun ds => match ds with | [.int a, .int b] => some (.int (a - b)) | _ => none
section
variable {K : PySem.W.Frag}
theorem vok_iadd : VOk K (fun vs H Q => match vs with | [x, y] => ipI (fun i j => i + j) x y H Q | _ => False) iaddD := by
  intro G H vs ds d s rl e Q q
  unfold iaddD at e
  split at e
  · obtain ⟨v, u, L, M, rfl, r1, r2⟩ := rl.two
    cases e; cases r1; cases r2
    exact ⟨_, _, rfl, rfl, fin0 s (.int _) q⟩
  · cases e
theorem vok_isub : VOk K (fun vs H Q => match vs with | [x, y] => ipI (fun i j => i - j) x y H Q | _ => False) isubD := by
  intro G H vs ds d s rl e Q q
  unfold isubD at e
  split at e
  · obtain ⟨v, u, L, M, rfl, r1, r2⟩ := rl.two
    cases e; cases r1; cases r2
    exact ⟨_, _, rfl, rfl, fin0 s (.int _) q⟩
  · cases e
end
section
variable {X : Cx} {pn : Nat → Bool} {W : WX} {a b c : Expr} {pos px py pz pt : Pos} {kt k2 : Nat} {pt2 : Pos}
theorem psf_par2 {i j : Nat} {x y : Str} {ops : List Op} (hc : X.calm = true) (hN : X.N.Nodup) (hi : X.N[i]? = some x) (hj : X.N[j]? = some y) (hij : i ≠ j) (hp : ∀ k ∈ [i, j], pn k = false)
    (hx : X.env.scope.names.lookup x = some .local) (hy : X.env.scope.names.lookup y = some .local) (ha : PAf X [a, b] ops)
    (hw : swappedStores [.Tuple [.Name x px, .Name y py] kt pt] (.Tuple [a, b] k2 pt2) X.env = pure (some [x, y]))
    (hs : swapsWithSole [.Tuple [.Name x px, .Name y py] kt pt] (.Tuple [a, b] k2 pt2) pos.line X.env = pure false := by rfl) :
    PSf X pn W (.Assign [.Tuple [.Name x px, .Name y py] kt pt] (.Tuple [a, b] k2 pt2) pos) (parF [i, j] ops) :=
  .mk (ps_par hc hN hi hj hij hx hy ha hw hs) (simS_par (ta := taOf X.K ops) hp (simA_of ops) fun E σ H ⟨ρ, ts, ρ', G, F, e, r, q⟩ => ⟨ρ, ts, ρ', G, F, e, r, fun vs G' H' F' M t r' ok n => by
    obtain ⟨hl, q1⟩ := q vs G' H' F' M t r' ok n
    match vs, hl, q1 with
    | [v, w], _, q1 => exact ⟨v, w, rfl, q1⟩⟩)
theorem psf_par3 {i j l : Nat} {x y z : Str} {ops : List Op} (hc : X.calm = true) (hN : X.N.Nodup) (hi : X.N[i]? = some x) (hj : X.N[j]? = some y) (hl : X.N[l]? = some z) (hij : i ≠ j) (hil : i ≠ l) (hjl : j ≠ l) (hp : ∀ k ∈ [i, j, l], pn k = false)
    (hx : X.env.scope.names.lookup x = some .local) (hy : X.env.scope.names.lookup y = some .local) (hz : X.env.scope.names.lookup z = some .local) (ha : PAf X [a, b, c] ops)
    (hw : swappedStores [.Tuple [.Name x px, .Name y py, .Name z pz] kt pt] (.Tuple [a, b, c] k2 pt2) X.env = pure (some [x, y, z]))
    (hs : swapsWithSole [.Tuple [.Name x px, .Name y py, .Name z pz] kt pt] (.Tuple [a, b, c] k2 pt2) pos.line X.env = pure false := by rfl) :
    PSf X pn W (.Assign [.Tuple [.Name x px, .Name y py, .Name z pz] kt pt] (.Tuple [a, b, c] k2 pt2) pos) (parF [i, j, l] ops) :=
  .mk (ps_par3 hc hN hi hj hl hij hil hjl hx hy hz ha hw hs) (simS_par (ta := taOf X.K ops) hp (simA_of ops) fun E σ H ⟨ρ, ts, ρ', G, F, e, r, q⟩ => ⟨ρ, ts, ρ', G, F, e, r, fun vs G' H' F' M t r' ok n => by
    obtain ⟨hl, q1⟩ := q vs G' H' F' M t r' ok n
    match vs, hl, q1 with
    | [u, v, w], _, q1 => exact ⟨u, v, w, rfl, q1⟩⟩)
end
/-! ### how keywords bind -/
theorem kb_of {K : PySem.W.Frag} {x qual : Str} {st : Stmt} {f : Addr} {fd : FuncData} {ps ks : List Str} {n : Nat} {is : List Nat} (F : Fun K x qual st f fd)
    (h : ∀ (kV doc pm : Value) (an : Option Addr) (cdv ct : Value) (us ws : List Value), us.length = n → ws.length = ks.length → bindArgs (PySem.W.fnOf x qual (defArgs st) (defBody st) (defScope st) .none kV doc pm an cdv ct) ⟨us, ks.zip ws⟩ = pure (ps.zip (permL is (us ++ ws)))) : KB K fd ps n ks is := by
  obtain ⟨oc, od, kV, doc, pm, an, cdv, ct, osl, rfl, lk, hcd⟩ := F.ex
  exact fun s us ws _ h1 h2 => .of_eq (h kV doc pm an cdv ct us ws h1 h2)
/-- the law's call: from the script, whatever the heap -/
def spLaw (K : PySem.W.Frag) : Sp := fun vs H Q _ => ∃ (a : Addr) (ns : List Int), vs = [.ref a] ∧ SqL K H a (ns.map V.int) ∧ ns.length ≤ 63 ∧ ∀ H', Q (.bl true) H'
theorem law_sp {K : PySem.W.Frag} {fn : Fn} (hn : fn.np = 1) (h : ∀ ns : List Int, ns.length ≤ 63 → ∃ os, fn.sem [.scr ns] = some (.bl true, os)) {vs : List V} {H : Hp} {Q : VK} {E : XK} (q : spLaw K vs H Q E) : spOf K fn vs H Q E := by
  obtain ⟨a, ns, rfl, hs, hl, q⟩ := q
  obtain ⟨os, hos⟩ := h ns hl
  refine ⟨H, [.scr ns], [], .bl true, os, Same.refl H, Reps.cons0 (.scr hs) .nil, hn.symm, hos, fun v G' H' P N t ro rv n => ?_⟩
  cases rv
  exact q H'
end VS
set_option Elab.async false
set_option linter.all false
set_option maxRecDepth 100000
namespace VS
open PySem PySem.Spec PyProof.Rows L2 RZ
/-! ### sum, all, any, sorted of whole numbers; in; is of truths -/
def intsOf : List D → Option (List Int)
  | [] => some []
  | .int i :: r => (intsOf r).map (i :: ·)
  | _ :: _ => none
def blsOf : List D → Option (List Bool)
  | [] => some []
  | .bl i :: r => (blsOf r).map (i :: ·)
  | _ :: _ => none
section
variable {K : PySem.W.Frag} {G H : Hp}
theorem Reps.ints : ∀ {vs : List V} {xs : List D} {L : List Addr} {ns : List Int}, Reps K G H vs xs L → intsOf xs = some ns → vs = ns.map V.int ∧ xs = ns.map D.int
  | _, [], _, ns, .nil, e => by cases e; exact ⟨rfl, rfl⟩
  | _, x :: r, _, ns, .cons h hr _, e => by
    cases x with
    | int i =>
      obtain ⟨ms, e1, rfl⟩ := Option.map_eq_some_iff.mp (show (intsOf r).map (i :: ·) = some ns from e)
      cases h
      obtain ⟨h1, h2⟩ := hr.ints e1
      exact ⟨by rw [h1]; rfl, by rw [h2]; rfl⟩
    | _ => cases e
end
theorem intsOf_map (ns : List Int) : intsOf (ns.map D.int) = some ns := by
  induction ns with
  | nil => rfl
  | cons n ns ih => show (intsOf (ns.map D.int)).map (n :: ·) = _; rw [ih]; rfl
def sumD : List D → Option D
  | [.lst _ xs] => (intsOf xs).bind fun ns => some (.int ns.sum)
  | _ => none
def allD : List D → Option D
  | [.lst _ xs] => (blsOf xs).bind fun ns => some (.bl (ns.all id))
  | _ => none
def anyD : List D → Option D
  | [.lst _ xs] => (blsOf xs).bind fun ns => some (.bl (ns.any id))
  | _ => none
def sortI (ns : List Int) : List Int := ns.mergeSort (fun a b => decide (a ≤ b))
def sortedID : List D → Option D
  | [.lst _ xs] => (intsOf xs).bind fun ns => some (.lst true ((sortI ns).map .int))
  | _ => none
section
variable {K : PySem.W.Frag}
/-! is of truths -/
def isBlD : List D → Option D
  | [.bl a, .bl b] => some (.bl (decide (a = b)))
  | _ => none
def notBlD : List D → Option D
  | [.bl a, .bl b] => some (.bl (!decide (a = b)))
  | _ => none
/-! in: of lists (any data), of tuples (flat items) -/
def flatD : D → Bool
  | .non => true
  | .bl _ => true
  | .int _ => true
  | .str _ => true
  | _ => false
def inD (neg : Bool) : List D → Option D
  | [x, .lst o xs] => if eqOk x = true ∧ eqOk (.lst o xs) = true then some (.bl (if neg then !xs.any fun z => deq z x else xs.any fun z => deq z x)) else none
  | [x, .tup xs] => if flatD x = true ∧ xs.all flatD = true then some (.bl (if neg then !xs.any fun z => deq z x else xs.any fun z => deq z x)) else none
  | _ => none
def rInA (K : PySem.W.Frag) : R2 := fun x y H Q => rInD K x y H Q ∨ rIn K false x y H Q
def rNotInA (K : PySem.W.Frag) : R2 := fun x y H Q => rNotInD K x y H Q ∨ rIn K true x y H Q
end
section
variable {X : Cx}
end
end VS
set_option Elab.async false
set_option linter.all false
set_option maxRecDepth 100000
namespace VS
open PySem PySem.Spec PyProof.Rows L2 RZ
/-! ### methods of a list that only read it -/
def isL : Option D → Bool
  | some (.lst _ _) => true
  | _ => false
def methF (i : Nat) (g : List D → Option D) (ops : List Op) : FE := fun ρ => if isL (getS ρ i) = true then opF g (.b i :: ops) ρ else none
def consV (r : V → List V → Hp → VK → Prop) : List V → Hp → VK → Prop := fun vs H Q => match vs with
  | x :: xs => r x xs H Q
  | [] => False
section
variable {K : PySem.W.Frag}
def indexD : List D → Option D
  | [.lst o xs, d] => if eqOk d = true ∧ eqOk (.lst o xs) = true then (xs.findIdx? fun z => deq z d).map fun j => .int (j : Nat) else none
  | _ => none
def clrD : List D → List D → Option (D × List D) := fun xs ds => match ds with
  | [] => if noOwns xs = true then some (.non, []) else none
  | _ => none
end
section
variable {X : Cx} {o e : Expr} {es : List Expr} {i : Nat} {ops : List Op} {o1 : Op} {apos cpos : Pos}
end
/-! ### a < b < c -/
def int1 : List D → Option Int
  | [.int m] => some m
  | _ => none
def int2 : List D → Option (Int × Int)
  | [.int i, .int j] => some (i, j)
  | _ => none
def chainF (p p' : Int → Int → Bool) (o1 o2 o3 : Op) : FE := fun ρ => (evOps [o1, o2] ρ).bind fun P => (fetch [o1, o2] P.1 P.2).bind fun ds => (int2 ds).bind fun ij =>
  if p ij.1 ij.2 = true then (evOps [o3] P.2).bind fun P3 => (fetch [o3] P3.1 P3.2).bind fun es => (int1 es).bind fun m => some (.bl (p' ij.2 m), P3.2) else some (.bl false, P.2)
section
variable {K : PySem.W.Frag}
end
section
variable {X : Cx} {a b c : Expr} {pos : Pos}
end
end VS
namespace VS
open PySem PySem.Spec PyProof.Rows L2 RZ
end VS
set_option Elab.async false
set_option linter.all false
set_option maxRecDepth 100000
namespace VS
open PySem PySem.Spec PyProof.Rows L2 RZ
/-! ### comb -/
def combD : List D → Option D
  | [.int a, .int b] => if 0 ≤ a ∧ 0 ≤ b ∧ a ≤ 18000 then some (.int (PySem.W.mcComb a b)) else none
  | _ => none
def rComb : List V → Hp → VK → Prop := fun xs H Q => ∃ a b : Int, xs = [.int a, .int b] ∧ 0 ≤ a ∧ 0 ≤ b ∧ a ≤ 18000 ∧ Q (.int (PySem.W.mcComb a b)) H
section
variable {X : Cx} {p pos : Pos} {e : Expr} {es : List Expr} {o : Op} {ops : List Op} {x : Str}
end
/-! ### is True, is False, of truths, numbers and None -/
def isBvD : List D → Option D
  | [.bl a, .bl b] => some (.bl (decide (a = b)))
  | [.int _, .bl _] => some (.bl false)
  | [.non, .bl _] => some (.bl false)
  | _ => none
def notBvD : List D → Option D
  | [.bl a, .bl b] => some (.bl (!decide (a = b)))
  | [.int _, .bl _] => some (.bl true)
  | [.non, .bl _] => some (.bl true)
  | _ => none
def rIsBv : R2 := fun x y H Q => rIsB x y H Q ∨ ∃ b : Bool, y = .bl b ∧ (x = .non ∨ ∃ i, x = .int i) ∧ Q (.bl false) H
def rNotBv : R2 := fun x y H Q => rNotB x y H Q ∨ ∃ b : Bool, y = .bl b ∧ (x = .non ∨ ∃ i, x = .int i) ∧ Q (.bl true) H
/-! ### a list that stands in a list -/
section
variable {K : PySem.W.Frag} {G H : Hp}
end
/-- x[j] != [] -/
def neElF (i j : Nat) : FE := fun ρ => match getS ρ i with
  | some (.lst true xs) => match xs[j]? with
    | some (.lst true ys) => if eqOk (.lst true ys) = true then some (.bl (!deq (.lst true ys) (.lst true [])), ρ) else none
    | _ => none
  | _ => none
/-- x[j].pop() -/
def popElF (i j : Nat) : FE := fun ρ => match getS ρ i with
  | some (.lst true xs) => match xs[j]? with
    | some (.lst true ys) => if noOwns ys = true then (popD ys []).bind fun q => some (q.1, ρ.set i (some (.lst true (xs.set j (.lst true q.2))))) else none
    | _ => none
  | _ => none
section
variable {K : PySem.W.Frag}
end
section
variable {X : Cx} {a : Expr} {i j : Nat} {k : Nat} {p1 p2 p3 apos cpos : Pos}
end
end VS
set_option Elab.async false
set_option linter.all false
set_option maxRecDepth 100000
namespace VS
open PySem PySem.Spec PyProof.Rows L2 RZ
/-! ### sum of a tuple -/
section
variable {prog : Program} {w : World} {A : Around} {E : Value → Shared → Prop} {s : Shared} {l : Addr} {xs : Array (Int × Tok)}
end
def rSumT (K : PySem.W.Frag) : List V → Hp → VK → Prop := fun vs H Q => ∃ (a : Addr) (ns : List Int), vs = [V.ref a] ∧ SqT K H a (ns.map V.int) ∧ Q (.int ns.sum) H
def rSumA (K : PySem.W.Frag) : List V → Hp → VK → Prop := fun vs H Q => rSum K vs H Q ∨ rSumT K vs H Q
def sumAD : List D → Option D
  | [.lst _ xs] => (intsOf xs).bind fun ns => some (.int ns.sum)
  | [.tup xs] => (intsOf xs).bind fun ns => some (.int ns.sum)
  | _ => none
/-! ### count of a whole number in a list of such -/
def countF (k : Int) (f : FE) : FE := fun ρ => (f ρ).bind fun p => match p.1 with
  | .lst _ xs => (intsOf xs).bind fun ns => some (.int (ns.count k : Nat), p.2)
  | _ => none
/-! ### a def that is asked, and hands nothing on: what is shown to it stays the caller's -/
def flat1 : D → Bool
  | .non => true
  | .bl _ => true
  | .int _ => true
  | _ => false
def callRdF (fn : Fn) (ops : List Op) : FE := fun ρ => (evOps ops ρ).bind fun p => (fetch ops p.1 p.2).bind fun ds => (fn.sem (freezes ds)).bind fun q => if flat1 q.1 = true then some (q.1, p.2) else none
theorem RepL.frz {K : PySem.W.Frag} {G H : Hp} (s : Same G H) : ∀ {vs : List V} {ds : List D}, RepL K G H vs ds → Reps K H H vs (freezes ds) []
  | _, _, .nil => .nil
  | _, _, .cons h r => by
    have := Reps.cons (h.frz s fun _ _ => rfl) (RepL.frz s r) (fun a ha => nomatch ha)
    exact this
/-! ### x[j][k] = v -/
def tgElF (i j k : Nat) : D → Env → Option Env := fun d ρ => match getS ρ i with
  | some (.lst true xs) => match xs[j]? with
    | some (.lst true ys) => if noOwns ys = true ∧ noOwn d = true ∧ k < ys.length then some (ρ.set i (some (.lst true (xs.set j (.lst true (ys.set k d)))))) else none
    | _ => none
  | _ => none
/-! the rules -/
section
variable {X : Cx} {pn : Nat → Bool} {W : WX} {k : Nat} {f : Addr} {fd : FuncData} {ps : List Str} {fn : Fn} {x : Str} {p pos apos cpos : Pos} {e o a : Expr} {es : List Expr} {o1 : Op} {ops : List Op}
end
end VS
set_option Elab.async false
set_option linter.all false
set_option maxRecDepth 100000
namespace VS
open PySem PySem.Spec PyProof.Rows L2 RZ
/-! ### xs[::-1] -/
def rRevQ (K : PySem.W.Frag) : V → Hp → VK → Prop := fun x H1 Q => ∃ a xs, x = .ref a ∧ SqL K H1 a xs ∧ ∀ p, H1 p = none → Q (.ref p) (upd H1 p (.lst xs.reverse))
def revLD : List D → Option D
  | [.lst _ xs] => if noOwns xs = true then some (.lst true xs.reverse) else none
  | _ => none
section
variable {X : Cx} {e : Expr} {k : Nat} {p1 p2 p3 pos : Pos} {o : Op}
end
end VS
set_option Elab.async false
set_option linter.all false
set_option maxRecDepth 100000
set_option maxHeartbeats 4000000
namespace VS
open PySem PySem.Spec PyProof.Rows L2 RZ
/-! ### tuple * 0, tuple * 1 -/
def rRepT0 (K : PySem.W.Frag) : R2 := fun x y H Q => ∃ l xs, x = .ref l ∧ y = .int 0 ∧ SqT K H l xs ∧ xs ≠ [] ∧ ∀ p, H p = none → Q (.ref p) (upd H p (.tup []))
def rRepT1 (K : PySem.W.Frag) : R2 := fun x y H Q => ∃ l xs, x = .ref l ∧ y = .int 1 ∧ SqT K H l xs ∧ Q (.ref l) H
section
variable {X : Cx}
def rMulT (K : PySem.W.Frag) : R2 := fun x y H Q => rRepT0 K x y H Q ∨ (rRepT1 K x y H Q ∨ rRepT K x y H Q)
end
def mulTD : List D → Option D
  | [.tup xs, .int k] => if noOwns xs = true ∧ xs ≠ [] ∧ 0 ≤ k ∧ k ≤ 1000 ∧ xs.length ≤ 1000 then some (.tup (List.replicate k.toNat xs).flatten) else none
  | _ => none
end VS
set_option Elab.async false
set_option linter.all false
set_option maxRecDepth 100000
namespace VS
open PySem PySem.Spec PyProof.Rows L2 RZ
/-! ### min of two tuples of ints -/
section
variable {prog : Program} {w : World} {A : Around} {R : Result → Shared → Prop} {I S : Addr} {fp wr : List Addr} {P : Nat → Value → Prop} {St : Nat → Heap → Prop}
end
section
variable {prog : Program} {w : World} {A : Around} {E : Value → Shared → Prop} {s : Shared}
end
def rMinT (K : PySem.W.Frag) : List V → Hp → VK → Prop := fun vs H Q => ∃ (a b : Addr) (ns ms : List Int), vs = [V.ref a, V.ref b] ∧ SqT K H a (ns.map V.int) ∧ SqT K H b (ms.map V.int) ∧ Q (if HT.lexLt ms ns = true then .ref b else .ref a) H
def minTD : List D → Option D
  | [.tup xs, .tup ys] => (intsOf xs).bind fun ns => (intsOf ys).bind fun ms => some (if HT.lexLt ms ns = true then .tup ys else .tup xs)
  | _ => none
end VS
set_option Elab.async false
set_option linter.all false
set_option maxRecDepth 100000
namespace VS
open PySem PySem.Spec PyProof.Rows L2 RZ
/-! ### t1 = t2 = e, of a thing that holds no list of its own -/
def asg2F (f : FE) (g1 g2 : D → Env → Option Env) : FS := fun ρ => (f ρ).bind fun p => if noOwn p.1 = true then (g1 p.1 p.2).bind fun ρ1 => (g2 p.1 ρ1).bind fun ρ2 => some (.nx ρ2) else none
section
variable {X : Cx} {e : Expr} {pos : Pos} {pn : Nat → Bool} {W : WX} {K : PySem.W.Frag}
end
end VS
set_option Elab.async false
set_option linter.all false
set_option maxRecDepth 100000
namespace VS
open PySem PySem.Spec PyProof.Rows L2 RZ
/-! ### xs.extend(ys), xs += ys: ys a list of things that own nothing -/
def extD : List D → List D → Option (D × List D) := fun xs ds => match ds with
  | [.lst _ zs] => if noOwns zs = true ∧ xs.length + zs.length ≤ smallL then some (.non, xs ++ zs) else none
  | _ => none
section
variable {K : PySem.W.Frag} {pn : Nat → Bool} {W : WX}
theorem Reps.app {G H : Hp} : ∀ {vs us : List V} {xs zs : List D} {L : List Addr}, Reps K G H vs xs L → Reps K G H us zs [] → Reps K G H (vs ++ us) (xs ++ zs) L
  | _, us, _, zs, _, .nil, h => h
  | _, us, _, zs, _, .cons hv hr n, h => .cons hv (Reps.app hr h) n
end
section
variable {X : Cx} {pn : Nat → Bool} {W : WX} {e : Expr} {pos : Pos}
end
end VS
set_option Elab.async false
set_option linter.all false
set_option maxRecDepth 100000
namespace VS
open PySem PySem.Spec PyProof.Rows L2 RZ
/-! ### sorted(xs), xs tuples of one shape, of any depth -/
def rSortedM (K : PySem.W.Frag) : List V → Hp → VK → Prop := fun vs H Q => ∃ (a : Addr) (ys : List V) (ds : List PyData), vs = [V.ref a] ∧ SqL K H a ys ∧ DpAll K H ys ds ∧ PySem.W.AllAlike ds ∧ (∀ d ∈ ds, ∃ x r, d = .tuple (x :: r)) ∧ (∀ d ∈ ds, d.depth ≤ 60) ∧
  ∀ p, H p = none → Q (.ref p) (upd H p (.lst (((ys.zip ds).mergeSort (PySem.W.dataLe false Prod.snd)).map Prod.fst)))
def tupled : PyData → Bool
  | .tuple (_ :: _) => true
  | _ => false
def shapeOk (ds : List PyData) : Bool := (ds.all fun d => ds.all fun e => PySem.W.alike d e) && (ds.all tupled && ds.all fun d => decide (d.depth ≤ 60))
def sortMD (xs : List D) : List D := xs.mergeSort (PySem.W.dataLe false pyD)
def sortedMD : List D → Option D
  | [.lst _ xs] => if noOwns xs = true ∧ noTys xs = true ∧ shapeOk (pyDs xs) = true then some (.lst true (sortMD xs)) else none
  | _ => none
end VS
set_option Elab.async false
set_option linter.all false
set_option maxRecDepth 100000
namespace VS
open PySem PySem.Spec PyProof.Rows L2 RZ
/-! ### defs with a star parameter: what is left over is a new tuple -/
def spStar (K : PySem.W.Frag) (fn : Fn) (na : Nat) : Sp := fun vs H Q E => ∃ ws rest, vs = ws ++ rest ∧ ws.length = na ∧ rest.length ≤ sizeLine ∧ ∀ p, H p = Option.none → spOf K fn (ws ++ [V.ref p]) (upd H p (.tup rest)) Q E
section
variable {P : Program} {w : World} {K : PySem.W.Frag} {mg : Str → Option Value} {base : Heap}
end
def starD (fn : Fn) (na : Nat) : List D → Option D := fun ds => if noOwns ds = true ∧ na ≤ ds.length ∧ ds.length ≤ smallL then (fn.sem (ds.take na ++ [.tup (ds.drop na)])).bind fun q => if flat1 q.1 = true then some q.1 else none else none
theorem RepL.to0 {K : PySem.W.Frag} {G H : Hp} : ∀ {vs : List V} {ds : List D}, RepL K G H vs ds → noOwns ds = true → Reps K G H vs ds []
  | _, _, .nil, _ => .nil
  | _, _, .cons h r, hn => by
    simp only [noOwns, Bool.and_eq_true] at hn
    have e := h.noL hn.1
    subst e
    exact .cons (L := []) (M := []) h (RepL.to0 r hn.2) (fun a ha => nomatch ha)
section
variable {X : Cx} {k na : Nat} {f : Addr} {fn : Fn} {x : Str} {p pos : Pos} {e : Expr} {es : List Expr} {o : Op} {ops : List Op}
end
end VS
set_option Elab.async false
set_option linter.all false
set_option maxRecDepth 100000
namespace VS
open PySem PySem.Spec PyProof.Rows L2 RZ
/-! ### x[i] op= e, of whole numbers, x a list of its own -/
def elemI : List D → Option D → Option (Int × Int)
  | [.int i], some (.lst true xs) => match atI xs i with
    | some (.int a) => some (i, a)
    | _ => none
  | _, _ => none
def intA1 : List D → Option Int
  | [.int b] => some b
  | _ => none
def augSF (k : Nat) (oi : Op) (f : Int → Int → Int) (o : Op) : FS := fun ρ => (getS ρ k).bind fun _ => (evOps [oi] ρ).bind fun p => (fetch [oi] p.1 p.2).bind fun is => (elemI is (getS p.2 k)).bind fun ix =>
  (evOps [o] p.2).bind fun p2 => (fetch [o] p2.1 p2.2).bind fun ds => (intA1 ds).bind fun b => (tgSub k (.t (litF (.int ix.1))) (.int (f ix.2 b)) p2.2).bind fun ρ' => some (.nx ρ')
section
variable {K : PySem.W.Frag} {pn : Nat → Bool} {W : WX}
end
section
variable {X : Cx} {pn : Nat → Bool} {W : WX} {o i e : Expr} {tpos pos : Pos}
end
end VS
set_option Elab.async false
set_option linter.all false
set_option maxRecDepth 100000
namespace VS
open PySem PySem.Spec PyProof.Rows L2 RZ
/-! ### for x in reversed(xs), reversed(range(..)); a name of the module that holds a tuple of whole numbers -/
def itRev (f : FE) : FI := fun ρ => (f ρ).bind fun p => (seqD p.1).bind fun xs => some (xs.reverse, p.2)
section
variable {K : PySem.W.Frag} {pn : Nat → Bool} {W : WX}
end
section
variable {X : Cx} {tg e : Expr} {p p2 pos pos2 : Pos}
def GTup (K : PySem.W.Frag) (mg : Str → Option Value) (x : Str) (ns : List Int) : Prop := ∃ a, mg x = some (.ref a) ∧ ∀ G H, Rep K G H (.ref a) (.tup (ns.map D.int)) []
end
end VS
set_option Elab.async false
set_option linter.all false
set_option maxRecDepth 100000
namespace VS
open PySem PySem.Spec PyProof.Rows L2 RZ
/-! ### divmod -/
def dvmOk (j : Int) : Bool := decide (j ≠ 0 ∧ j.natAbs.log2 < 9000)
def rDvm : List V → Hp → VK → Prop := fun xs H Q => ∃ i j, xs = [.int i, .int j] ∧ (j ≠ 0 ∧ j.natAbs.log2 < 9000) ∧ ∀ p, H p = none → Q (.ref p) (upd H p (.tup [.int (i.fdiv j), .int (i.fmod j)]))
def dvmD : List D → Option D
  | [.int i, .int j] => if dvmOk j = true then some (.tup [.int (i.fdiv j), .int (i.fmod j)]) else none
  | _ => none
/-! ### any of whole numbers -/
def rAnyI (K : PySem.W.Frag) : List V → Hp → VK → Prop := fun vs H Q => ∃ (a : Addr) (ns : List Int), vs = [V.ref a] ∧ SqL K H a (ns.map V.int) ∧ Q (.bl (ns.any fun n => n != 0)) H
def anyID : List D → Option D
  | [.lst _ xs] => (intsOf xs).bind fun ns => some (.bl (ns.any fun n => n != 0))
  | _ => none
end VS
set_option Elab.async false
set_option linter.all false
set_option maxRecDepth 100000
namespace VS
open PySem PySem.Spec PyProof.Rows L2 RZ
/-! ### a value that is frozen as soon as it is made -/
def frzF (f : FE) : FE := fun ρ => (f ρ).bind fun p => some (freeze p.1, p.2)
section
variable {K : PySem.W.Frag} {X : Cx} {e : Expr}
end
end VS
set_option Elab.async false
set_option linter.all false
set_option maxRecDepth 100000
namespace VS
open PySem PySem.Spec PyProof.Rows L2
/-! ### defs with defaults, and calls that leave them out -/
/-- a def whose defaults are whole numbers -/
abbrev FunDf (K : PySem.W.Frag) (x : Str) (st : Stmt) (dis : List Int) (f : Addr) (fd : FuncData) : Prop := FunD K x x (defArgs st) (defBody st) (defScope st) (dis.map V.int) [] f fd
section
variable {P : Program} {w : World} {K : PySem.W.Frag} {mg : Str → Option Value} {base : Heap}
end
/-! list(the script) -/
def listSD : List D → Option D
  | [.scr ns] => some (.lst true (ns.map .int))
  | _ => none
theorem OpsOk.snoc {K : PySem.W.Frag} {G H : Hp} {σ : L2.St} {i : Int} : ∀ {ops : List Op} {ts : List (Option D)} {vs : List V} {M : List Addr}, OpsOk K G H σ ops ts vs M → OpsOk K G H σ (ops ++ [.t (litF (.int i))]) (ts ++ [some (.int i)]) (vs ++ [V.int i]) M
  | _, _, _, _, .nil => .t (L := []) (.int i) (fun a z => nomatch z) .nil
  | _, _, _, _, .b h r => .b h r.snoc
  | _, _, _, _, .t hr hn r => .t hr hn r.snoc
section
variable {X : Cx} {k : Nat} {f : Addr} {fd : FuncData} {ps : List Str} {fn : Fn} {x : Str} {p pos : Pos} {e : Expr} {es : List Expr} {ops : List Op} {i : Int}
end
/-! ### asked by keywords, nothing handed on -/
def callRdKF (fn : Fn) (is : List Nat) (ops : List Op) : FE := fun ρ => (evOps ops ρ).bind fun p => (fetch ops p.1 p.2).bind fun ds => (fn.sem (permL is (freezes ds))).bind fun q => if flat1 q.1 = true then some (q.1, p.2) else none
section
variable {X : Cx} {k : Nat} {f : Addr} {fd : FuncData} {ps ks : List Str} {fn : Fn} {x : Str} {p pos : Pos} {e : Expr} {es : List Expr} {kws : List Keyword} {ops kops : List Op} {is : List Nat}
end
end VS
set_option Elab.async false
set_option linter.all false
set_option maxRecDepth 100000
namespace VS
open PySem PySem.Spec PyProof.Rows L2
/-! ### what is raised: its class by name, its value, the data behind -/
abbrev RX := Env → Option (Str × D × Env)
section
variable (K : PySem.W.Frag) (W : WX)
def PostXE (σ : L2.St) (G H : Hp) (A : Addr → Prop) (n : Str) (d : D) (ρ' : Env) : Prop := ∀ G' H' F' (C dd : Addr) (v : V), Tr G H A G' H' (own F') → REnv K G' H' σ ρ' F' → ClsAt K n C → G' dd = some (.xd [(("value" : Str), v)]) → Rep K G' H' v d [] → W (.ref C) (some dd) σ H'
def RzAt (g : RX) (σ : L2.St) (H : Hp) : Prop := ∃ ρ n d ρ' G F, g ρ = some (n, d, ρ') ∧ REnv K G H σ ρ F ∧ PostXE K W σ G H (own F) n d ρ'
def teX (g : RX) : TE := fun σ H _ => RzAt K W g σ H
def ttX (g : RX) : TT := fun σ H _ => RzAt K W g σ H
def taX (g : RX) : TA := fun σ H _ => RzAt K W g σ H
def tiX (g : RX) : TI := fun σ H _ => RzAt K W g σ H
def tsX (g : RX) : TS := fun _ σ H => RzAt K W g σ H
end
section
variable (X : Cx) (W : WX)
abbrev PEx (e : Expr) (g : RX) : Prop := PE X e (teX X.K W g)
abbrev PTx (e : Expr) (g : RX) : Prop := PT X e (ttX X.K W g)
abbrev PAx (es : List Expr) (g : RX) : Prop := PA X es (taX X.K W g)
abbrev PIx (tg e : Expr) (g : RX) : Prop := PI X tg e (tiX X.K W g)
abbrev PSx (st : Stmt) (g : RX) : Prop := PS X st (tsX X.K W g)
end
def orR (g h : RX) : RX := fun ρ => match g ρ with
  | some q => some q
  | none => h ρ
def thenR (o : Op) (g : RX) : RX := fun ρ => (evOps [o] ρ).bind fun p => g p.2
def thenT (c : FB) (g h : RX) : RX := fun ρ => (c ρ).bind fun p => if p.1 = true then g p.2 else h p.2
def noR : RX := fun _ => none
/-- a statement, and what it may raise -/
def orX (f : FS) (g : RX) : FS := fun ρ => match f ρ with
  | some o => some o
  | none => (g ρ).bind fun q => some (.rz q.1 q.2.1 q.2.2)
section
variable {K : PySem.W.Frag} {W : WX} {σ : L2.St} {H : Hp}
theorem RzAt.or {g h : RX} (r : RzAt K W (orR g h) σ H) : RzAt K W g σ H ∨ RzAt K W h σ H := by
  obtain ⟨ρ, n, d, ρ', G, F, e, r, q⟩ := r
  unfold orR at e
  cases hg : g ρ with
  | some q0 =>
    rw [hg] at e
    exact .inl ⟨ρ, n, d, ρ', G, F, hg.trans e, r, q⟩
  | none =>
    rw [hg] at e
    exact .inr ⟨ρ, n, d, ρ', G, F, e, r, q⟩
theorem RzAt.no {g : Prop} (r : RzAt K W noR σ H) : g := by
  obtain ⟨ρ, n, d, ρ', G, F, e, r, q⟩ := r
  cases e
theorem PostXE.mono {n : Str} {d : D} {ρ' : Env} {G H G1 H1 : Hp} {A A1 : Addr → Prop} (q : PostXE K W σ G H A n d ρ') (t : Tr G H A G1 H1 A1) : PostXE K W σ G1 H1 A1 n d ρ' :=
  fun G' H' F' C dd v t' r' => q G' H' F' C dd v (t.trans t') r'
end
section
variable {X : Cx} {pn : Nat → Bool} {W : WX} {e a b : Expr} {es : List Expr} {pos : Pos} {g h : RX}
/-! arguments -/
/-! operations -/
/-! tests -/
/-! statements -/
end
end VS
set_option Elab.async false
set_option linter.all false
set_option maxRecDepth 100000
namespace VS
open PySem PySem.Spec PyProof.Rows L2
/-! ### defs that may raise -/
abbrev Rz := List D → Option (Str × D × List (Option D))
def bodyRz (nN np : Nat) (pins : List Bool) (f : FS) : Rz := fun ds =>
  if ds.length = np then match f (ds.map some ++ List.replicate (nN - np) none) with
    | some (.rz n d ρ) => some (n, d, finP pins ρ)
    | _ => none
  else none
def spRz (K : PySem.W.Frag) (np : Nat) (rz : Rz) (vs : List V) (H : Hp) (E : XK) : Prop := ∃ G ds L n d os, Same G H ∧ Reps K G H vs ds L ∧ vs.length = np ∧ rz ds = some (n, d, os) ∧
  ∀ (C dd : Addr) (v : V) G' H' P, Tr G H (fun a => a ∈ L) G' H' (fun a => a ∈ P) → ROs K G' H' vs os P → ClsAt K n C → G' dd = some (.xd [(("value" : Str), v)]) → Rep K G' H' v d [] → E (.ref C) (some dd) H'
/-- the promise of a def that may raise -/
def spX (K : PySem.W.Frag) (fn : Fn) (rz : Rz) : Sp := fun vs H Q E => spOf K fn vs H Q E ∨ spRz K fn.np rz vs H E
section
variable {P : Program} {w : World} {K : PySem.W.Frag} {mg : Str → Option Value} {base : Heap}
end
/-! ### calls that may raise -/
def rzF (pins : List Bool) (rz : Rz) (ops : List Op) : RX := fun ρ => (evOps ops ρ).bind fun p => (fetchC pins ops p.1 p.2).bind fun c => (rz c.1).bind fun q => some (q.1, q.2.1, putB ops c.1 q.2.2 c.2)
def rzKF (pins : List Bool) (rz : Rz) (is : List Nat) (ops : List Op) : RX := fun ρ => (evOps ops ρ).bind fun p => (fetchC pins (permL is ops) (permL is p.1) p.2).bind fun c => (rz c.1).bind fun q => some (q.1, q.2.1, putB (permL is ops) c.1 q.2.2 c.2)
section
variable {K : PySem.W.Frag} {W : WX}
end
section
variable {X : Cx} {W : WX} {k : Nat} {f : Addr} {fd : FuncData} {ps ks : List Str} {fn : Fn} {rz : Rz} {x : Str} {p pos : Pos} {e : Expr} {es : List Expr} {ops kops : List Op} {kws : List Keyword}
end
end VS
set_option Elab.async false
set_option linter.all false
set_option maxRecDepth 100000
namespace VS
open PySem PySem.Spec PyProof.Rows L2
/-! ### MatError's __init__ -/
def spInit (K : PySem.W.Frag) : Sp := fun vs H Q _ => ∃ (a C : Addr) (v : V), vs = [.ref a, v] ∧ OexC K C ∧ PySem.W.findIn K (.ref C) "value" = some none ∧ H a = some (exo a C none) ∧
  ∀ dx, H dx = none → dx ≠ a → Q .non (upd (upd H dx (exd dx [(("value" : Str), v)])) a (exo a C (some dx)))
/-! ### raise C(e) -/
def raiseF (n : Str) (f : FE) : FS := fun ρ => (f ρ).bind fun p => if noOwn p.1 = true then some (.rz n p.1 p.2) else none
/-- what the written part says of an own exception class -/
structure ExT (K : PySem.W.Frag) (mg : Str → Option Value) (n : Str) (C : Addr) : Prop where
  at_ : ClsAt K n C
  mg_ : mg n = some (.ref C)
  oex : OexC K C
  ga : PySem.W.findIn K (.ref C) "__getattribute__" = some (some (.builtin "BaseException.__getattribute__"))
  gg : PySem.W.findIn K (.ref C) "__getattr__" = some none
  no : PySem.W.findIn K (.ref C) "value" = some none
  hd : PySem.W.hasDictIn K C = true
  cl : (PySem.W.clsIn K C).isSome = true
  ha : PySem.W.findIn K (.ref C) "__class__" = some (some (.builtin "object.__class__"))
  hn : PySem.W.specialIn K (.builtin "object.__class__") "__get__" = some (some (.builtin "getset_descriptor.__get__"))
  ht : PySem.W.takesIn K (.builtin "object.__class__") = some true
  hm : PySem.W.mroIn K C (.type "object") = some true
section
variable {X : Cx} {pn : Nat → Bool} {W : WX} {e : Expr} {x : Str} {p pos pos2 : Pos} {C fI : Addr} {fdI : FuncData}
end
/-! ### e.value, isinstance of what was caught -/
def ExN (K : PySem.W.Frag) (mg : Str → Option Value) (ns : List Str) : Prop := ∀ n, n ∈ ns → ∃ C, ExT K mg n C
/-- what is said of the classes with these names -/
def AllC (K : PySem.W.Frag) (ns : List Str) (P : Str → Addr → Prop) : Prop := ∀ n, n ∈ ns → ∀ C, ClsAt K n C → P n C
def subB (n c : Str) : Bool := n == c || c == "MatError" || c == "ValueError" || c == "Exception"
def excValD (ns : List Str) : List D → Option D
  | [.exc n d] => if ns.contains n = true then some d else none
  | _ => none
def rExcVal (K : PySem.W.Frag) : V → Hp → VK → Prop := fun x H Q => ∃ (a C dd : Addr) (v : V), x = .ref a ∧ H a = some (ExV a C dd) ∧ H dd = some (.xd [(("value" : Str), v)]) ∧ XfC K C ∧ PySem.W.findIn K (.ref C) "value" = some none ∧ Q v H
theorem ExN.get {K : PySem.W.Frag} {mg : Str → Option Value} {ns : List Str} {n : Str} {C : Addr} (T : ExN K mg ns) (h : ns.contains n = true) (hC : ClsAt K n C) : ExT K mg n C := by
  obtain ⟨D, h⟩ := T n (by simpa using h)
  have := h.at_
  unfold ClsAt at this hC
  rw [hC] at this
  cases this
  exact h
/-- isinstance(x, c), x None or what was caught -/
def isXD (ns : List Str) (c : Str) : List D → Option D
  | [.exc n _] => if ns.contains n = true then some (.bl (subB n c)) else none
  | [.non] => some (.bl false)
  | _ => none
def rIsX (K : PySem.W.Frag) : List V → Hp → VK → Prop := fun xs H Q => ∃ x c cv, xs = [x, c] ∧ ClsV c cv ∧ ((x = .non ∧ PySem.W.kitOne K (.type "NoneType") cv = some false ∧ Q (.bl false) H) ∨
  ∃ (a C dd : Addr) (mg : Str → Option Value) (n : Str) (fs : List (Str × V)) (b : Bool), x = .ref a ∧ H a = some (ExV a C dd) ∧ H dd = some (.xd fs) ∧ ExT K mg n C ∧ PySem.W.kitOne K (.ref C) cv = some b ∧ Q (.bl b) H)
end VS
set_option Elab.async false
set_option linter.all false
set_option maxRecDepth 100000
set_option maxHeartbeats 2000000
namespace VS
open PySem PySem.Spec PyProof.Rows L2
/-! ### try: body, except c as n: suite, .. -/
/-- a clause: the class, the slot of its name (if it has one), its suite's reading -/
abbrev HdT := Value × Option Nat × (Addr → TS)
def endsOf (D : Ends) : Option Nat → Ends
  | some i => { nx := fun σ' H' => D.nx (σ'.set i none) H', rt := D.rt, bk := fun σ' H' => D.bk (σ'.set i none) H', ct := fun σ' H' => D.ct (σ'.set i none) H' }
  | none => D
def stOf (σ : L2.St) (a : Addr) : Option Nat → L2.St
  | some i => σ.set i (some (.ref a))
  | none => σ
def wTry (K : PySem.W.Frag) (Wout : WX) (D : Ends) : List HdT → WX
  | [] => Wout
  | (c, i, ts) :: r => fun cls d σ H => ∃ C dd, cls = .ref C ∧ d = some dd ∧ ∃ b, PySem.W.exmOne K cls c = some b ∧ (b = true → ∀ a, H a = none → ts a (endsOf D i) (stOf σ a i) (upd H a (ExV a C dd))) ∧ (b = false → wTry K Wout D r cls d σ H)
inductive HdsT (X : Cx) : List ExceptHandler → List HdT → Prop
  | nil : HdsT X [] []
  | as {x n : Str} {c : Value} {i : Nat} {ts : Addr → TS} {b₀ : Stmt} {suite : List Stmt} {np pos' : Pos} {hds : List ExceptHandler} {l : List HdT} (hi : X.N[i]? = some n) (hln : X.env.kindOf n = some .local) (hc : Names X x c)
      (hsu : ∀ (a : Addr) (pn : List (Addr × Obj)), PSs (X.suite a pn) (b₀ :: suite) (ts a)) (r : HdsT X hds l) : HdsT X (.ExceptHandler (some (.Name x np)) (some n) (b₀ :: suite) pos' :: hds) ((c, some i, ts) :: l)
  | only {x : Str} {c : Value} {ts : Addr → TS} {b₀ : Stmt} {suite : List Stmt} {np pos' : Pos} {hds : List ExceptHandler} {l : List HdT} (hc : Names X x c)
      (hsu : ∀ (a : Addr) (pn : List (Addr × Obj)), PSs (X.suite a pn) (b₀ :: suite) (ts a)) (r : HdsT X hds l) : HdsT X (.ExceptHandler (some (.Name x np)) none (b₀ :: suite) pos' :: hds) ((c, none, ts) :: l)
section
variable {X : Cx} {pins : List (Addr × Obj)} {σ : L2.St} {H : Hp} {sI s s' : Shared} {B : Heap}
end
section
variable {X : Cx} {body : List Stmt} {h₀ : ExceptHandler} {hds : List ExceptHandler} {l : List HdT} {pos : Pos} {tb : WX → TS} {Wout : WX}
end
end VS
set_option Elab.async false
set_option linter.all false
set_option maxRecDepth 100000
set_option maxHeartbeats 2000000
namespace VS
open PySem PySem.Spec PyProof.Rows L2
/-! ### a pair is unpacked while an exception is handled -/
section
variable {prog : Program} {w : World} {A : Around} {E : Value → Shared → Prop} {s : Shared}
theorem next_end_hot {it t x1 : Addr} {i : Nat} {items} {Q : Option Value → Shared → Prop} (hot : HotX.HotAt A x1 s.heap) (nx : x1 ≠ it)
    (hit : IsTupIter s.heap it t i) (ht : IsTup s.heap t items) (hx : items[i]? = none)
    (hQ : ∀ h', Heap.ExtBut it s.heap h' → Q none { s with heap := h' }) : wpAny (model prog w) A (pyNext (.ref it)) Q E s := by
  obtain ⟨o, ho, hc, hd⟩ := id hit
  obtain ⟨ol, hol, _, nl, hdl⟩ := ht
  obtain ⟨hh, o1, vs1, h1, d1, c1⟩ := hot
  unfold pyNext
  refine wpAny_bind (wpAny_attempt (wpAny_callSpecial?_slot (name := Str.ofString "__next__") hit.typeIs slot_tupleiter_next
    (wpAny_call_entry slot_tupleiter_next hit.typeIs entry_tupleiter_next ?_ (args_tupleiter_next _))))
  show wpAny _ _ (field (.ref it) 0 >>= _) _ _ s
  refine wpAny_bind (wpAny_field ho hd (x := .ref t) rfl ?_)
  show wpAny _ _ (if (Value.ref t == Value.none) = true then _ else _) _ _ s
  rw [if_neg (show ¬ ((Value.ref t == Value.none) = true) from Bool.false_ne_true)]
  show wpAny _ _ (field (.ref it) 1 >>= _) _ _ s
  refine wpAny_bind (wpAny_field ho hd (x := .int i 0) rfl ?_)
  show wpAny _ _ (seqItems? (.ref t) >>= _) _ _ s
  refine wpAny_bind (wpAny_seqItems hol hdl ?_)
  simp only [Int.toNat_natCast, hx]
  refine wpAny_bind (wpAny_rule (wpAny_bind (wpAny_setField ho hd (by simp) ?_)))
  show wpAny _ _ (newExc (.type "StopIteration") [] >>= _) _ _ _
  refine wpAny_bind ?_
  simp only [newExc, newTuple]
  refine wpAny_bind (wpAny_newObj_type ?_ (by size_fits))
  refine wpAny_bind (m := firstArgMember _ _) (wpAny_of_eq (a := Value.none) (by first | rfl | (simp only [firstArgMember]; rfl)) ?_)
  refine wpAny_newObj_type ?_ (by size_fits)
  have h1' : ∀ f, (s.heap.update it f).get? x1 = some o1 := fun f => (Heap.get?_update_other _ _ (Ne.symm nx)).trans h1
  refine HotX.raiseNew_hot ⟨hh, o1, vs1, Heap.get?_push_of_some _ (Heap.get?_push_of_some _ (h1' _)), d1, c1⟩ (Nat.ne_of_lt (Heap.lt_size (Heap.get?_push_of_some _ (h1' _)))) (Heap.get?_push_size _ rfl) rfl (by first | (simp; done) | (simp; omega) | (simp only [Array.size_append]; simp; omega)) ?_
  refine wpAny_bind (wpAny_isInstance (T := "StopIteration") (b := true) ⟨_, Heap.get?_update_self _ (Heap.get?_push_size _ rfl) rfl, rfl⟩ isSubtype_stop ?_)
  refine wpAny_pure (hQ _ fun b o hb e => ?_)
  have e0 : ∀ f, (s.heap.update it f).get? b = some o := fun f => (Heap.get?_update_other _ _ (Ne.symm hb)).trans e
  rw [Heap.get?_update_other _ _ (Nat.ne_of_gt (Heap.lt_size (Heap.get?_push_of_some _ (e0 _))))]
  exact Heap.get?_push_of_some _ (Heap.get?_push_of_some _ (e0 _))
theorem unpack_hot {t x1 : Addr} {items : Array Value} {Q : List Value → Shared → Prop} (hot : HotX.HotAt A x1 s.heap) (ht : IsTup s.heap t items)
    (hQ : ∀ h', Heap.ExtBut s.heap.objs.size s.heap h' → Q items.toList { s with heap := h' }) : wpAny (model prog w) A (unpackItems (.ref t) items.size none) Q E s := by
  have hlt : t ≠ s.heap.objs.size := by obtain ⟨o, ho, _⟩ := ht; exact Nat.ne_of_lt (Heap.lt_size ho)
  obtain ⟨hh, o1, vs1, h1, d1, c1⟩ := hot
  have nx : x1 ≠ s.heap.objs.size := Nat.ne_of_lt (Heap.lt_size h1)
  unfold unpackItems
  refine wpAny_bind ?_
  · unfold notIterableAtAll
    refine wpAny_bind (wpAny_specialOf ht.typeIs slot_tuple_iter.lookup ?_)
    refine wpAny_pure ?_
    simp only [Bool.false_eq_true, if_false]
    refine wpAny_bind (wpAny_holding (iter_tuple ht ?_))
    refine wpAny_bind (wpAny_holding (draw_tuple hlt items.size 0 _ _ ⟨_, Heap.get?_push_size _ rfl, rfl, rfl⟩ (ht.push _) (by omega) fun h₁ hit₁ hs₁ => ?_))
    rw [show List.take items.size (List.drop 0 items.toList) = items.toList by rw [List.drop_zero]; exact List.take_of_length_le (by simp), if_neg (by simp)]
    have ht₁ : IsTup h₁ t items := (ht.push _).extBut hs₁.extBut hlt
    have h1₁ : h₁.get? x1 = some o1 := hs₁.extBut x1 o1 nx (Heap.get?_push_of_some _ h1)
    refine wpAny_bind (wpAny_holding (next_end_hot (x1 := x1) ⟨hh, o1, vs1, h1₁, d1, c1⟩ nx hit₁ ht₁ (by simp) fun h₂ he₂ => ?_))
    simp only [Option.isSome_none, Bool.false_eq_true, if_false]
    exact wpAny_pure (hQ h₂ fun b o hb e => he₂ b o hb (hs₁.extBut b o hb (Heap.get?_push_of_some _ e)))
end
/-- a, b = x, y in an except suite: the caught exception stands as it was made -/
def tParH (a : Addr) (i j : Nat) (ta : TA) : TS := fun D σ H => ta σ H fun vs H1 => ∃ v w, vs = [v, w] ∧ (∃ C dd, H1 a = some (ExV a C dd)) ∧ D.nx ((σ.set i (some v)).set j (some w)) H1
theorem ps_parH {X : Cx} {a : Addr} {pn : List (Addr × Obj)} {pos : Pos} {i j : Nat} {x y : Str} {e1 e2 : Expr} {ta : TA} {px py pt : Pos} {kt k2 pt2} (hN : X.N.Nodup) (hi : X.N[i]? = some x) (hj : X.N[j]? = some y) (hij : i ≠ j)
    (hx : X.env.scope.names.lookup x = some .local) (hy : X.env.scope.names.lookup y = some .local) (ha : PA (X.suite a pn) [e1, e2] ta)
    (hw : swappedStores [.Tuple [.Name x px, .Name y py] kt pt] (.Tuple [e1, e2] k2 pt2) X.env = pure (some [x, y]))
    (hs : swapsWithSole [.Tuple [.Name x px, .Name y py] kt pt] (.Tuple [e1, e2] k2 pt2) pos.line X.env = pure false) :
    PS (X.suite a pn) (.Assign [.Tuple [.Name x px, .Name y py] kt pt] (.Tuple [e1, e2] k2 pt2) pos) (tParH a i j ta) := by
  refine ⟨fun pins s σ H D I h => ?_⟩
  rw [exec_Assign_arm]
  refine wpAny_bind (wpAny_standAt ?_)
  rw [show swapsWithSole [.Tuple [.Name x px, .Name y py] kt pt] (.Tuple [e1, e2] k2 pt2) pos.line (X.suite a pn).env = pure false from hs]
  refine wpAny_bind (wpAny_pure ?_)
  rw [if_neg (by decide)]
  refine wpAny_bind (Tuple_ (thn (ha.run _ pins s σ H _ I h) fun us s1 ⟨vs, H1, I1, r1, q1⟩ => ?_))
  obtain ⟨v, w, ev, ⟨C, dd, hx1⟩, q1⟩ := q1
  subst ev
  obtain ⟨u1, u2, rfl, rv, rw'⟩ : ∃ u1 u2, us = [u1, u2] ∧ RelV v u1 ∧ RelV w u2 := by
    cases r1 with
    | cons p q =>
      cases q with
      | cons p' q' =>
        cases q'
        exact ⟨_, _, rfl, p, p'⟩
  refine wpAny_newObj_type ?_ (by show 2 ≤ sizeLine; decide)
  have I2 : Inv (X.suite a pn) pins σ H1 { s1 with heap := s1.heap.push { cls := .type "tuple", data := .seq [u1, u2].toArray } } := I1.kept (t' := s1.toks) fun b o e => Heap.get?_push_of_some _ e
  have hot : HotX.HotAt (X.suite a pn).A a (s1.heap.push { cls := .type "tuple", data := .seq [u1, u2].toArray }) := by
    obtain ⟨⟨oe, vs, ge, z, d⟩, _⟩ := I2.hok a _ hx1
    exact ⟨rfl, oe, vs, ge, d, z.2.2 vs d⟩
  rw [show swappedStores [.Tuple [.Name x px, .Name y py] kt pt] (.Tuple [e1, e2] k2 pt2) (X.suite a pn).env = pure (some [x, y]) from hw]
  refine wpAny_bind (wpAny_pure ?_)
  show wpAny (model X.prog X.w) (X.suite a pn).A (do rule "assign.swapped-stores"; let items ← unpackItems (.ref s1.heap.objs.size) 2 none; assignInOrder [fun v => bindName X.env y v, fun v => bindName X.env x v] items.reverse; pure Flow.next) _ _ _
  refine wpAny_bind (wpAny_rule (wpAny_bind (unpack_hot (items := #[u1, u2]) hot (IsTup.new s1.heap _) fun h' hx' => ?_)))
  have I3 := I2.kept (h' := h') (t' := s1.toks) fun b o e => hx' b o (Nat.ne_of_lt (Heap.lt_size e)) e
  show wpAny _ _ (assignInOrder [fun v => bindName X.env y v, fun v => bindName X.env x v] [u2, u1] >>= fun _ => pure Flow.next) _ _ _
  refine wpAny_bind (assignInOrder_cons (wpAny_bindName (store_ok (X := X.suite a pn) I3 hN hj (.inl hy) rw' (fun s2 I4 => ?_) (.inr hy))))
  refine assignInOrder_cons (wpAny_bindName (store_ok (X := X.suite a pn) I4 hN hi (.inl hx) rv (fun s3 I5 => assignInOrder_nil (wpAny_pure ?_)) (.inr hx)))
  rw [List.set_comm _ _ (Ne.symm hij)] at I5
  exact ⟨_, H1, I5, q1⟩
end VS
set_option Elab.async false
set_option linter.all false
set_option maxRecDepth 100000
namespace VS
open PySem PySem.Spec PyProof.Rows L2
/-! ### try by its data: a clause: its class's name, the slot of its name, its suite -/
abbrev HdF := Str × Option Nat × FS
def clrO (i : Option Nat) : Out → Option Out
  | .nx ρ => some (.nx (match i with | some i => ρ.set i none | none => ρ))
  | .bk ρ => some (.bk (match i with | some i => ρ.set i none | none => ρ))
  | .ct ρ => some (.ct (match i with | some i => ρ.set i none | none => ρ))
  | .rt d ρ => some (.rt d ρ)
  | .rz _ _ _ => none
def putE (ρ : Env) (n : Str) (d : D) : Option Nat → Env
  | some i => ρ.set i (some (.exc n d))
  | none => ρ
def goHd (ns : List Str) (n : Str) (d : D) (ρ : Env) : List HdF → Option Out
  | [] => some (.rz n d ρ)
  | (c, i, f) :: r => if ns.contains n = true then (if subB n c = true then (f (putE ρ n d i)).bind (clrO i) else goHd ns n d ρ r) else none
def tryF (ns : List Str) (body : FS) (hs : List HdF) : FS := fun ρ => (body ρ).bind fun o => match o with
  | .rz n d ρ1 => goHd ns n d ρ1 hs
  | o => some o
def tryT (tb : WX → TS) (K : PySem.W.Frag) (Wout : WX) (l : List HdT) : TS := fun D σ H => tb (wTry K Wout D l) D σ H
section
variable {K : PySem.W.Frag} {pn : Nat → Bool} {W : WX}
/-- a suite's reading: the caught exception stands frozen at a -/
def SimH (K : PySem.W.Frag) (pn : Nat → Bool) (a : Addr) (ts : TS) (f : FS) : Prop := ∀ ρ o, f ρ = some o → ∀ (σ : L2.St) (G H : Hp) (F : Nat → List Addr), REnv K G H σ ρ F → (∃ C dd, G a = some (ExV a C dd)) → ∀ E : Ends, Post K pn noW σ G H (own F) E o → ts E σ H
theorem SimH.of {a : Addr} {ts : TS} {f : FS} (h : SimS K pn noW ts f) : SimH K pn a ts f := fun ρ o e σ G H F r _ E q => h ρ o e σ G H F r E q
inductive HdS (K : PySem.W.Frag) (pn : Nat → Bool) (ns : List Str) : List HdT → List HdF → Prop
  | nil : HdS K pn ns [] []
  | cons {c : Str} {cv : Value} {i : Option Nat} {ts : Addr → TS} {f : FS} {l : List HdT} {hs : List HdF} (hi : ∀ j, i = some j → pn j = false) (hx : AllC K ns fun n C => PySem.W.exmOne K (.ref C) cv = some (subB n c)) (h : ∀ a, SimH K pn a (ts a) f) (r : HdS K pn ns l hs) : HdS K pn ns ((cv, i, ts) :: l) ((c, i, f) :: hs)
end
/-- the clauses by their text -/
inductive HdP (X : Cx) (pn : Nat → Bool) (ns : List Str) : List ExceptHandler → List HdF → Prop
  | nil : HdP X pn ns [] []
  | as {x n c : Str} {cv : Value} {i : Nat} {f : FS} {b₀ : Stmt} {suite : List Stmt} {np pos' : Pos} {hds : List ExceptHandler} {hs : List HdF} (hi : X.N[i]? = some n) (hln : X.env.kindOf n = some .local) (hp : pn i = false) (hc : Names X x cv) (hx : AllC X.K ns fun n C => PySem.W.exmOne X.K (.ref C) cv = some (subB n c))
      (hsu : ∀ (a : Addr) (pn' : List (Addr × Obj)), PSsf (X.suite a pn') pn noW (b₀ :: suite) f) (r : HdP X pn ns hds hs) : HdP X pn ns (.ExceptHandler (some (.Name x np)) (some n) (b₀ :: suite) pos' :: hds) ((c, some i, f) :: hs)
  | asPar {x n c u v : Str} {cv : Value} {i j l : Nat} {ops : List Op} {e1 e2 : Expr} {px py pt np pos' pos : Pos} {kt k2 pt2} {hds : List ExceptHandler} {hs' : List HdF} (hN : X.N.Nodup) (hi : X.N[i]? = some n) (hln : X.env.kindOf n = some .local) (hp : pn i = false) (hc : Names X x cv) (hx : AllC X.K ns fun n C => PySem.W.exmOne X.K (.ref C) cv = some (subB n c))
      (hj : X.N[j]? = some u) (hl : X.N[l]? = some v) (hjl : j ≠ l) (hpp : ∀ k ∈ [j, l], pn k = false) (hu : X.env.scope.names.lookup u = some .local) (hv : X.env.scope.names.lookup v = some .local)
      (ha : ∀ (a : Addr) (pn' : List (Addr × Obj)), PAf (X.suite a pn') [e1, e2] ops)
      (hw : swappedStores [.Tuple [.Name u px, .Name v py] kt pt] (.Tuple [e1, e2] k2 pt2) X.env = pure (some [u, v]))
      (hs : swapsWithSole [.Tuple [.Name u px, .Name v py] kt pt] (.Tuple [e1, e2] k2 pt2) pos.line X.env = pure false)
      (r : HdP X pn ns hds hs') : HdP X pn ns (.ExceptHandler (some (.Name x np)) (some n) [.Assign [.Tuple [.Name u px, .Name v py] kt pt] (.Tuple [e1, e2] k2 pt2) pos] pos' :: hds) ((c, some i, parF [j, l] ops) :: hs')
  | only {x c : Str} {cv : Value} {f : FS} {b₀ : Stmt} {suite : List Stmt} {np pos' : Pos} {hds : List ExceptHandler} {hs : List HdF} (hc : Names X x cv) (hx : AllC X.K ns fun n C => PySem.W.exmOne X.K (.ref C) cv = some (subB n c))
      (hsu : ∀ (a : Addr) (pn' : List (Addr × Obj)), PSsf (X.suite a pn') pn noW (b₀ :: suite) f) (r : HdP X pn ns hds hs) : HdP X pn ns (.ExceptHandler (some (.Name x np)) none (b₀ :: suite) pos' :: hds) ((c, none, f) :: hs)
theorem SimH.par {K : PySem.W.Frag} {pn : Nat → Bool} {a : Addr} {i j : Nat} {ops : List Op} (hp : ∀ k ∈ [i, j], pn k = false) : SimH K pn a (tParH a i j (taOf K ops)) (parF [i, j] ops) := by
  intro ρ o e σ G H F r ⟨C, dd, hG⟩ E q
  unfold parF at e
  cases he : evOps ops ρ with
  | none => rw [he] at e; cases e
  | some p =>
    obtain ⟨ts, ρ1⟩ := p
    rw [he] at e
    have e1 : (takeN ops ts ρ1).bind (fun ds => if ds.length = [i, j].length then some (Out.nx (setAll [i, j] ds ρ1)) else none) = some o := e
    cases htk : takeN ops ts ρ1 with
    | none => rw [htk] at e1; cases e1
    | some ds =>
      rw [htk] at e1
      have e2 : (if ds.length = [i, j].length then some (Out.nx (setAll [i, j] ds ρ1)) else none) = some o := e1
      split at e2
      · rename_i hl
        cases e2
        refine simA_of ops ρ ts ρ1 he σ G H F r _ fun vs G1 H1 F1 M t1 r1 ok n1 => ?_
        have rs := ok.take r1 htk
        obtain ⟨F2, r2, s2, p2⟩ := setAll_ok (is := [i, j]) hp r1 rs n1
        have hv : vs.length = 2 := rs.length.trans hl
        match vs, hv, r2, p2 with
        | [v, w], _, r2, p2 => exact ⟨v, w, rfl, ⟨C, dd, t1.sub a _ (t1.g a _ hG)⟩, q _ G1 H1 F2 (t1.post s2) r2 p2⟩
      · cases e2
theorem HdP.go {X : Cx} {pn : Nat → Bool} {ns : List Str} : ∀ {hds : List ExceptHandler} {hs : List HdF}, HdP X pn ns hds hs → ∃ l, HdsT X hds l ∧ HdS X.K pn ns l hs
  | _, _, .nil => ⟨[], .nil, .nil⟩
  | _, _, .as hi hln hp hc hx hsu r => by
    obtain ⟨l, a, b⟩ := r.go
    exact ⟨_, .as (ts := fun _ => tsOf X.K pn noW _) hi hln hc hsu a, .cons (fun j e => by cases e; exact hp) hx (fun _ => .of (simS_of _)) b⟩
  | _, _, .asPar hN hi hln hp hc hx hj hl hjl hpp hu hv ha hw hs r => by
    obtain ⟨l, a, b⟩ := r.go
    exact ⟨_, .as (ts := fun a => tParH a _ _ (taOf X.K _)) hi hln hc (fun a pn' => pss_one (ps_parH hN hj hl hjl hu hv (ha a pn') hw hs)) a, .cons (fun j e => by cases e; exact hp) hx (fun a => .par hpp) b⟩
  | _, _, .only hc hx hsu r => by
    obtain ⟨l, a, b⟩ := r.go
    exact ⟨_, .only (ts := fun _ => tsOf X.K pn noW _) hc hsu a, .cons (fun j e => by cases e) hx (fun _ => .of (simS_of _)) b⟩
end VS
set_option Elab.async false
set_option linter.all false
set_option maxRecDepth 100000
namespace VS
open PySem PySem.Spec PyProof.Rows L2
section
variable {X : Cx} {pn : Nat → Bool} {W : WX} {e a b : Expr} {es : List Expr} {pos : Pos} {g h : RX}
end
/-! ### isinstance of what was caught, by a tuple of classes -/
def tCs : List V → TA
  | [] => tNil
  | v :: r => tCons (tC v) (tCs r)
def isXTD (ns : List Str) (cs : List Str) : List D → Option D
  | [.exc n _] => if ns.contains n = true then some (.bl (cs.any (subB n))) else none
  | [.non] => some (.bl false)
  | _ => none
def rIsXT (K : PySem.W.Frag) : List V → Hp → VK → Prop := fun xs H Q => ∃ (x : V) (tp : Addr) (cs : List V) (us : List Value), xs = [x, .ref tp] ∧ H tp = some (.tup cs) ∧ Paired ClsV cs us ∧ ((x = .non ∧ PySem.W.kitAny K (.type "NoneType") us = some false ∧ Q (.bl false) H) ∨
  ∃ (a C dd : Addr) (mg : Str → Option Value) (n : Str) (fs : List (Str × V)) (b : Bool), x = .ref a ∧ H a = some (ExV a C dd) ∧ H dd = some (.xd fs) ∧ ExT K mg n C ∧ PySem.W.kitAny K (.ref C) us = some b ∧ Q (.bl b) H)
end VS
set_option Elab.async false
set_option linter.all false
set_option maxRecDepth 100000
namespace VS
open PySem PySem.Spec PyProof.Rows L2
/-! ### e.index(x), e any list -/
def isLq : Option (D × Env) → Bool
  | some (.lst _ _, _) => true
  | _ => false
def methTF (f : FE) (g : List D → Option D) (ops : List Op) : FE := fun ρ => if isLq (f ρ) = true then opF g (.t f :: ops) ρ else none
section
variable {X : Cx} {W : WX} {o e : Expr} {es : List Expr} {f : FE} {g : RX} {ops : List Op} {apos cpos : Pos}
end
end VS
set_option Elab.async false
set_option linter.all false
namespace VS
open PySem PySem.Spec PyProof.Rows L2
/-! ### sorted(xs), also of one thing or none -/
def rSortedN (K : PySem.W.Frag) : List V → Hp → VK → Prop := fun vs H Q => rSortedM K vs H Q ∨ ∃ (a : Addr) (ys : List V), vs = [V.ref a] ∧ SqL K H a ys ∧ ys.length ≤ 1 ∧ ∀ p, H p = none → Q (.ref p) (upd H p (.lst ys))
def sortedND : List D → Option D
  | [.lst o xs] => if xs.length ≤ 1 then (if noOwns xs = true then some (.lst true xs) else none) else sortedMD [.lst o xs]
  | _ => none
end VS
set_option Elab.async false
set_option linter.all false
set_option maxRecDepth 100000
namespace VS
open PySem PySem.Spec PyProof.Rows L2
/-! ### a dict of whole numbers, in a slot -/
def valI (kvs : List (Int × Int)) (k : Int) : Option Int := (kvs.find? fun p => decide (p.1 = k)).map (·.2)
def putI (kvs : List (Int × Int)) (k v : Int) : List (Int × Int) := if (kvs.any fun p => decide (p.1 = k)) = true then kvs.map (fun p => if p.1 = k then (p.1, v) else p) else kvs ++ [(k, v)]
def dropI (kvs : List (Int × Int)) (k : Int) : List (Int × Int) := kvs.filter fun p => decide (p.1 ≠ k)
section
variable {K : PySem.W.Frag} {pn : Nat → Bool}
/-- {} -/
def dctF : FE := fun ρ => some (.dct true [], ρ)
/-- d[k] -/
def dgetD : List D → Option D
  | [.dct _ kvs, .int k] => (valI kvs k).map D.int
  | _ => none
/-- d[k] = v -/
def rSetDK : V → V → V → Hp → (Hp → Prop) → Prop := fun o i v H Q => ∃ p kvs k, o = .ref p ∧ i = kV k ∧ H p = some (.dK kvs) ∧ kvs.length < sizeLine ∧ Q (upd H p (.dK (putK kvs k v)))
def dputAt (ρ : Env) (k : Nat) (d : D) (ds : List D) : Option Env := match d, ds, getS ρ k with
  | .int v, [.int i], some (.dct true kvs) => if kvs.length < smallL then some (ρ.set k (some (.dct true (putI kvs i v)))) else none
  | _, _, _ => none
def tgPut (k : Nat) (oi : Op) : D → Env → Option Env := fun d ρ => (getS ρ k).bind fun _ => (evOps [oi] ρ).bind fun p => (fetch [oi] p.1 p.2).bind fun ds => dputAt p.2 k d ds
/-- d.pop(k) -/
def dpopAt (ρ : Env) (k : Nat) (ds : List D) : Option (D × Env) := match ds, getS ρ k with
  | [.int i], some (.dct true kvs) => (valI kvs i).bind fun v => some (.int v, ρ.set k (some (.dct true (dropI kvs i))))
  | _, _ => none
def dpopF (k : Nat) (oi : Op) : FE := fun ρ => match getS ρ k with
  | some (.dct true _) => (evOps [oi] ρ).bind fun p => (fetch [oi] p.1 p.2).bind fun ds => dpopAt p.2 k ds
  | _ => none
/-- d.get(k, x) -/
def dget2At (ρ : Env) (k : Nat) (ds : List D) : Option (D × Env) := match ds, getS ρ k with
  | [.int i, .int z], some (.dct _ kvs) => some (.int ((valI kvs i).getD z), ρ)
  | _, _ => none
def dget2F (k : Nat) (o1 o2 : Op) : FE := fun ρ => match getS ρ k with
  | some (.dct _ _) => (evOps [o1, o2] ρ).bind fun p => (fetch [o1, o2] p.1 p.2).bind fun ds => dget2At p.2 k ds
  | _ => none
end
section
variable {X : Cx} {pn : Nat → Bool} {a b e f : Expr} {apos cpos pos : Pos}
end
end VS
set_option Elab.async false
set_option linter.all false
set_option maxRecDepth 100000
namespace VS
open PySem PySem.Spec PyProof.Rows L2
/-! ### (a, b, ..) = a tuple, or a list that is read -/
def tgU (n : Nat) (gs : List D → Env → Option Env) : D → Env → Option Env := fun d ρ => match d with
  | .tup xs => if xs.length = n then gs xs ρ else none
  | .lst false xs => if xs.length = n then gs xs ρ else none
  | _ => none
def gU (K : PySem.W.Frag) (n : Nat) (t : TGs) : TG := fun v σ H Q => gTup K n t v σ H Q ∨ gUnl K n t v σ H Q
section
variable {K : PySem.W.Frag} {pn : Nat → Bool}
end
section
variable {X : Cx} {pn : Nat → Bool} {es : List Expr} {k n : Nat} {pos : Pos}
end
end VS
set_option Elab.async false
set_option linter.all false
set_option maxRecDepth 100000
namespace VS
open PySem PySem.Spec PyProof.Rows L2 RZ
/-! ### gcd -/
def gcdD : List D → Option D
  | [.int a, .int b] => some (.int ((Nat.gcd a.natAbs b.natAbs : Nat) : Int))
  | _ => none
section
variable {X : Cx} {p pos : Pos} {e : Expr} {es : List Expr} {o : Op} {ops : List Op} {x : Str}
end
/-! ### e.count(x), whole numbers -/
def cntD : List D → Option D
  | [.lst _ xs, .int k] => (intsOf xs).bind fun ns => some (.int (ns.count k : Nat))
  | _ => none
section
variable {X : Cx} {W : WX} {o e : Expr} {es : List Expr} {f : FE} {g : RX} {ops : List Op} {apos cpos : Pos}
end
end VS
set_option Elab.async false
set_option linter.all false
set_option maxRecDepth 100000
namespace VS
open PySem PySem.Spec PyProof.Rows L2 RZ
end VS
set_option Elab.async false
set_option linter.all false
set_option maxRecDepth 100000
namespace VS
open PySem PySem.Spec PyProof.Rows L2 RZ
/-! ### a & 1, a >>= 1, min and max of a list -/
def bandD : List D → Option D
  | [.int a, .int b] => if 0 ≤ a ∧ b = 1 then some (.int (a % 2)) else none
  | _ => none
def rOdd : R2 := fun x y H Q => ∃ n : Nat, x = .int (n : Int) ∧ y = .int 1 ∧ Q (.int ((n % 2 : Nat) : Int)) H
def ishrD : List D → Option D
  | [.int a, .int b] => if b = 1 then some (.int (a / 2)) else none
  | _ => none
def minIs : List Int → Option Int
  | [] => none
  | a :: r => match minIs r with | none => some a | some b => some (if b < a then b else a)
def maxIs : List Int → Option Int
  | [] => none
  | a :: r => match maxIs r with | none => some a | some b => some (if a < b then b else a)
def min1D : List D → Option D
  | [.lst _ xs] => (intsOf xs).bind fun ns => (minIs ns).map D.int
  | _ => none
def max1D : List D → Option D
  | [.lst _ xs] => (intsOf xs).bind fun ns => (maxIs ns).map D.int
  | _ => none
section
variable {K : PySem.W.Frag}
theorem vok_band : VOk K (r2L rOdd) bandD := by
  intro G H vs ds d s rl e Q q
  unfold bandD at e
  split at e
  · obtain ⟨v, u, L, M, rfl, r1, r2⟩ := rl.two
    split at e
    · rename_i a b hz
      cases e; cases r1; cases r2
      obtain ⟨h0, rfl⟩ := hz
      refine ⟨a.toNat, by rw [Int.toNat_of_nonneg h0], rfl, ?_⟩
      have : ((a.toNat % 2 : Nat) : Int) = a % 2 := by omega
      rw [this]
      exact fin0 s (.int _) q
    · cases e
  · cases e
theorem op_bandA {X : Cx} : OpR X (binaryOp .BitAnd) rOdd := op_odd
theorem ip_shr {X : Cx} : PIp X .RShift (fun x y H Q => ∃ i : Int, x = .int i ∧ y = .int 1 ∧ Q (.int (i / 2)) H) := fun pins s σ H x y v u Q I r1 r2 h => iop_halfI pins s σ H x y v u Q I r1 r2 h
theorem vok_ishr : VOk K (fun vs H Q => match vs with | [x, y] => ∃ i : Int, x = .int i ∧ y = .int 1 ∧ Q (.int (i / 2)) H | _ => False) ishrD := by
  intro G H vs ds d s rl e Q q
  unfold ishrD at e
  split at e
  · obtain ⟨v, u, L, M, rfl, r1, r2⟩ := rl.two
    split at e
    · rename_i hz
      cases e; cases r1; cases r2
      subst hz
      exact ⟨_, rfl, rfl, fin0 s (.int _) q⟩
    · cases e
  · cases e
end
/-! ### first, *others = a list that is read -/
def gStar (K : PySem.W.Frag) (t : TGs) : TG := fun v σ H Q => ∃ a x xs, v = .ref a ∧ SqL K H a (x :: xs) ∧ xs.length ≤ 16000 ∧ ∀ p, H p = none → t [x, .ref p] σ (upd H p (.lst xs)) Q
section
variable {X : Cx} {pos : Pos}
end
def tgStar (gs : List D → Env → Option Env) : D → Env → Option Env := fun d ρ => match d with
  | .lst false (x :: xs) => if xs.length ≤ 16000 then gs [x, .lst true xs] ρ else none
  | _ => none
section
variable {K : PySem.W.Frag} {pn : Nat → Bool}
end
end VS
set_option Elab.async false
set_option linter.all false
set_option maxRecDepth 100000
namespace VS
open PySem PySem.Spec PyProof.Rows L2 RZ
/-! ### while (x := e) op b: .. -/
def walF (i : Nat) (f : FE) (fb : FB) : FB := fun ρ => (f ρ).bind fun p => fb (p.2.set i (some p.1))
def SimTw (K : PySem.W.Frag) (pn : Nat → Bool) (tt : TTw) (f : FB) : Prop := ∀ ρ b ρ', f ρ = some (b, ρ') → ∀ (σ : L2.St) (G H : Hp) (F : Nat → List Addr), REnv K G H σ ρ F → ∀ Q : Bool → L2.St → Hp → Prop,
  (∀ σ' G' H' F', Tr G H (own F) G' H' (own F') → REnv K G' H' σ' ρ' F' → Pin pn σ σ' → Q b σ' H') → tt σ H Q
section
variable {K : PySem.W.Frag} {pn : Nat → Bool} {W : WX}
end
section
variable {X : Cx} {pn : Nat → Bool} {W : WX} {e b : Expr} {pos pos3 p1 p2 : Pos}
end
section
variable {X : Cx} {pn : Nat → Bool} {es : List Expr} {pos : Pos} {e : Expr}
end
end VS
set_option Elab.async false
set_option linter.all false
set_option maxRecDepth 100000
namespace VS
open PySem PySem.Spec PyProof.Rows L2 RZ
/-! ### a def that is asked and hands on tuples alone: what is shown to it stays the caller's -/
mutual
def pureT : D → Bool
  | .tup xs => pureTs xs
  | .lst _ _ => false
  | .dct _ _ => false
  | .scr _ => false
  | .exc _ _ => false
  | _ => true
def pureTs : List D → Bool
  | [] => true
  | x :: r => pureT x && pureTs r
end
section
variable {K : PySem.W.Frag}
mutual
theorem Rep.pure {G H G' H' : Hp} (k : ∀ a vs, SqT K G a vs → SqT K G' a vs) {v : V} {d : D} {L : List Addr} (h : pureT d = true) (r : Rep K G H v d L) : Rep K G' H' v d [] := by
  cases r with
  | non => exact .non
  | bl b => exact .bl b
  | int i => exact .int i
  | str s => exact .str s
  | ty n => exact .ty n
  | tup h1 r => exact .tup (k _ _ h1) (Reps.pure k h r)
  | scr h1 => cases h
  | exc h1 h2 h3 r => cases h
  | lstS h1 r e => cases h
  | lstO h1 h2 h3 r => cases h
  | dctS h1 => cases h
  | dctO h1 h2 => cases h
theorem Reps.pure {G H G' H' : Hp} (k : ∀ a vs, SqT K G a vs → SqT K G' a vs) {vs : List V} {ds : List D} {L : List Addr} (h : pureTs ds = true) (r : Reps K G H vs ds L) : Reps K G' H' vs ds [] := by
  cases r with
  | nil => exact .nil
  | cons h1 r1 n =>
    have h : (pureT _ && pureTs _) = true := h
    rw [Bool.and_eq_true] at h
    exact Reps.cons0 (Rep.pure k h.1 h1) (Reps.pure k h.2 r1)
end
open Classical in
/-- what may be owned is frozen -/
noncomputable def gFrz (G H : Hp) : Hp := fun a => if G a = none then (if ∃ o, H a = some o ∧ LD o then H a else none) else G a
/-- the caller's view behind the call -/
def gBack (G1 H1 G' : Hp) : Hp := fun a => match H1 a with
  | none => G' a
  | some _ => G1 a
def callRtF (fn : Fn) (ops : List Op) : FE := fun ρ => (evOps ops ρ).bind fun p => (fetch ops p.1 p.2).bind fun ds => (fn.sem (freezes ds)).bind fun q => if pureT q.1 = true then some (q.1, p.2) else none
def callRtKF (fn : Fn) (is : List Nat) (ops : List Op) : FE := fun ρ => (evOps ops ρ).bind fun p => (fetch ops p.1 p.2).bind fun ds => (fn.sem (permL is (freezes ds))).bind fun q => if pureT q.1 = true then some (q.1, p.2) else none
end
section
variable {X : Cx} {pn : Nat → Bool} {W : WX} {k : Nat} {f : Addr} {fd : FuncData} {ps ks : List Str} {fn : Fn} {x : Str} {p pos : Pos} {e : Expr} {es : List Expr} {kws : List Keyword} {ops kops : List Op} {is : List Nat}
end
end VS
set_option Elab.async false
set_option linter.all false
set_option maxRecDepth 100000
namespace VS
open PySem PySem.Spec PyProof.Rows L2 RZ
/-! ### xs[a:c] = a list made for it -/
def slPut (ρ : Env) (k : Nat) (d : D) : List D → Option D → Option Env
  | [.int a, .int c], some (.lst true xs) => match d with
    | .lst true ys => if 0 ≤ a ∧ a ≤ c ∧ c ≤ (xs.length : Int) ∧ noOwns xs = true ∧ noOwns ys = true ∧ xs.length + ys.length ≤ smallL then some (ρ.set k (some (.lst true (xs.take a.toNat ++ ys ++ xs.drop c.toNat)))) else none
    | _ => none
  | _, _ => none
def tgSlS (k : Nat) (o1 o2 : Op) : D → Env → Option Env := fun d ρ => match getS ρ k with
  | none => none
  | some _ => (evOps [o1, o2] ρ).bind fun p => (fetch [o1, o2] p.1 p.2).bind fun ds => slPut p.2 k d ds (getS p.2 k)
def gSlS (to : TE) (tl th : TE) : TG := fun v σ H Q => to σ H fun o H1 => tl σ H1 fun l H2 => th σ H2 fun u H3 => ∃ x b xs ys a c, o = .ref x ∧ v = .ref b ∧ l = .int a ∧ u = .int c ∧ H3 x = some (.lst xs) ∧ H3 b = some (.lst ys) ∧ x ≠ b ∧ 0 ≤ a ∧ a ≤ c ∧ c ≤ (xs.length : Int) ∧ xs.length + ys.length ≤ sizeLine ∧ Q σ (upd H3 x (.lst (xs.take a.toNat ++ ys ++ xs.drop c.toNat)))
section
variable {X : Cx} {o lo hi : Expr} {to tl th : TE} {pos p2 : Pos}
end
section
variable {K : PySem.W.Frag} {pn : Nat → Bool}
end
section
variable {X : Cx} {pn : Nat → Bool} {o lo hi : Expr} {pos p2 : Pos}
end
end VS
set_option Elab.async false
set_option linter.all false
namespace L2
open PySem PySem.Spec PyProof.Rows
open VS
/-! ### tuple(range(n)) -/
def rRgT : List V → Hp → VK → Prop := fun vs H Q => ∃ (j : Int) (n : Nat), vs = [.int j] ∧ RgC 0 j 1 n ∧ n ≤ 2 ^ 24 ∧ ∀ q, H q = none → Q (.ref q) (upd H q (.tup ((List.range n).map fun k => V.int (0 + (k : Nat) * 1))))
section
variable {X : Cx} {a b c : Expr} {ta : TA} {p p2 pos pos2 : Pos}
theorem tuple_of_rg {pins : List (Addr × Obj)} {σ : L2.St} {H1 : Hp} {s1 : Shared} {Q : VK} {i j k : Int} {n : Nat} {t u v : Tok} {tk : Nat} (hc : X.calm = true) (I1 : Inv X pins σ H1 s1) (h : RgC i j k n) (hn : n ≤ 2 ^ 24)
    (q : ∀ q, H1 q = none → Q (.ref q) (upd H1 q (.tup ((List.range n).map fun m => V.int (i + (m : Nat) * k))))) :
    wpAny (model X.prog X.w) X.A (call (.type "tuple") [.ref s1.heap.objs.size]) (EP X pins σ Q) X.xe { s1 with heap := s1.heap.push { cls := .type "range", data := .fields #[.int i t, .int j u, .int k v] }, toks := tk } := by
  obtain ⟨c0, c1, c2, c3⟩ := h
  have I2 : Inv X pins σ H1 { s1 with heap := s1.heap.push { cls := .type "range", data := .fields #[.int i t, .int j u, .int k v] }, toks := tk } := I1.kept (t' := tk) fun b o e => Heap.get?_push_of_some _ e
  refine call_tuple_range (n := n) (I2.ok.hd hc) (IsRange.new _ _ _ _ _ _ _) c2 c3 hn fun h' tk' acc hk hi => ?_
  have I3 : Inv X pins σ H1 { s1 with heap := h', toks := tk' } := I2.kept (t' := tk') hk
  refine ⟨.ref h'.objs.size, upd H1 _ (.tup ((List.range n).map fun m => V.int (i + (m : Nat) * k))), I3.laid (t' := tk') (fun b o e => Heap.get?_push_of_some _ e) (Nat.le_refl _) (show ObjOk X.prog X.w _ _ _ (.tup _) from ⟨?_, acc.toList, vals_rgC hi, ?_⟩), rfl, q _ (I3.hok.fresh (Nat.le_refl _))⟩
  · rw [List.length_map, List.length_range, sizeLine_eq]; omega
  · have := IsTup.new h' acc.toList.toArray
    rwa [Array.toArray_toList] at this
theorem pe_trg1 (hc : X.calm = true) (hgl : Gl X "tuple") (hml : X.mg "tuple" = none) (hg : Gl X "range") (hm : X.mg "range" = none) (ha : PA X [a] ta) (hs : starEach [a] X.env = [(false, eval a X.env)] := by rfl)
    (hs2 : starEach [Expr.Call (.Name "range" p) [a] [] pos] X.env = [(false, eval (Expr.Call (.Name "range" p) [a] [] pos) X.env)] := by rfl) :
    PE X (.Call (.Name "tuple" p2) [.Call (.Name "range" p) [a] [] pos] [] pos2) (fun σ H Q => ta σ H fun vs H1 => vs.length = 1 ∧ rRgT vs H1 Q) := by
  refine ⟨fun pins s σ H Q I h => ?_⟩
  refine Call_ (ld_blt I hgl hml boot_tuple (PyProof.Rows.callWith_type1 (args_cons ?_ hs2) hs2))
  refine Call_ (ld_blt I hg hm boot_range (PyProof.Rows.callWith_type1 (thn (ha.run pos pins s σ H _ I h) fun us s1 ⟨vs, H1, I1, r1, q1⟩ => ?_) hs rfl))
  obtain ⟨hl, j, n, rfl, hr, hn, q⟩ := q1
  cases r1 with
  | cons r rr =>
    cases rr
    obtain ⟨t, rfl⟩ := r
    exact call_range_1 (args_nil (tuple_of_rg hc I1 hr hn q))
end
end L2
namespace VS
open PySem PySem.Spec PyProof.Rows L2 RZ
def trgD (rd : List D → Option (List D)) : List D → Option D := fun ds => (rd ds).bind fun xs => if xs.length ≤ smallL then some (.tup xs) else none
section
variable {K : PySem.W.Frag}
theorem vok_trg1 : VOk K (fun vs H Q => vs.length = 1 ∧ rRgT vs H Q) (trgD rng1D) := by
  intro G H vs ds d s rl e Q q
  unfold trgD rng1D at e
  split at e
  · obtain ⟨v, L, rfl, r1⟩ := rl.one
    cases r1
    split at e
    · rename_i hb
      have e' : (if (intsTo 0 _).length ≤ smallL then some (D.tup (intsTo 0 _)) else none) = some d := e
      rw [intsTo_by] at e'
      split at e'
      · rename_i hz
        cases e'
        rw [intsBy_len] at hz
        refine ⟨rfl, _, _, rfl, ?_, Nat.le_trans hz (by decide), fun p hp => ?_⟩
        · have := rgC_one (i := 0) (by omega) (by omega) hb.1 hb.2
          rw [Int.sub_zero] at this
          exact this
        · obtain ⟨G', t, r⟩ := new_tup s hp (reps_by (K := K) (G := G) (H := H) 0 1 _)
          exact q _ _ _ _ t r
      · cases e'
    · cases e
  · cases e
end
section
variable {X : Cx} {a b c : Expr} {p p2 pos pos2 : Pos} {ops : List Op}
theorem pf_trg1 (hc : X.calm = true) (hgl : Gl X "tuple") (hml : X.mg "tuple" = none) (hg : Gl X "range") (hm : X.mg "range" = none) (ha : PAf X [a] ops) (hs : starEach [a] X.env = [(false, eval a X.env)] := by rfl)
    (hs2 : starEach [Expr.Call (.Name "range" p) [a] [] pos] X.env = [(false, eval (Expr.Call (.Name "range" p) [a] [] pos) X.env)] := by rfl) : PEf X (.Call (.Name "tuple" p2) [.Call (.Name "range" p) [a] [] pos] [] pos2) (opF (trgD rng1D) ops) := .mk (pe_trg1 hc hgl hml hg hm ha hs hs2) (simE_op (simA_of _) vok_trg1)
end
end VS
set_option Elab.async false
set_option linter.all false
set_option maxRecDepth 100000
set_option maxHeartbeats 4000000
namespace HT
open PySem PySem.Spec PyProof.Rows
section
variable {prog : Program} {w : World} {A : Around} {E : Value → Shared → Prop} {s : Shared}
end
end HT
namespace L2
open PySem PySem.Spec PyProof.Rows HT
def tRevT (K : PySem.W.Frag) (te : TE) : TE := fun σ H Q => te σ H fun x H1 => ∃ a xs, x = .ref a ∧ SqT K H1 a xs ∧ ∀ p, H1 p = none → Q (.ref p) (upd H1 p (.tup xs.reverse))
section
variable {X : Cx}
end
end L2
namespace VS
open PySem PySem.Spec PyProof.Rows L2 RZ
def rRevT (K : PySem.W.Frag) : V → Hp → VK → Prop := fun x H1 Q => ∃ a xs, x = .ref a ∧ SqT K H1 a xs ∧ ∀ p, H1 p = none → Q (.ref p) (upd H1 p (.tup xs.reverse))
def revTD : List D → Option D
  | [.tup xs] => if noOwns xs = true then some (.tup xs.reverse) else none
  | _ => none
section
variable {X : Cx} {e : Expr} {k : Nat} {p1 p2 p3 pos : Pos} {o : Op}
end
end VS
set_option Elab.async false
set_option linter.all false
set_option maxRecDepth 100000
namespace L2
open PySem PySem.Spec PyProof.Rows
open VS
/-! ### len(set(xs)) of a list of whole numbers -/
def nMet (ns : List Int) : Nat := (PyProof.Rows.firstMet (fun i => ns.getD i 0) ns.length).length
def rLenSet (K : PySem.W.Frag) : List V → Hp → VK → Prop := fun vs H Q => ∃ (p : Addr) (ns : List Int), vs = [.ref p] ∧ SqL K H p (ns.map V.int) ∧ ns.length ≤ 1000 ∧ nMet ns ≤ 1000 ∧ Q (.int (nMet ns : Nat)) H
section
variable {X : Cx} {a b c : Expr} {ta : TA} {p p2 pos pos2 : Pos}
theorem pe_lenSet (hc : X.calm = true) (hgl : Gl X "len") (hml : X.mg "len" = none) (hg : Gl X "set") (hm : X.mg "set" = none) (ha : PA X [a] ta) (hs : starEach [a] X.env = [(false, eval a X.env)] := by rfl)
    (hs2 : starEach [Expr.Call (.Name "set" p) [a] [] pos] X.env = [(false, eval (Expr.Call (.Name "set" p) [a] [] pos) X.env)] := by rfl) :
    PE X (.Call (.Name "len" p2) [.Call (.Name "set" p) [a] [] pos] [] pos2) (fun σ H Q => ta σ H fun vs H1 => rLenSet X.K vs H1 Q) := by
  refine ⟨fun pins s σ H Q I h => ?_⟩
  have bs : bootBuiltins (Str.ofString "set") = some (.type "set") := by decide +kernel
  refine Call_ (ld_blt I hgl hml PySem.boot_len (PyProof.Rows.callWith_builtin1 (args_cons ?_ hs2) hs2))
  refine Call_ (ld_blt I hg hm bs (PyProof.Rows.callWith_type1 (thn (ha.run pos pins s σ H _ I h) fun us s1 ⟨vs, H1, I1, r1, q1⟩ => ?_) hs rfl))
  obtain ⟨p, ns, rfl, hS, hl, hn, q⟩ := q1
  cases r1 with
  | cons r rr =>
    cases rr
    cases r
    obtain ⟨its, rv, pl, hz⟩ := I1.list hS
    have hi := intsAre_of rv
    have hlen : its.toArray.size = ns.length := by
      have := rv.length
      rw [List.length_map] at this
      rw [List.size_toArray]; omega
    refine PySem.call_set_list (ns := ns) (I1.ok.hd hc) pl.isList (by simpa using hi) (by rw [hlen]; unfold scanBound; omega) fun h' tk so hk => ?_
    have I2 : Inv X pins σ H1 { s1 with heap := h', toks := tk } := I1.kept (t' := tk) fun b o e => hk b o (Heap.lt_size e) e
    obtain ⟨o, es, ep, t, ho, hx, hd, hel, hm', hb, hf, hn'⟩ := so
    rw [hlen] at hn'
    have hn2 : es.size = nMet ns := hn'
    refine args_nil ?_
    refine PySem.call_len_set (s := { s1 with heap := h', toks := tk }) ho hx hd hf (by rw [hn2]; omega) ?_
    refine ⟨.int (nMet ns : Nat), H1, ?_, ⟨_, by rw [hn2]⟩, q⟩
    exact I2.kept (h' := h') (t' := tk + 1 + 1) fun b o e => e
end
end L2
namespace VS
open PySem PySem.Spec PyProof.Rows L2 RZ
def lenSetD : List D → Option D
  | [.lst _ xs] => (intsOf xs).bind fun ns => if ns.length ≤ 1000 then some (.int (nMet ns : Nat)) else none
  | _ => none
theorem nMet_le (ns : List Int) : nMet ns ≤ ns.length := PyProof.Rows.firstMet_length_le _ _
section
variable {K : PySem.W.Frag}
theorem vok_lenSet : VOk K (rLenSet K) lenSetD := by
  intro G H vs ds d s rl e Q q
  unfold lenSetD at e
  split at e
  · obtain ⟨v, L, rfl, r1⟩ := rl.one
    obtain ⟨ns, e1, e2⟩ := Option.bind_eq_some_iff.mp e
    split at e2
    · rename_i hz
      cases e2
      obtain ⟨a, vs, L1, rfl, h1, h2, _⟩ := r1.lstInv s
      obtain ⟨rfl, _⟩ := h2.ints e1
      exact ⟨a, ns, rfl, SqL.of h1, hz, Nat.le_trans (nMet_le ns) hz, fin0 s (.int _) q⟩
    · cases e2
  · cases e
end
section
variable {X : Cx} {a b c : Expr} {p p2 pos pos2 : Pos} {ops : List Op}
theorem pf_lenSet (hc : X.calm = true) (hgl : Gl X "len") (hml : X.mg "len" = none) (hg : Gl X "set") (hm : X.mg "set" = none) (ha : PAf X [a] ops) (hs : starEach [a] X.env = [(false, eval a X.env)] := by rfl)
    (hs2 : starEach [Expr.Call (.Name "set" p) [a] [] pos] X.env = [(false, eval (Expr.Call (.Name "set" p) [a] [] pos) X.env)] := by rfl) : PEf X (.Call (.Name "len" p2) [.Call (.Name "set" p) [a] [] pos] [] pos2) (opF lenSetD ops) := .mk (pe_lenSet hc hgl hml hg hm ha hs hs2) (simE_op (simA_of _) vok_lenSet)
end
end VS
set_option Elab.async false
set_option linter.all false
set_option maxRecDepth 100000
namespace L2
open PySem PySem.Spec PyProof.Rows
open VS
/-! ### tuple(range(a, b)) -/
def rRgT2 : List V → Hp → VK → Prop := fun vs H Q => ∃ (i j : Int) (n : Nat), vs = [.int i, .int j] ∧ RgC i j 1 n ∧ n ≤ 2 ^ 24 ∧ ∀ q, H q = none → Q (.ref q) (upd H q (.tup ((List.range n).map fun k => V.int (i + (k : Nat) * 1))))
section
variable {X : Cx} {a b c : Expr} {ta : TA} {p p2 pos pos2 : Pos}
theorem pe_trg2 (hc : X.calm = true) (hgl : Gl X "tuple") (hml : X.mg "tuple" = none) (hg : Gl X "range") (hm : X.mg "range" = none) (ha : PA X [a, b] ta) (hs : starEach [a, b] X.env = [(false, eval a X.env), (false, eval b X.env)] := by rfl) (hs3 : starEach [b] X.env = [(false, eval b X.env)] := by rfl)
    (hs2 : starEach [Expr.Call (.Name "range" p) [a, b] [] pos] X.env = [(false, eval (Expr.Call (.Name "range" p) [a, b] [] pos) X.env)] := by rfl) :
    PE X (.Call (.Name "tuple" p2) [.Call (.Name "range" p) [a, b] [] pos] [] pos2) (fun σ H Q => ta σ H fun vs H1 => vs.length = 2 ∧ rRgT2 vs H1 Q) := by
  refine ⟨fun pins s σ H Q I h => ?_⟩
  refine Call_ (ld_blt I hgl hml boot_tuple (PyProof.Rows.callWith_type1 (args_cons ?_ hs2) hs2))
  refine Call_ (ld_blt I hg hm boot_range (PyProof.Rows.callWith_type1 (thn (ha.run pos pins s σ H _ I h) fun us s1 ⟨vs, H1, I1, r1, q1⟩ => ?_) (by rw [hs, hs3]) (by rw [hs3]; rfl)))
  obtain ⟨hl, i, j, n, rfl, hr, hn, q⟩ := q1
  cases r1 with
  | cons r rr =>
    cases rr with
    | cons r' rr =>
      cases rr
      obtain ⟨t, rfl⟩ := r
      obtain ⟨t', rfl⟩ := r'
      exact call_range_2 (args_nil (tuple_of_rg hc I1 hr hn q))
end
end L2
namespace VS
open PySem PySem.Spec PyProof.Rows L2 RZ
section
variable {K : PySem.W.Frag}
theorem vok_trg2 : VOk K (fun vs H Q => vs.length = 2 ∧ rRgT2 vs H Q) (trgD rng2D) := by
  intro G H vs ds d s rl e Q q
  unfold trgD rng2D at e
  split at e
  · obtain ⟨v, u, L, M, rfl, r1, r2⟩ := rl.two
    cases r1; cases r2
    split at e
    · rename_i hb
      have e' : (if (intsTo _ _).length ≤ smallL then some (D.tup (intsTo _ _)) else none) = some d := e
      rw [intsTo_by] at e'
      split at e'
      · rename_i hz
        cases e'
        rw [intsBy_len] at hz
        refine ⟨rfl, _, _, _, rfl, rgC_one hb.1 hb.2.1 hb.2.2.1 hb.2.2.2, Nat.le_trans hz (by decide), fun p hp => ?_⟩
        obtain ⟨G', t, r⟩ := new_tup s hp (reps_by (K := K) (G := G) (H := H) _ 1 _)
        exact q _ _ _ _ t r
      · cases e'
    · cases e
  · cases e
end
section
variable {X : Cx} {a b c : Expr} {p p2 pos pos2 : Pos} {ops : List Op}
theorem pf_trg2 (hc : X.calm = true) (hgl : Gl X "tuple") (hml : X.mg "tuple" = none) (hg : Gl X "range") (hm : X.mg "range" = none) (ha : PAf X [a, b] ops) (hs : starEach [a, b] X.env = [(false, eval a X.env), (false, eval b X.env)] := by rfl) (hs3 : starEach [b] X.env = [(false, eval b X.env)] := by rfl)
    (hs2 : starEach [Expr.Call (.Name "range" p) [a, b] [] pos] X.env = [(false, eval (Expr.Call (.Name "range" p) [a, b] [] pos) X.env)] := by rfl) : PEf X (.Call (.Name "tuple" p2) [.Call (.Name "range" p) [a, b] [] pos] [] pos2) (opF (trgD rng2D) ops) := .mk (pe_trg2 hc hgl hml hg hm ha hs hs3 hs2) (simE_op (simA_of _) vok_trg2)
end
end VS
set_option Elab.async false
set_option linter.all false
set_option maxRecDepth 100000
namespace VS
open PySem PySem.Spec PyProof.Rows L2 RZ
/-! ### order of things of one shape, of any depth -/
def notNoneP : PyData → Bool
  | .none => false
  | _ => true
def ordOk (d e : PyData) : Bool := PySem.W.alike d e && (notNoneP d && decide (min d.depth e.depth ≤ 60))
def rOrd (K : PySem.W.Frag) (p : PyData → PyData → Bool) : R2 := fun x y H Q => ∃ da db, Dp K H x da ∧ Dp K H y db ∧ ordOk da db = true ∧ Q (.bl (p da db)) H
def ordD (p : PyData → PyData → Bool) : List D → Option D
  | [x, y] => if noTy x = true ∧ noTy y = true ∧ ordOk (pyD x) (pyD y) = true then some (.bl (p (pyD x) (pyD y))) else none
  | _ => none
def leMD := ordD fun a b => !PySem.W.dataLt b a
def ltMD := ordD fun a b => PySem.W.dataLt a b
def geMD := ordD fun a b => !PySem.W.dataLt a b
def gtMD := ordD fun a b => PySem.W.dataLt b a
end VS
set_option Elab.async false
set_option linter.all false
set_option maxRecDepth 100000
namespace L2
open PySem PySem.Spec PyProof.Rows
open VS
/-! ### x in range(..), x not in range(..) -/
end L2
namespace VS
open PySem PySem.Spec PyProof.Rows L2 RZ
def rRg1 : List V → Hp → VK → Prop := fun vs H Q => ∃ j, vs = [V.int j] ∧ ∀ p, H p = none → Q (.ref p) (upd H p (.rng 0 j))
def rRg2 : List V → Hp → VK → Prop := fun vs H Q => ∃ i j, vs = [V.int i, V.int j] ∧ ∀ p, H p = none → Q (.ref p) (upd H p (.rng i j))
def rInR (f : Bool → Bool) : R2 := fun x y H Q => ∃ i a lo hi, x = V.int i ∧ y = V.ref a ∧ H a = some (.rng lo hi) ∧ Q (V.bl (f (decide (lo ≤ i ∧ i < hi)))) H
def rInV (f : Bool → Bool) (rr : List V → Hp → VK → Prop) : List V → Hp → VK → Prop := fun vs H Q => match vs with
  | x :: r => rr r H fun y H1 => rInR f x y H1 Q
  | [] => False
def inR1 (f : Bool → Bool) : List D → Option D
  | [.int k, .int j] => some (.bl (f (decide (0 ≤ k ∧ k < j))))
  | _ => none
def inR2 (f : Bool → Bool) : List D → Option D
  | [.int k, .int i, .int j] => some (.bl (f (decide (i ≤ k ∧ k < j))))
  | _ => none
section
variable {X : Cx} {x a b : Expr} {p pos pos2 : Pos} {o1 : Op} {oa : Op} {ops : List Op} {op : CmpOp} {f : Bool → Bool}
end
end VS
set_option Elab.async false
set_option linter.all false
set_option maxRecDepth 100000
namespace L2
open PySem PySem.Spec PyProof.Rows
open VS
/-! ### count of a truth in a list of such -/
def rCntB (K : PySem.W.Frag) : V → List V → Hp → VK → Prop := fun x xs H Q => ∃ (p : Addr) (bs : List Bool) (k : Bool), x = .ref p ∧ xs = [.bl k] ∧ SqL K H p (bs.map V.bl) ∧ Q (.int (bs.count k : Nat)) H
end L2
namespace VS
open PySem PySem.Spec PyProof.Rows L2 RZ
def cntBD : List D → Option D
  | [.lst _ xs, .bl k] => (blsOf xs).bind fun bs => some (.int (bs.count k : Nat))
  | _ => none
section
variable {X : Cx} {W : WX} {o e : Expr} {es : List Expr} {f : FE} {g : RX} {ops : List Op} {apos cpos : Pos}
end
end VS
set_option Elab.async false
set_option linter.all false
set_option maxRecDepth 100000
namespace VS
open PySem PySem.Spec PyProof.Rows L2
/-! ### {'a': 1, ..}.get(k, x): a display of texts and whole numbers, read at once -/
def evInts : List FE → Env → Option (List Int × Env)
  | [], ρ => some ([], ρ)
  | f :: r, ρ => (f ρ).bind fun p => match p.1 with
    | .int i => (evInts r p.2).bind fun q => some (i :: q.1, q.2)
    | _ => none
def strGet : List Str → List Int → Str → Option Int
  | k :: ks, i :: is, s => if k = s then some i else strGet ks is s
  | _, _, _ => none
def dgF (ks : List Str) (fs : List FE) (fk fd : FE) : FE := fun ρ => (evInts fs ρ).bind fun p => (fk p.2).bind fun q => match q.1 with
  | .str s => (fd q.2).bind fun z => match z.1 with
    | .int j => some (.int ((strGet ks p.1 s).getD j), z.2)
    | _ => none
  | _ => none
def kvS : List Str → List Int → List (Key × V)
  | k :: ks, i :: is => (.inr k, .int i) :: kvS ks is
  | _, _ => []
inductive Keyed (K : PySem.W.Frag) : List (TE × TE) → List Str → List FE → Prop
  | nil : Keyed K [] [] []
  | cons {k : Str} {tv : TE} {f : FE} {trs ks fs} : SimE K tv f → Keyed K trs ks fs → Keyed K ((tC (.str k), tv) :: trs) (k :: ks) (f :: fs)
section
variable {K : PySem.W.Frag}
theorem Keyed.run {trs : List (TE × TE)} {ks : List Str} {fs : List FE} (h : Keyed K trs ks fs) : ∀ ρ is ρ', evInts fs ρ = some (is, ρ') → ∀ (σ : L2.St) (G H : Hp) (F : Nat → List Addr), REnv K G H σ ρ F → ∀ Q : List (V × V) → Hp → Prop,
    (∀ G' H' F', Tr G H (own F) G' H' (own F') → REnv K G' H' σ ρ' F' → Q ((kvS ks is).map fun kv => (kV kv.1, kv.2)) H') → tPairs trs σ H Q := by
  induction h with
  | nil =>
    intro ρ is ρ' e σ G H F r Q q
    cases e
    exact q G H F (Tr.refl r.sub) r
  | @cons k tv f trs ks fs h1 h2 ih =>
    intro ρ is ρ' e σ G H F r Q q
    unfold evInts at e
    cases hf : f ρ with
    | none => rw [hf] at e; cases e
    | some p =>
      obtain ⟨d, ρ1⟩ := p
      rw [hf] at e
      cases d with
      | int i =>
        have e2 : ((evInts fs ρ1).bind fun q => some (i :: q.1, q.2)) = some (is, ρ') := e
        cases hr : evInts fs ρ1 with
        | none => rw [hr] at e2; cases e2
        | some p =>
          obtain ⟨is1, ρ2⟩ := p
          rw [hr] at e2
          cases e2
          show tv σ H _
          refine h1 ρ (.int i) ρ1 hf σ G H F r _ fun v G1 H1 F1 L t1 r1 rp n1 => ?_
          cases rp
          have t1' : Tr G H (own F) G1 H1 (own F1) := t1.post fun a z => .inl z
          refine ih ρ1 is1 ρ2 hr σ G1 H1 F1 r1 _ fun G2 H2 F2 t2 r2 => ?_
          exact q G2 H2 F2 (t1'.trans t2) r2
      | _ => cases e
end
section
variable {X : Cx} {pn : Nat → Bool} {e f : Expr} {apos cpos pos : Pos}
inductive KeysF (X : Cx) (pos : Pos) : List (Option Expr) → List Expr → List Str → List FE → Prop
  | nil : KeysF X pos [] [] [] []
  | cons {k : Str} {j} {kp : Pos} {v : Expr} {f : FE} {keys vals ks fs} : PEf X v f → KeysF X pos keys vals ks fs → KeysF X pos (some (.Constant (.str k) j kp) :: keys) (v :: vals) (k :: ks) (f :: fs)
theorem KeysF.ex {keys vals ks fs} (h : KeysF X pos keys vals ks fs) : ∃ trs, PPs X pos keys vals trs ∧ Keyed X.K trs ks fs ∧ keys.all (·.isSome) = true ∧ keys.length = vals.length ∧ ks.length = keys.length := by
  induction h with
  | nil => exact ⟨[], pps_nil, .nil, rfl, rfl, rfl⟩
  | cons h1 h2 ih =>
    obtain ⟨trs, a, b, c, d, e⟩ := ih
    exact ⟨_, pps_cons pe_str h1 a, .cons (simE_of _) b, by simpa using c, by simp [d], by simp [e]⟩
end
end VS
set_option Elab.async false
set_option linter.all false
set_option maxRecDepth 100000
namespace VS
open PySem PySem.Spec PyProof.Rows L2 RZ
/-! ### the words' values, step by step: what simp may use; each «and then» has a name, so that simp stays out of it -/
theorem nrfl {α : Sort _} {a b : α} (h : a = b) : a = b := h
def bd {α β : Type} (o : Option α) (f : α → Option β) : Option β := o.bind f
@[simp] theorem bd_some {α β : Type} (x : α) (f : α → Option β) : bd (some x) f = f x := nrfl rfl
@[simp] theorem bd_none {α β : Type} (f : α → Option β) : bd none f = none := nrfl rfl
def ift {α β : Type} (b : Bool) (x y : α → β) (a : α) : β := if b = true then x a else y a
@[simp] theorem ift_t {α β : Type} (x y : α → β) (a : α) : ift true x y a = x a := nrfl rfl
@[simp] theorem ift_f {α β : Type} (x y : α → β) (a : α) : ift false x y a = y a := nrfl rfl
def gb {α : Type} (b : Bool) (x : Option α) : Option α := if b = true then x else none
@[simp] theorem gb_t {α : Type} (x : Option α) : gb true x = x := nrfl rfl
@[simp] theorem gb_f {α : Type} (x : Option α) : gb false x = none := nrfl rfl
theorem gb_of {α : Type} {b : Bool} {x : Option α} (h : b = true) : gb b x = x := by rw [h]; rfl
theorem gb_ite {α : Type} {p : Prop} [Decidable p] (x : Option α) : (if p then x else none) = gb (decide p) x := by
  unfold gb
  by_cases h : p <;> simp [h]
def outK (g : FS) : Out → Option Out
  | .nx ρ => g ρ
  | o => some o
@[simp] theorem outK_nx (g : FS) (ρ : Env) : outK g (.nx ρ) = g ρ := nrfl rfl
@[simp] theorem outK_rt (g : FS) (d : D) (ρ : Env) : outK g (.rt d ρ) = some (.rt d ρ) := nrfl rfl
@[simp] theorem outK_bk (g : FS) (ρ : Env) : outK g (.bk ρ) = some (.bk ρ) := nrfl rfl
@[simp] theorem outK_ct (g : FS) (ρ : Env) : outK g (.ct ρ) = some (.ct ρ) := nrfl rfl
def blK : D × Env → Option (Bool × Env)
  | (.bl b, ρ) => some (b, ρ)
  | _ => none
@[simp] theorem blK_e (b : Bool) (ρ : Env) : blK (.bl b, ρ) = some (b, ρ) := rfl
def nxK  : Env → Option Out := fun ρ => some (.nx ρ)
@[simp] theorem nxK_e  (ρ : Env) : nxK  ρ = some (.nx ρ) := nrfl rfl
def asgK (g : D → Env → Option Env) : D × Env → Option Out := fun (d, ρ) => bd (g d ρ) nxK
@[simp] theorem asgK_e (g : D → Env → Option Env) (d : D) (ρ : Env) : asgK g (d, ρ) = bd (g d ρ) nxK := nrfl rfl
def dropK  : D × Env → Option Out := fun (d, ρ) => some (.nx ρ)
@[simp] theorem dropK_e  (d : D) (ρ : Env) : dropK  (d, ρ) = some (.nx ρ) := nrfl rfl
def retK  : D × Env → Option Out := fun (d, ρ) => some (.rt d ρ)
@[simp] theorem retK_e  (d : D) (ρ : Env) : retK  (d, ρ) = some (.rt d ρ) := nrfl rfl
def ifK (f : FS) (g : FS) : Bool × Env → Option Out := fun (b, ρ) => ift b f g ρ
@[simp] theorem ifK_e (f : FS) (g : FS) (b : Bool) (ρ : Env) : ifK f g (b, ρ) = ift b f g ρ := nrfl rfl
def notK  : Bool × Env → Option (Bool × Env) := fun (b, ρ) => some (!b, ρ)
@[simp] theorem notK_e  (b : Bool) (ρ : Env) : notK  (b, ρ) = some (!b, ρ) := nrfl rfl
def boK (b0 : Bool) : Env → Option (Bool × Env) := fun ρ => some (b0, ρ)
@[simp] theorem boK_e (b0 : Bool) (ρ : Env) : boK b0 ρ = some (b0, ρ) := nrfl rfl
def bvK (b0 : Bool) : Env → Option (D × Env) := fun ρ => some (D.bl b0, ρ)
@[simp] theorem bvK_e (b0 : Bool) (ρ : Env) : bvK b0 ρ = some (D.bl b0, ρ) := nrfl rfl
def andK (g : FB) : Bool × Env → Option (Bool × Env) := fun (b, ρ) => ift b g (boK false) ρ
@[simp] theorem andK_e (g : FB) (b : Bool) (ρ : Env) : andK g (b, ρ) = ift b g (boK false) ρ := nrfl rfl
def orK (g : FB) : Bool × Env → Option (Bool × Env) := fun (b, ρ) => ift b (boK true) g ρ
@[simp] theorem orK_e (g : FB) (b : Bool) (ρ : Env) : orK g (b, ρ) = ift b (boK true) g ρ := nrfl rfl
def bEK  : Bool × Env → Option (D × Env) := fun (b, ρ) => some (D.bl b, ρ)
@[simp] theorem bEK_e  (b : Bool) (ρ : Env) : bEK  (b, ρ) = some (D.bl b, ρ) := nrfl rfl
def ifEK (f : FE) (g : FE) : Bool × Env → Option (D × Env) := fun (b, ρ) => ift b f g ρ
@[simp] theorem ifEK_e (f : FE) (g : FE) (b : Bool) (ρ : Env) : ifEK f g (b, ρ) = ift b f g ρ := nrfl rfl
def andVK (g : FE) : Bool × Env → Option (D × Env) := fun (b, ρ) => ift b g (bvK false) ρ
@[simp] theorem andVK_e (g : FE) (b : Bool) (ρ : Env) : andVK g (b, ρ) = ift b g (bvK false) ρ := nrfl rfl
def orVK (g : FE) : Bool × Env → Option (D × Env) := fun (b, ρ) => ift b (bvK true) g ρ
@[simp] theorem orVK_e (g : FE) (b : Bool) (ρ : Env) : orVK g (b, ρ) = ift b (bvK true) g ρ := nrfl rfl
def notVK  : Bool × Env → Option (D × Env) := fun (b, ρ) => some (D.bl (!b), ρ)
@[simp] theorem notVK_e  (b : Bool) (ρ : Env) : notVK  (b, ρ) = some (D.bl (!b), ρ) := nrfl rfl
def pairK (ρ : Env) : D → Option (D × Env) := fun d => some (d, ρ)
@[simp] theorem pairK_e (ρ : Env) (d : D) : pairK ρ d = some (d, ρ) := nrfl rfl
def setK (ρ : Env) (i : Nat) : D → Option (D × Env) := fun d => some (d, ρ.set i none)
@[simp] theorem setK_e (ρ : Env) (i : Nat) (d : D) : setK ρ i d = some (d, ρ.set i none) := nrfl rfl
def frzK (i : Nat) (d : D) : Env → Option (D × Env) := fun ρ => some (freeze d, ρ.set i (some (freeze d)))
@[simp] theorem frzK_e (i : Nat) (d : D) (ρ : Env) : frzK i d ρ = some (freeze d, ρ.set i (some (freeze d))) := nrfl rfl
def keepK (d : D) : Env → Option (D × Env) := fun ρ => some (d, ρ)
@[simp] theorem keepK_e (d : D) (ρ : Env) : keepK d ρ = some (d, ρ) := nrfl rfl
def varK (ρ : Env) (i : Nat) : D → Option (D × Env) := fun d => ift (noOwn d) (keepK d) (frzK i d) ρ
@[simp] theorem varK_e (ρ : Env) (i : Nat) (d : D) : varK ρ i d = ift (noOwn d) (keepK d) (frzK i d) ρ := nrfl rfl
def evbK2  : List (Option D) × Env → Option (List (Option D) × Env) := fun (ts, ρ) => some (none :: ts, ρ)
@[simp] theorem evbK2_e  (ts : List (Option D)) (ρ : Env) : evbK2  (ts, ρ) = some (none :: ts, ρ) := nrfl rfl
def evtK2 (d : D) : List (Option D) × Env → Option (List (Option D) × Env) := fun (ts, ρ) => some (some d :: ts, ρ)
@[simp] theorem evtK2_e (d : D) (ts : List (Option D)) (ρ : Env) : evtK2 d (ts, ρ) = some (some d :: ts, ρ) := nrfl rfl
def evbK (r : List Op) (ρ : Env) : D → Option (List (Option D) × Env) := fun _ => bd (evOps r ρ) evbK2
@[simp] theorem evbK_e (r : List Op) (ρ : Env) (d : D) : evbK r ρ d = bd (evOps r ρ) evbK2 := nrfl rfl
def evtK (r : List Op) : D × Env → Option (List (Option D) × Env) := fun (d, ρ) => bd (evOps r ρ) (evtK2 d)
@[simp] theorem evtK_e (r : List Op) (d : D) (ρ : Env) : evtK r (d, ρ) = bd (evOps r ρ) (evtK2 d) := nrfl rfl
def consK (d : D) : List D → Option (List D) := fun ds => some (d :: ds)
@[simp] theorem consK_e (d : D) (ds : List D) : consK d ds = some (d :: ds) := nrfl rfl
def febK (r : List Op) (ts : List (Option D)) (ρ : Env) : D → Option (List D) := fun d => bd (fetch r ts ρ) (consK d)
@[simp] theorem febK_e (r : List Op) (ts : List (Option D)) (ρ : Env) (d : D) : febK r ts ρ d = bd (fetch r ts ρ) (consK d) := nrfl rfl
def tabK (r : List Op) (ts : List (Option D)) (ρ : Env) : D → Option (List D) := fun d => gb (noOwn d) (bd (takeN r ts ρ) (consK d))
@[simp] theorem tabK_e (r : List Op) (ts : List (Option D)) (ρ : Env) (d : D) : tabK r ts ρ d = gb (noOwn d) (bd (takeN r ts ρ) (consK d)) := nrfl rfl
def opK2 (g : List D → Option D) (ρ : Env) : List D → Option (D × Env) := fun ds => bd (g ds) (pairK ρ)
@[simp] theorem opK2_e (g : List D → Option D) (ρ : Env) (ds : List D) : opK2 g ρ ds = bd (g ds) (pairK ρ) := nrfl rfl
def opK (g : List D → Option D) (ops : List Op) : List (Option D) × Env → Option (D × Env) := fun (ts, ρ) => bd (fetch ops ts ρ) (opK2 g ρ)
@[simp] theorem opK_e (g : List D → Option D) (ops : List Op) (ts : List (Option D)) (ρ : Env) : opK g ops (ts, ρ) = bd (fetch ops ts ρ) (opK2 g ρ) := nrfl rfl
def tupK2 (ρ : Env) : List D → Option (D × Env) := fun ds => gb (decide (ds.length ≤ smallL)) (some (D.tup ds, ρ))
@[simp] theorem tupK2_e (ρ : Env) (ds : List D) : tupK2 ρ ds = gb (decide (ds.length ≤ smallL)) (some (D.tup ds, ρ)) := nrfl rfl
def tupK (ops : List Op) : List (Option D) × Env → Option (D × Env) := fun (ts, ρ) => bd (takeN ops ts ρ) (tupK2 ρ)
@[simp] theorem tupK_e (ops : List Op) (ts : List (Option D)) (ρ : Env) : tupK ops (ts, ρ) = bd (takeN ops ts ρ) (tupK2 ρ) := nrfl rfl
def lstK2 (ρ : Env) : List D → Option (D × Env) := fun ds => gb (decide (ds.length ≤ smallL)) (some (D.lst true ds, ρ))
@[simp] theorem lstK2_e (ρ : Env) (ds : List D) : lstK2 ρ ds = gb (decide (ds.length ≤ smallL)) (some (D.lst true ds, ρ)) := nrfl rfl
def lstK (ops : List Op) : List (Option D) × Env → Option (D × Env) := fun (ts, ρ) => bd (takeN ops ts ρ) (lstK2 ρ)
@[simp] theorem lstK_e (ops : List Op) (ts : List (Option D)) (ρ : Env) : lstK ops (ts, ρ) = bd (takeN ops ts ρ) (lstK2 ρ) := nrfl rfl
def parK2 (is : List Nat) (ρ : Env) : List D → Option Out := fun ds => gb (decide (ds.length = is.length)) (some (.nx (setAll is ds ρ)))
@[simp] theorem parK2_e (is : List Nat) (ρ : Env) (ds : List D) : parK2 is ρ ds = gb (decide (ds.length = is.length)) (some (.nx (setAll is ds ρ))) := nrfl rfl
def parK (is : List Nat) (ops : List Op) : List (Option D) × Env → Option Out := fun (ts, ρ) => bd (takeN ops ts ρ) (parK2 is ρ)
@[simp] theorem parK_e (is : List Nat) (ops : List Op) (ts : List (Option D)) (ρ : Env) : parK is ops (ts, ρ) = bd (takeN ops ts ρ) (parK2 is ρ) := nrfl rfl
def tgcK (gs : List D → Env → Option Env) (r : List D) : Env → Option Env := fun ρ => gs r ρ
@[simp] theorem tgcK_e (gs : List D → Env → Option Env) (r : List D) (ρ : Env) : tgcK gs r ρ = gs r ρ := nrfl rfl
def sub3K (k : Nat) (d0 : D) (ρ : Env) : List D → Option Env := fun ds => subPut ρ k d0 ds (getS ρ k)
@[simp] theorem sub3K_e (k : Nat) (d0 : D) (ρ : Env) (ds : List D) : sub3K k d0 ρ ds = subPut ρ k d0 ds (getS ρ k) := nrfl rfl
def sub2K (k : Nat) (oi : Op) (d0 : D) : List (Option D) × Env → Option Env := fun (ts, ρ) => bd (fetch [oi] ts ρ) (sub3K k d0 ρ)
@[simp] theorem sub2K_e (k : Nat) (oi : Op) (d0 : D) (ts : List (Option D)) (ρ : Env) : sub2K k oi d0 (ts, ρ) = bd (fetch [oi] ts ρ) (sub3K k d0 ρ) := nrfl rfl
def sub1K (k : Nat) (oi : Op) (d0 : D) (ρ : Env) : D → Option Env := fun _ => bd (evOps [oi] ρ) (sub2K k oi d0)
@[simp] theorem sub1K_e (k : Nat) (oi : Op) (d0 : D) (ρ : Env) (d : D) : sub1K k oi d0 ρ d = bd (evOps [oi] ρ) (sub2K k oi d0) := nrfl rfl
def putAt (ρ : Env) (k : Nat) (d : D) (xs : List D) : Nat → Option Env := fun j => some (ρ.set k (some (.lst true (xs.set j d))))
@[simp] theorem putAt_e (ρ : Env) (k : Nat) (d : D) (xs : List D) (j : Nat) : putAt ρ k d xs j = some (ρ.set k (some (.lst true (xs.set j d)))) := nrfl rfl
def truK2 (ρ : Env) : Bool → Option (Bool × Env) := fun b => some (b, ρ)
@[simp] theorem truK2_e (ρ : Env) (b : Bool) : truK2 ρ b = some (b, ρ) := nrfl rfl
def truK1 (ρ : Env) : List D → Option (Bool × Env)
  | [d] => bd (truD d) (truK2 ρ)
  | _ => none
@[simp] theorem truK1_e (ρ : Env) (d : D) : truK1 ρ [d] = bd (truD d) (truK2 ρ) := nrfl rfl
def truK (o : Op) : List (Option D) × Env → Option (Bool × Env) := fun p => bd (fetch [o] p.1 p.2) (truK1 p.2)
@[simp] theorem truK_e (o : Op) (ts : List (Option D)) (ρ : Env) : truK o (ts, ρ) = bd (fetch [o] ts ρ) (truK1 ρ) := nrfl rfl
def mutK2 (i : Nat) (ρ : Env) : D × List D → Option (D × Env) := fun q => some (q.1, ρ.set i (some (.lst true q.2)))
@[simp] theorem mutK2_e (i : Nat) (ρ : Env) (d : D) (xs : List D) : mutK2 i ρ (d, xs) = some (d, ρ.set i (some (.lst true xs))) := nrfl rfl
def mutK (g : List D → List D → Option (D × List D)) (i : Nat) (ρ : Env) (ds : List D) : Option D → Option (D × Env)
  | some (.lst true xs) => bd (g xs ds) (mutK2 i ρ)
  | _ => none
@[simp] theorem mutK_e (g : List D → List D → Option (D × List D)) (i : Nat) (ρ : Env) (ds xs : List D) : mutK g i ρ ds (some (.lst true xs)) = bd (g xs ds) (mutK2 i ρ) := nrfl rfl
def isO : Option D → Bool
  | some (.lst true _) => true
  | _ => false
@[simp] theorem isO_e (xs : List D) : isO (some (.lst true xs)) = true := rfl
def mutK1 (g : List D → List D → Option (D × List D)) (i : Nat) (ρ : Env) : List D → Option (D × Env) := fun ds => mutK g i ρ ds (getS ρ i)
@[simp] theorem mutK1_e (g : List D → List D → Option (D × List D)) (i : Nat) (ρ : Env) (ds : List D) : mutK1 g i ρ ds = mutK g i ρ ds (getS ρ i) := nrfl rfl
def mutK0 (g : List D → List D → Option (D × List D)) (i : Nat) (ops : List Op) : List (Option D) × Env → Option (D × Env) := fun (ts, ρ) => bd (takeN ops ts ρ) (mutK1 g i ρ)
@[simp] theorem mutK0_e (g : List D → List D → Option (D × List D)) (i : Nat) (ops : List Op) (ts : List (Option D)) (ρ : Env) : mutK0 g i ops (ts, ρ) = bd (takeN ops ts ρ) (mutK1 g i ρ) := nrfl rfl
def augK3 (i : Nat) (ρ : Env) : D → Option Out := fun d => some (.nx (ρ.set i (some d)))
@[simp] theorem augK3_e (i : Nat) (ρ : Env) (d : D) : augK3 i ρ d = some (.nx (ρ.set i (some d))) := nrfl rfl
def augK2 (i : Nat) (g : List D → Option D) (d0 : D) (ρ : Env) : List D → Option Out := fun ds => bd (g (d0 :: ds)) (augK3 i ρ)
@[simp] theorem augK2_e (i : Nat) (g : List D → Option D) (d0 : D) (ρ : Env) (ds : List D) : augK2 i g d0 ρ ds = bd (g (d0 :: ds)) (augK3 i ρ) := nrfl rfl
def augK1 (i : Nat) (g : List D → Option D) (o : Op) (d0 : D) : List (Option D) × Env → Option Out := fun (ts, ρ) => bd (fetch [o] ts ρ) (augK2 i g d0 ρ)
@[simp] theorem augK1_e (i : Nat) (g : List D → Option D) (o : Op) (d0 : D) (ts : List (Option D)) (ρ : Env) : augK1 i g o d0 (ts, ρ) = bd (fetch [o] ts ρ) (augK2 i g d0 ρ) := nrfl rfl
def augK (i : Nat) (g : List D → Option D) (o : Op) (ρ : Env) : D → Option Out := fun d => gb (noOwn d) (bd (evOps [o] ρ) (augK1 i g o d))
@[simp] theorem augK_e (i : Nat) (g : List D → Option D) (o : Op) (ρ : Env) (d : D) : augK i g o ρ d = gb (noOwn d) (bd (evOps [o] ρ) (augK1 i g o d)) := nrfl rfl
def fcK (d0 : D) : List D × Env → Option (List D × Env) := fun (ds, ρ) => some (d0 :: ds, ρ)
@[simp] theorem fcK_e (d0 : D) (ds : List D) (ρ : Env) : fcK d0 (ds, ρ) = some (d0 :: ds, ρ) := nrfl rfl
def fcB (ps : List Bool) (r : List Op) (ts : List (Option D)) : Env → Option (List D × Env) := fetchC ps r ts
@[simp] theorem fcB_e (ps : List Bool) (r : List Op) (ts : List (Option D)) (ρ : Env) : fcB ps r ts ρ = fetchC ps r ts ρ := nrfl rfl
def fcN (ps : List Bool) (i : Nat) (r : List Op) (ts : List (Option D)) : Env → Option (List D × Env) := fun ρ => fetchC ps r ts (ρ.set i none)
@[simp] theorem fcN_e (ps : List Bool) (i : Nat) (r : List Op) (ts : List (Option D)) (ρ : Env) : fcN ps i r ts ρ = fetchC ps r ts (ρ.set i none) := nrfl rfl
def fcb1 (ps : List Bool) (r : List Op) (ts : List (Option D)) (d : D) : Env → Option (List D × Env) := fun ρ => bd (fcB ps r ts ρ) (fcK d)
@[simp] theorem fcb1_e (ps : List Bool) (r : List Op) (ts : List (Option D)) (d : D) (ρ : Env) : fcb1 ps r ts d ρ = bd (fetchC ps r ts ρ) (fcK d) := nrfl rfl
def fcb2 (p : Bool) (ps : List Bool) (i : Nat) (r : List Op) (ts : List (Option D)) (d : D) : Env → Option (List D × Env) := fun ρ => gb p (bd (fcN ps i r ts ρ) (fcK d))
@[simp] theorem fcb2_e (p : Bool) (ps : List Bool) (i : Nat) (r : List Op) (ts : List (Option D)) (d : D) (ρ : Env) : fcb2 p ps i r ts d ρ = gb p (bd (fetchC ps r ts (ρ.set i none)) (fcK d)) := rfl
def fcbK (p : Bool) (ps : List Bool) (i : Nat) (r : List Op) (ts : List (Option D)) (ρ : Env) : D → Option (List D × Env) := fun d => ift (noOwn d) (fcb1 ps r ts d) (fcb2 p ps i r ts d) ρ
@[simp] theorem fcbK_e (p : Bool) (ps : List Bool) (i : Nat) (r : List Op) (ts : List (Option D)) (ρ : Env) (d : D) : fcbK p ps i r ts ρ d = ift (noOwn d) (fcb1 ps r ts d) (fcb2 p ps i r ts d) ρ := nrfl rfl
def caK2 (ops : List Op) (ds : List D) (ρ : Env) : D × List (Option D) → Option (D × Env) := fun (d, os) => some (d, putB ops ds os ρ)
@[simp] theorem caK2_e (ops : List Op) (ds : List D) (ρ : Env) (d : D) (os : List (Option D)) : caK2 ops ds ρ (d, os) = some (d, putB ops ds os ρ) := nrfl rfl
def caK1 (fn : Fn) (ops : List Op) : List D × Env → Option (D × Env) := fun (ds, ρ) => bd (fn.sem ds) (caK2 ops ds ρ)
@[simp] theorem caK1_e (fn : Fn) (ops : List Op) (ds : List D) (ρ : Env) : caK1 fn ops (ds, ρ) = bd (fn.sem ds) (caK2 ops ds ρ) := nrfl rfl
def caK (fn : Fn) (ops : List Op) : List (Option D) × Env → Option (D × Env) := fun (ts, ρ) => bd (fetchC fn.pins ops ts ρ) (caK1 fn ops)
@[simp] theorem caK_e (fn : Fn) (ops : List Op) (ts : List (Option D)) (ρ : Env) : caK fn ops (ts, ρ) = bd (fetchC fn.pins ops ts ρ) (caK1 fn ops) := nrfl rfl
def ckK (fn : Fn) (is : List Nat) (ops : List Op) : List (Option D) × Env → Option (D × Env) := fun (ts, ρ) => bd (fetchC fn.pins (permL is ops) (permL is ts) ρ) (caK1 fn (permL is ops))
@[simp] theorem ckK_e (fn : Fn) (is : List Nat) (ops : List Op) (ts : List (Option D)) (ρ : Env) : ckK fn is ops (ts, ρ) = bd (fetchC fn.pins (permL is ops) (permL is ts) ρ) (caK1 fn (permL is ops)) := nrfl rfl
@[simp] theorem seqF_e (f g : FS) (ρ : Env) : seqF f g ρ = bd (f ρ) (outK g) := by
  unfold seqF bd
  congr 1
@[simp] theorem asgF_e (f : FE) (g : D → Env → Option Env) (ρ : Env) : asgF f g ρ = bd (f ρ) (asgK g) := nrfl rfl
@[simp] theorem dropF_e (f : FE) (ρ : Env) : dropF f ρ = bd (f ρ) dropK := nrfl rfl
@[simp] theorem retF_e (f : FE) (ρ : Env) : retF f ρ = bd (f ρ) retK := nrfl rfl
@[simp] theorem retN_e (ρ : Env) : retN ρ = some (.rt .non ρ) := nrfl rfl
@[simp] theorem passF_e (ρ : Env) : passF ρ = some (.nx ρ) := nrfl rfl
@[simp] theorem brkF_e (ρ : Env) : brkF ρ = some (.bk ρ) := nrfl rfl
@[simp] theorem cntF_e (ρ : Env) : cntF ρ = some (.ct ρ) := nrfl rfl
@[simp] theorem neverF_e (ρ : Env) : neverF ρ = none := nrfl rfl
@[simp] theorem ifF_e (c : FB) (f g : FS) (ρ : Env) : ifF c f g ρ = bd (c ρ) (ifK f g) := nrfl rfl
@[simp] theorem tgN_e (i : Nat) (d : D) (ρ : Env) : tgN i d ρ = some (ρ.set i (some d)) := nrfl rfl
@[simp] theorem tgNil_e (ρ : Env) : tgNil [] ρ = some ρ := nrfl rfl
@[simp] theorem tgCons_e (g : D → Env → Option Env) (gs : List D → Env → Option Env) (d : D) (r : List D) (ρ : Env) : tgCons g gs (d :: r) ρ = bd (g d ρ) (tgcK gs r) := nrfl rfl
@[simp] theorem tgT_e (n : Nat) (gs : List D → Env → Option Env) (xs : List D) (ρ : Env) : tgT n gs (.tup xs) ρ = gb (decide (xs.length = n)) (gs xs ρ) := gb_ite _
@[simp] theorem tgSub_e (k : Nat) (oi : Op) (d : D) (ρ : Env) : tgSub k oi d ρ = bd (getS ρ k) (sub1K k oi d ρ) := nrfl rfl
@[simp] theorem subPut_e (ρ : Env) (k : Nat) (d : D) (i : Int) (xs : List D) : subPut ρ k d [.int i] (some (.lst true xs)) = bd (ixN xs.length i) (putAt ρ k d xs) := nrfl rfl
@[simp] theorem tstF_e (o : Op) (ρ : Env) : tstF o ρ = bd (evOps [o] ρ) (truK o) := by
  unfold tstF bd
  congr 1
@[simp] theorem notF_e (f : FB) (ρ : Env) : notF f ρ = bd (f ρ) notK := nrfl rfl
@[simp] theorem andF_e (f g : FB) (ρ : Env) : andF f g ρ = bd (f ρ) (andK g) := nrfl rfl
@[simp] theorem orF_e (f g : FB) (ρ : Env) : orF f g ρ = bd (f ρ) (orK g) := nrfl rfl
@[simp] theorem yesF_e (ρ : Env) : yesF ρ = some (true, ρ) := nrfl rfl
@[simp] theorem bT_e (f : FE) (ρ : Env) : bT f ρ = bd (f ρ) blK := by
  unfold bT bd
  congr 1
  funext p
  obtain ⟨d, ρ⟩ := p
  cases d <;> rfl
@[simp] theorem bE_e (f : FB) (ρ : Env) : bE f ρ = bd (f ρ) bEK := nrfl rfl
@[simp] theorem ifE_e (c : FB) (f g : FE) (ρ : Env) : ifE c f g ρ = bd (c ρ) (ifEK f g) := nrfl rfl
def thenK {α β γ : Type} (f : α → Option β) (g : β → Option γ) : α → Option γ := fun a => bd (f a) g
@[simp] theorem thenK_e {α β γ : Type} (f : α → Option β) (g : β → Option γ) (a : α) : thenK f g a = bd (f a) g := nrfl rfl
@[simp] theorem andV_e (f g : FE) (ρ : Env) : andV f g ρ = bd (f ρ) (thenK blK (andVK g)) := by
  unfold andV bd
  congr 1
  funext p
  obtain ⟨d, ρ⟩ := p
  cases d <;> first | rfl | (rename_i b; cases b <;> rfl)
@[simp] theorem orV_e (f g : FE) (ρ : Env) : orV f g ρ = bd (f ρ) (thenK blK (orVK g)) := by
  unfold orV bd
  congr 1
  funext p
  obtain ⟨d, ρ⟩ := p
  cases d <;> first | rfl | (rename_i b; cases b <;> rfl)
@[simp] theorem notV_e (f : FE) (ρ : Env) : notV f ρ = bd (f ρ) (thenK blK notVK) := by
  unfold notV bd
  congr 1
  funext p
  obtain ⟨d, ρ⟩ := p
  cases d <;> rfl
@[simp] theorem litF_e (d : D) (ρ : Env) : litF d ρ = some (d, ρ) := nrfl rfl
@[simp] theorem varF_e (i : Nat) (ρ : Env) : varF i ρ = bd (getS ρ i) (varK ρ i) := nrfl rfl
@[simp] theorem movF_e (i : Nat) (ρ : Env) : movF i ρ = bd (getS ρ i) (setK ρ i) := nrfl rfl
@[simp] theorem getS_z (a : Option D) (ρ : Env) : getS (a :: ρ) 0 = a := by
  cases a <;> rfl
@[simp] theorem getS_s (a : Option D) (ρ : Env) (n : Nat) : getS (a :: ρ) (n + 1) = getS ρ n := nrfl rfl
@[simp] theorem evOps_nil (ρ : Env) : evOps [] ρ = some ([], ρ) := nrfl rfl
@[simp] theorem evOps_b (i : Nat) (r : List Op) (ρ : Env) : evOps (.b i :: r) ρ = bd (getS ρ i) (evbK r ρ) := nrfl rfl
@[simp] theorem evOps_t (f : FE) (r : List Op) (ρ : Env) : evOps (.t f :: r) ρ = bd (f ρ) (evtK r) := nrfl rfl
@[simp] theorem fetch_nil (ts : List (Option D)) (ρ : Env) : fetch [] ts ρ = some [] := nrfl rfl
@[simp] theorem fetch_b (i : Nat) (r : List Op) (t : Option D) (ts : List (Option D)) (ρ : Env) : fetch (.b i :: r) (t :: ts) ρ = bd (getS ρ i) (febK r ts ρ) := nrfl rfl
@[simp] theorem fetch_t (f : FE) (r : List Op) (d : D) (ts : List (Option D)) (ρ : Env) : fetch (.t f :: r) (some d :: ts) ρ = bd (fetch r ts ρ) (consK d) := nrfl rfl
@[simp] theorem takeN_nil (ts : List (Option D)) (ρ : Env) : takeN [] ts ρ = some [] := nrfl rfl
@[simp] theorem takeN_b (i : Nat) (r : List Op) (t : Option D) (ts : List (Option D)) (ρ : Env) : takeN (.b i :: r) (t :: ts) ρ = bd (getS ρ i) (tabK r ts ρ) := nrfl rfl
@[simp] theorem takeN_t (f : FE) (r : List Op) (d : D) (ts : List (Option D)) (ρ : Env) : takeN (.t f :: r) (some d :: ts) ρ = bd (takeN r ts ρ) (consK d) := nrfl rfl
@[simp] theorem opF_e (g : List D → Option D) (ops : List Op) (ρ : Env) : opF g ops ρ = bd (evOps ops ρ) (opK g ops) := nrfl rfl
@[simp] theorem tupF_e (ops : List Op) (ρ : Env) : tupF ops ρ = bd (evOps ops ρ) (tupK ops) := by
  unfold tupF tupK tupK2 bd; congr 1; funext p; congr 1; funext ds; exact gb_ite _
@[simp] theorem lstF_e (ops : List Op) (ρ : Env) : lstF ops ρ = bd (evOps ops ρ) (lstK ops) := by
  unfold lstF lstK lstK2 bd; congr 1; funext p; congr 1; funext ds; exact gb_ite _
@[simp] theorem parF_e (is : List Nat) (ops : List Op) (ρ : Env) : parF is ops ρ = bd (evOps ops ρ) (parK is ops) := by
  unfold parF parK parK2 bd; congr 1; funext p; congr 1; funext ds; exact gb_ite _
@[simp] theorem setAll_c (i : Nat) (is : List Nat) (d : D) (ds : List D) (ρ : Env) : setAll (i :: is) (d :: ds) ρ = setAll is ds (ρ.set i (some d)) := nrfl rfl
@[simp] theorem setAll_n (ρ : Env) : setAll [] [] ρ = ρ := nrfl rfl
@[simp] theorem mutF_e (i : Nat) (g : List D → List D → Option (D × List D)) (ops : List Op) (ρ : Env) : mutF i g ops ρ = gb (isO (getS ρ i)) (bd (evOps ops ρ) (mutK0 g i ops)) := by
  unfold mutF
  cases h : getS ρ i with
  | none => rfl
  | some d =>
    cases d with
    | lst o xs =>
      cases o with
      | false => rfl
      | true =>
        simp only [isO_e, gb_t]
        unfold mutK0 bd
        congr 1
    | _ => rfl
@[simp] theorem augF_e (i : Nat) (g : List D → Option D) (o : Op) (ρ : Env) : augF i g o ρ = bd (getS ρ i) (augK i g o ρ) := by
  unfold augF bd; congr 1
/-! calls -/
@[simp] theorem fetchC_nil (ρ : Env) : fetchC [] [] [] ρ = some ([], ρ) := nrfl rfl
@[simp] theorem fetchC_b (p : Bool) (ps : List Bool) (i : Nat) (r : List Op) (t : Option D) (ts : List (Option D)) (ρ : Env) : fetchC (p :: ps) (.b i :: r) (t :: ts) ρ = bd (getS ρ i) (fcbK p ps i r ts ρ) := by
  cases t <;> rfl
@[simp] theorem fetchC_t (p : Bool) (ps : List Bool) (f : FE) (r : List Op) (d : D) (ts : List (Option D)) (ρ : Env) : fetchC (p :: ps) (.t f :: r) (some d :: ts) ρ = bd (fetchC ps r ts ρ) (fcK d) := nrfl rfl
@[simp] theorem putB_n (ds : List D) (os : List (Option D)) (ρ : Env) : putB [] ds os ρ = ρ := nrfl rfl
@[simp] theorem putB_b (i : Nat) (r : List Op) (d : D) (ds : List D) (o : Option D) (os : List (Option D)) (ρ : Env) : putB (.b i :: r) (d :: ds) (o :: os) ρ = putB r ds os (cond (noOwn d) ρ (ρ.set i o)) := by
  show (if noOwn d = true then _ else _) = _
  cases noOwn d <;> rfl
@[simp] theorem putB_t (f : FE) (r : List Op) (d : D) (ds : List D) (o : Option D) (os : List (Option D)) (ρ : Env) : putB (.t f :: r) (d :: ds) (o :: os) ρ = putB r ds os ρ := nrfl rfl
@[simp] theorem callF_e (fn : Fn) (ops : List Op) (ρ : Env) : callF fn ops ρ = bd (evOps ops ρ) (caK fn ops) := nrfl rfl
@[simp] theorem callKF_e (fn : Fn) (is : List Nat) (ops : List Op) (ρ : Env) : callKF fn is ops ρ = bd (evOps ops ρ) (ckK fn is ops) := nrfl rfl
@[simp] theorem permL_n {α : Type} (xs : List α) : permL [] xs = [] := nrfl rfl
@[simp] theorem permL_c {α : Type} (i : Nat) (is : List Nat) (xs : List α) : permL (i :: is) xs = (xs[i]?).toList ++ permL is xs := by
  unfold permL
  cases h : xs[i]? <;> simp [List.filterMap_cons, h]
def finK (pins : List Bool) : Out → Option (D × List (Option D))
  | .rt d ρ => some (d, finP pins ρ)
  | .nx ρ => some (.non, finP pins ρ)
  | _ => none
@[simp] theorem finK_rt (pins : List Bool) (d : D) (ρ : Env) : finK pins (.rt d ρ) = some (d, finP pins ρ) := nrfl rfl
@[simp] theorem finK_nx (pins : List Bool) (ρ : Env) : finK pins (.nx ρ) = some (.non, finP pins ρ) := nrfl rfl
@[simp] theorem finP_n (ρ : Env) : finP [] ρ = [] := by cases ρ <;> rfl
@[simp] theorem finP_t (ps : List Bool) (o : Option D) (ρ : Env) : finP (true :: ps) (o :: ρ) = o :: finP ps ρ := nrfl rfl
@[simp] theorem finP_f (ps : List Bool) (o : Option D) (ρ : Env) : finP (false :: ps) (o :: ρ) = none :: finP ps ρ := nrfl rfl
theorem bodyFn_sem (nN np : Nat) (pins : List Bool) (f : FS) (ds : List D) : (bodyFn nN np pins f).sem ds = gb (decide (ds.length = np)) (bd (f (ds.map some ++ List.replicate (nN - np) none)) (finK pins)) := by
  show bodySem nN np pins f ds = _
  unfold bodySem
  by_cases h : ds.length = np
  · rw [if_pos h]; simp only [h, decide_true, gb_t]
    cases e : f (ds.map some ++ List.replicate (nN - np) none) with
    | none => rfl
    | some o => cases o <;> rfl
  · rw [if_neg h]; simp [h]
@[simp] theorem bodyFn_pins (nN np : Nat) (pins : List Bool) (f : FS) : (bodyFn nN np pins f).pins = pins := nrfl rfl
end VS
set_option Elab.async false
set_option linter.all false
set_option maxRecDepth 100000
namespace VS
open PySem PySem.Spec PyProof.Rows L2 RZ
/-! ### the operations' values -/
@[simp] theorem noOwn_non : noOwn .non = true := by simp [noOwn]
@[simp] theorem noOwn_bl (b : Bool) : noOwn (.bl b) = true := by simp [noOwn]
@[simp] theorem noOwn_int (i : Int) : noOwn (.int i) = true := by simp [noOwn]
@[simp] theorem noOwn_str (i : Str) : noOwn (.str i) = true := by simp [noOwn]
@[simp] theorem noOwn_ty (i : String) : noOwn (.ty i) = true := by simp [noOwn]
@[simp] theorem noOwn_scr (i : List Int) : noOwn (.scr i) = true := by simp [noOwn]
@[simp] theorem noOwn_tup (xs : List D) : noOwn (.tup xs) = noOwns xs := by simp [noOwn]
@[simp] theorem noOwn_lst (o : Bool) (xs : List D) : noOwn (.lst o xs) = (!o && noOwns xs) := by simp [noOwn]
@[simp] theorem noOwns_nil : noOwns [] = true := by simp [noOwns]
@[simp] theorem noOwns_cons (x : D) (xs : List D) : noOwns (x :: xs) = (noOwn x && noOwns xs) := by simp [noOwns]
theorem noOwns_all : ∀ {xs : List D}, (∀ x ∈ xs, noOwn x = true) → noOwns xs = true
  | [], _ => by simp
  | x :: xs, h => by simp [h x (by simp), noOwns_all (xs := xs) fun y hy => h y (by simp [hy])]
theorem noOwns_map {α : Type} {f : α → D} (h : ∀ x, noOwn (f x) = true) (xs : List α) : noOwns (xs.map f) = true := noOwns_all fun x hx => by
  obtain ⟨a, _, rfl⟩ := List.mem_map.mp hx
  exact h a
@[simp] theorem noOwns_ints (xs : List Int) : noOwns (xs.map D.int) = true := noOwns_map (fun _ => by simp) xs
theorem noOwns_append (xs ys : List D) : noOwns (xs ++ ys) = (noOwns xs && noOwns ys) := by
  induction xs with
  | nil => simp
  | cons x xs ih => simp [ih, Bool.and_assoc]
mutual
theorem freeze_of {d : D} (h : noOwn d = true) : freeze d = d := by
  cases d with
  | tup xs => simp only [noOwn_tup] at h; simp only [freeze, freezes_of h]
  | lst o xs =>
    simp only [noOwn_lst, Bool.and_eq_true, Bool.not_eq_true'] at h
    simp only [freeze, freezes_of h.2, h.1]
  | dct o kvs => cases o with
    | false => simp only [freeze]
    | true => cases h
  | _ => simp only [freeze]
theorem freezes_of {xs : List D} (h : noOwns xs = true) : freezes xs = xs := by
  cases xs with
  | nil => simp only [freezes]
  | cons x xs =>
    simp only [noOwns_cons, Bool.and_eq_true] at h
    simp only [freezes, freeze_of h.1, freezes_of h.2]
end
@[simp] theorem freeze_lst (o : Bool) (xs : List D) : freeze (.lst o xs) = .lst false (freezes xs) := by simp only [freeze]
@[simp] theorem freezes_ints (xs : List Int) : freezes (xs.map D.int) = xs.map D.int := freezes_of (noOwns_ints xs)
@[simp] theorem freezes_nil : freezes [] = [] := by simp only [freezes]
@[simp] theorem freezes_cons (x : D) (xs : List D) : freezes (x :: xs) = freeze x :: freezes xs := by simp only [freezes]
@[simp] theorem addD_i (a b : Int) : addD [.int a, .int b] = some (.int (a + b)) := nrfl rfl
theorem addD_l {o o' : Bool} {xs ys : List D} (h1 : noOwns xs = true) (h2 : noOwns ys = true) (h3 : xs.length + ys.length ≤ 100000) : addD [.lst o xs, .lst o' ys] = some (.lst true (xs ++ ys)) := by
  show (if noOwns xs = true ∧ noOwns ys = true ∧ xs.length + ys.length ≤ smallL then _ else _) = _
  rw [if_pos ⟨h1, h2, h3⟩]
theorem addD_t {xs ys : List D} (h1 : noOwns xs = true) (h2 : noOwns ys = true) (h3 : xs.length + ys.length ≤ 100000) : addD [.tup xs, .tup ys] = some (.tup (xs ++ ys)) := by
  show (if noOwns xs = true ∧ noOwns ys = true ∧ xs.length + ys.length ≤ smallL then _ else _) = _
  rw [if_pos ⟨h1, h2, h3⟩]
@[simp] theorem subD_i (a b : Int) : subD [.int a, .int b] = some (.int (a - b)) := nrfl rfl
@[simp] theorem mulD_i (a b : Int) : mulD [.int a, .int b] = gb (mulOk a b) (some (.int (a * b))) := gb_ite (p := mulOk a b = true) _ |>.trans (by simp)
theorem mulOk_l {a b : Int} (h1 : -18446744073709551616 < a) (h2 : a < 18446744073709551616) : mulOk a b = true := by
  unfold mulOk; simp [h1, h2]
theorem mulOk_r {a b : Int} (h1 : -18446744073709551616 < b) (h2 : b < 18446744073709551616) : mulOk a b = true := by
  unfold mulOk; simp [h1, h2]
theorem mulD_n {o : Bool} {xs : List D} {k : Int} (h1 : noOwns xs = true) (h2 : -1000000 ≤ k) (h3 : k ≤ 1000000) (h4 : xs.length * k.toNat ≤ 100000) : mulD [.lst o xs, .int k] = some (.lst true (List.replicate k.toNat xs).flatten) := by
  show (if _ then _ else _) = _
  rw [if_pos ⟨h1, h2, h3, h4⟩]
@[simp] theorem fdivD_i (a b : Int) : fdivD [.int a, .int b] = gb (fdivOk b) (some (.int (a.fdiv b))) := gb_ite (p := fdivOk b = true) _ |>.trans (by simp)
theorem fdivOk_s {b : Int} (h1 : b ≠ 0) (h2 : -1073741824 < b) (h3 : b < 1073741824) : fdivOk b = true := by
  unfold fdivOk
  have : b ≠ 0 ∧ b.natAbs < 1073741824 := ⟨h1, by omega⟩
  simp [this]
@[simp] theorem modD_i (a b : Int) : modD [.int a, .int b] = gb (decide (b ≠ 0)) (some (.int (a.fmod b))) := gb_ite (p := b ≠ 0) _
@[simp] theorem powD_i (a b : Int) : powD [.int a, .int b] = gb (powOk a b) (some (.int (a ^ b.toNat))) := gb_ite (p := powOk a b = true) _ |>.trans (by simp)
@[simp] theorem negD_i (a : Int) : negD [.int a] = some (.int (-a)) := nrfl rfl
@[simp] theorem ltD_i (a b : Int) : ltD [.int a, .int b] = some (.bl (decide (a < b))) := nrfl rfl
@[simp] theorem leD_i (a b : Int) : leD [.int a, .int b] = some (.bl (decide (a ≤ b))) := nrfl rfl
@[simp] theorem gtD_i (a b : Int) : gtD [.int a, .int b] = some (.bl (decide (b < a))) := nrfl rfl
@[simp] theorem geD_i (a b : Int) : geD [.int a, .int b] = some (.bl (decide (b ≤ a))) := nrfl rfl
@[simp] theorem iaddD_i (a b : Int) : iaddD [.int a, .int b] = some (.int (a + b)) := nrfl rfl
@[simp] theorem isubD_i (a b : Int) : isubD [.int a, .int b] = some (.int (a - b)) := nrfl rfl
@[simp] theorem lenD_l (o : Bool) (xs : List D) : lenD [.lst o xs] = some (.int xs.length) := nrfl rfl
@[simp] theorem lenD_t (xs : List D) : lenD [.tup xs] = some (.int xs.length) := nrfl rfl
@[simp] theorem lenD_s (ns : List Int) : lenD [.scr ns] = some (.int ns.length) := nrfl rfl
@[simp] theorem intD_i (a : Int) : intD [.int a] = some (.int a) := nrfl rfl
@[simp] theorem intD_b (b : Bool) : intD [.bl b] = some (.int (if b then 1 else 0)) := nrfl rfl
@[simp] theorem max2D_i (a b : Int) : max2D [.int a, .int b] = some (.int (if b > a then b else a)) := nrfl rfl
@[simp] theorem min2D_i (a b : Int) : min2D [.int a, .int b] = some (.int (if b < a then b else a)) := nrfl rfl
@[simp] theorem absD_i (a : Int) : absD [.int a] = some (.int (if a < 0 then -a else a)) := nrfl rfl
theorem tupleD_l {o : Bool} {xs : List D} (h : noOwns xs = true) : tupleD [.lst o xs] = some (.tup xs) := if_pos h
@[simp] theorem isNonD_e (x : D) : isNonD [x, .non] = some (.bl (isNon x)) := by cases x <;> rfl
@[simp] theorem notNonD_e (x : D) : notNonD [x, .non] = some (.bl (!isNon x)) := by cases x <;> rfl
@[simp] theorem isNon_non : isNon .non = true := nrfl rfl
@[simp] theorem isNon_int (i : Int) : isNon (.int i) = false := nrfl rfl
@[simp] theorem isNon_bl (i : Bool) : isNon (.bl i) = false := nrfl rfl
@[simp] theorem isNon_str (i : Str) : isNon (.str i) = false := nrfl rfl
@[simp] theorem isNon_tup (i : List D) : isNon (.tup i) = false := nrfl rfl
@[simp] theorem isNon_lst (o : Bool) (i : List D) : isNon (.lst o i) = false := nrfl rfl
@[simp] theorem truD_bl (b : Bool) : truD (.bl b) = some b := nrfl rfl
@[simp] theorem truD_int (i : Int) : truD (.int i) = some (i != 0) := nrfl rfl
@[simp] theorem truD_non : truD .non = some false := nrfl rfl
@[simp] theorem truD_tup (xs : List D) : truD (.tup xs) = some (!xs.isEmpty) := nrfl rfl
@[simp] theorem truD_lst (o : Bool) (xs : List D) : truD (.lst o xs) = some (!xs.isEmpty) := nrfl rfl
/-! places in a list -/
theorem ixN_nn {n : Nat} {i : Int} (h : 0 ≤ i) (h2 : i < n) : ixN n i = some i.toNat := by unfold ixN; rw [if_pos h, if_pos h2]
theorem ixN_neg {n : Nat} {i : Int} (h : i < 0) (h2 : -(n : Int) ≤ i) : ixN n i = some (i + n).toNat := by unfold ixN; rw [if_neg (by omega), if_pos h2]
theorem ixN_nat {n k : Nat} (h2 : k < n) : ixN n (k : Int) = some k := by rw [ixN_nn (by omega) (by omega)]; simp
theorem atI_nat {α : Type} {xs : List α} {k : Nat} {x : α} (h : xs[k]? = some x) : atI xs (k : Int) = some x := by
  unfold atI
  rw [ixN_nat (List.getElem?_eq_some_iff.mp h).1]
  exact h
theorem atI_neg {α : Type} {xs : List α} {i : Int} {x : α} (h : i < 0) (h2 : -(xs.length : Int) ≤ i) (e : xs[(i + xs.length).toNat]? = some x) : atI xs i = some x := by
  unfold atI
  rw [ixN_neg h h2]
  exact e
@[simp] theorem atI_0 {α : Type} (x : α) (xs : List α) : atI (x :: xs) 0 = some x := atI_nat (k := 0) rfl
@[simp] theorem atI_1 {α : Type} (x y : α) (xs : List α) : atI (x :: y :: xs) 1 = some y := atI_nat (k := 1) rfl
@[simp] theorem atI_2 {α : Type} (x y z : α) (xs : List α) : atI (x :: y :: z :: xs) 2 = some z := atI_nat (k := 2) rfl
@[simp] theorem ixN_0 (n : Nat) : ixN (n + 1) 0 = some 0 := ixN_nat (k := 0) (by omega)
@[simp] theorem ixN_1 (n : Nat) : ixN (n + 1 + 1) 1 = some 1 := ixN_nat (k := 1) (by omega)
@[simp] theorem ixN_2 (n : Nat) : ixN (n + 1 + 1 + 1) 2 = some 2 := ixN_nat (k := 2) (by omega)
def ownK : D → Option D := fun d => gb (noOwn d) (some d)
@[simp] theorem ownK_e (d : D) : ownK d = gb (noOwn d) (some d) := nrfl rfl
theorem ownK_of : (fun d : D => if noOwn d = true then some d else none) = ownK := by
  funext d; exact (gb_ite (p := noOwn d = true) _).trans (by simp)
@[simp] theorem ixD_l (o : Bool) (xs : List D) (i : Int) : ixD [.lst o xs, .int i] = bd (atI xs i) ownK := by
  show (atI xs i).bind _ = _; rw [ownK_of]; rfl
@[simp] theorem ixD_t (xs : List D) (i : Int) : ixD [.tup xs, .int i] = bd (atI xs i) ownK := by
  show (atI xs i).bind _ = _; rw [ownK_of]; rfl
def intK : Int → Option D := fun d => some (.int d)
@[simp] theorem intK_e (d : Int) : intK d = some (.int d) := nrfl rfl
@[simp] theorem ixD_s (xs : List Int) (i : Int) : ixD [.scr xs, .int i] = bd (atI xs i) intK := nrfl rfl
/-! equality -/
@[simp] theorem eqOk_int (i : Int) : eqOk (.int i) = true := nrfl rfl
@[simp] theorem eqOk_bl (i : Bool) : eqOk (.bl i) = true := nrfl rfl
@[simp] theorem eqOk_non : eqOk .non = true := nrfl rfl
@[simp] theorem eqD_e (x y : D) : eqD [x, y] = gb (eqOk x && eqOk y) (some (.bl (deq x y))) := by
  show (if _ then _ else _) = _
  rw [gb_ite]; simp
@[simp] theorem neD_e (x y : D) : neD [x, y] = gb (eqOk x && eqOk y) (some (.bl (!deq x y))) := by
  show (if _ then _ else _) = _
  rw [gb_ite]; simp
@[simp] theorem deq_int (i j : Int) : deq (.int i) (.int j) = decide (i = j) := by
  unfold deq pyD PyData.eqv
  by_cases h : i = j <;> simp [h]
@[simp] theorem deq_bl (i j : Bool) : deq (.bl i) (.bl j) = (i == j) := by
  unfold deq pyD PyData.eqv; rfl
/-! the lists' methods -/
theorem appD_e {xs : List D} (d : D) (h : xs.length < 100000) : appD xs [d] = some (.non, xs ++ [d]) := if_pos h
theorem popD_e (xs : List D) (d : D) : popD (xs ++ [d]) [] = some (d, xs) := by
  unfold popD
  simp [List.eraseIdx_append_of_length_le]
/-! ranges -/
theorem rng1D_e {j : Int} (h1 : -4611686018427387904 ≤ j) (h2 : j < 4611686018427387904) : rng1D [.int j] = some (intsTo 0 j.toNat) := if_pos ⟨h1, h2⟩
theorem rng2D_e {i j : Int} (h1 : -4611686018427387904 ≤ i) (h2 : i < 4611686018427387904) (h3 : -4611686018427387904 ≤ j) (h4 : j < 4611686018427387904) : rng2D [.int i, .int j] = some (intsTo i (j - i).toNat) := if_pos ⟨h1, h2, h3, h4⟩
theorem rng3D_e {i j : Int} (h1 : -4611686018427387904 ≤ i) (h2 : i < 4611686018427387904) (h3 : -4611686018427387904 ≤ j) (h4 : j < 4611686018427387904) : rng3D [.int i, .int j, .int (-1)] = some (intsBy i (-1) (i - j).toNat) := if_pos ⟨rfl, h1, h2, h3, h4⟩
def lrgK : List D → Option D := fun xs => gb (decide (xs.length ≤ smallL)) (some (.lst true xs))
theorem lrgK_e {xs : List D} (h : xs.length ≤ 100000) : lrgK xs = some (.lst true xs) := by
  unfold lrgK; rw [gb_of]; exact decide_eq_true h
@[simp] theorem lrgD_e (rd : List D → Option (List D)) (ds : List D) : lrgD rd ds = bd (rd ds) lrgK := by
  unfold lrgD bd lrgK; congr 1; funext xs; exact gb_ite _
theorem intsTo_map (n : Nat) : intsTo 0 n = (List.range n).map fun i => D.int (i : Nat) := by
  unfold intsTo; simp
/-! what is gone through -/
@[simp] theorem seqD_l (o : Bool) (xs : List D) : seqD (.lst o xs) = some (freezes xs) := nrfl rfl
@[simp] theorem seqD_t (xs : List D) : seqD (.tup xs) = some (freezes xs) := nrfl rfl
def seqK : D × Env → Option (List D × Env) := fun p => bd (seqD p.1) fun xs => some (xs, p.2)
def withK (ρ : Env) : List D → Option (List D × Env) := fun xs => some (xs, ρ)
@[simp] theorem withK_e (ρ : Env) (xs : List D) : withK ρ xs = some (xs, ρ) := nrfl rfl
@[simp] theorem seqK_e (d : D) (ρ : Env) : seqK (d, ρ) = bd (seqD d) (withK ρ) := nrfl rfl
@[simp] theorem itSeq_e (f : FE) (ρ : Env) : itSeq f ρ = bd (f ρ) seqK := nrfl rfl
def enumL (xs : List D) : List D := ((intsTo 0 xs.length).zip xs).map fun q => .tup [q.1, q.2]
def enK2 (ρ : Env) : List D → Option (List D × Env) := fun xs => some (enumL xs, ρ)
@[simp] theorem enK2_e (ρ : Env) (xs : List D) : enK2 ρ xs = some (enumL xs, ρ) := nrfl rfl
def enK : D × Env → Option (List D × Env) := fun p => bd (seqD p.1) (enK2 p.2)
@[simp] theorem enK_e (d : D) (ρ : Env) : enK (d, ρ) = bd (seqD d) (enK2 ρ) := nrfl rfl
@[simp] theorem itEnum_e (f : FE) (ρ : Env) : itEnum f ρ = bd (f ρ) enK := nrfl rfl
def rgK2 (rd : List D → Option (List D)) (ρ : Env) : List D → Option (List D × Env) := fun ds => bd (rd ds) (withK ρ)
@[simp] theorem rgK2_e (rd : List D → Option (List D)) (ρ : Env) (ds : List D) : rgK2 rd ρ ds = bd (rd ds) (withK ρ) := nrfl rfl
def rgK (rd : List D → Option (List D)) (ops : List Op) : List (Option D) × Env → Option (List D × Env) := fun p => bd (fetch ops p.1 p.2) (rgK2 rd p.2)
@[simp] theorem rgK_e (rd : List D → Option (List D)) (ops : List Op) (ts : List (Option D)) (ρ : Env) : rgK rd ops (ts, ρ) = bd (fetch ops ts ρ) (rgK2 rd ρ) := nrfl rfl
@[simp] theorem itRg_e (rd : List D → Option (List D)) (ops : List Op) (ρ : Env) : itRg rd ops ρ = bd (evOps ops ρ) (rgK rd ops) := nrfl rfl
def zipL (xs ys : List D) : List D := (xs.zip ys).map fun u => .tup [u.1, u.2]
def ziK3 (ρ : Env) : List D × List D → Option (List D × Env) := fun r => some (zipL r.1 r.2, ρ)
@[simp] theorem ziK3_e (ρ : Env) (xs ys : List D) : ziK3 ρ (xs, ys) = some (zipL xs ys, ρ) := nrfl rfl
def ziK2 (d : D) : D × Env → Option (List D × Env) := fun q => bd (pairD d q.1) (ziK3 q.2)
@[simp] theorem ziK2_e (d e : D) (ρ : Env) : ziK2 d (e, ρ) = bd (pairD d e) (ziK3 ρ) := nrfl rfl
def ziK (g : FE) : D × Env → Option (List D × Env) := fun p => bd (g p.2) (ziK2 p.1)
@[simp] theorem ziK_e (g : FE) (d : D) (ρ : Env) : ziK g (d, ρ) = bd (g ρ) (ziK2 d) := nrfl rfl
@[simp] theorem itZip_e (f g : FE) (ρ : Env) : itZip f g ρ = bd (f ρ) (ziK g) := nrfl rfl
@[simp] theorem pairD_l (o o' : Bool) (xs ys : List D) : pairD (.lst o xs) (.lst o' ys) = some (freezes xs, freezes ys) := nrfl rfl
@[simp] theorem pairD_t (xs ys : List D) : pairD (.tup xs) (.tup ys) = some (freezes xs, freezes ys) := nrfl rfl
/-! loops -/
def goForK (tg : D → Env → Option Env) (body : FS) : List D × Env → Option Out := fun p => goFor tg body p.1 p.2
@[simp] theorem goForK_e (tg : D → Env → Option Env) (body : FS) (ds : List D) (ρ : Env) : goForK tg body (ds, ρ) = goFor tg body ds ρ := nrfl rfl
@[simp] theorem forF_e (it : FI) (tg : D → Env → Option Env) (body : FS) (ρ : Env) : forF it tg body ρ = bd (it ρ) (goForK tg body) := nrfl rfl
@[simp] theorem whF_e (n : Nat) (c : FB) (body : FS) (ρ : Env) : whF n c body ρ = goWhile c body n ρ := nrfl rfl
@[simp] theorem goFor_nil (tg : D → Env → Option Env) (body : FS) (ρ : Env) : goFor tg body [] ρ = some (.nx ρ) := nrfl rfl
def loopK (k : Env → Option Out) : Out → Option Out
  | .nx ρ2 => k ρ2
  | .ct ρ2 => k ρ2
  | .bk ρ2 => some (.nx ρ2)
  | .rt d ρ2 => some (.rt d ρ2)
  | .rz n d ρ2 => some (.rz n d ρ2)
@[simp] theorem loopK_rz (k : Env → Option Out) (n : Str) (d : D) (ρ : Env) : loopK k (.rz n d ρ) = some (.rz n d ρ) := nrfl rfl
@[simp] theorem loopK_nx (k : Env → Option Out) (ρ : Env) : loopK k (.nx ρ) = k ρ := nrfl rfl
@[simp] theorem loopK_ct (k : Env → Option Out) (ρ : Env) : loopK k (.ct ρ) = k ρ := nrfl rfl
@[simp] theorem loopK_bk (k : Env → Option Out) (ρ : Env) : loopK k (.bk ρ) = some (.nx ρ) := nrfl rfl
@[simp] theorem loopK_rt (k : Env → Option Out) (d : D) (ρ : Env) : loopK k (.rt d ρ) = some (.rt d ρ) := nrfl rfl
/-- one turn: the target stored, the body -/
def turn (tg : D → Env → Option Env) (body : FS) (d : D) (ρ : Env) : Option Out := bd (tg d ρ) body
theorem turn_e (tg : D → Env → Option Env) (body : FS) (d : D) (ρ : Env) : turn tg body d ρ = bd (tg d ρ) body := rfl
theorem goFor_cons (tg : D → Env → Option Env) (body : FS) (d : D) (ds : List D) (ρ : Env) : goFor tg body (d :: ds) ρ = bd (turn tg body d ρ) (loopK (goFor tg body ds)) := by
  unfold turn bd
  show (tg d ρ).bind _ = _
  cases tg d ρ with
  | none => rfl
  | some ρ1 =>
    show (body ρ1).bind _ = (body ρ1).bind _
    rfl
/-- a loop that goes through all: what holds in front of each turn -/
theorem for_inv {tg : D → Env → Option Env} {body : FS} (I : Nat → Env → Prop) {ds : List D} {ρ : Env} (h0 : I 0 ρ)
    (hs : ∀ i d ρ, ds[i]? = some d → I i ρ → ∃ ρ2, (turn tg body d ρ = some (.nx ρ2) ∨ turn tg body d ρ = some (.ct ρ2)) ∧ I (i + 1) ρ2) : ∃ ρ', goFor tg body ds ρ = some (.nx ρ') ∧ I ds.length ρ' := by
  induction ds generalizing ρ I with
  | nil => exact ⟨ρ, rfl, h0⟩
  | cons d ds ih =>
    obtain ⟨ρ2, h, i2⟩ := hs 0 d ρ rfl h0
    obtain ⟨ρ', h', i'⟩ := ih (fun i => I (i + 1)) i2 fun i d ρ e j => hs (i + 1) d ρ e j
    refine ⟨ρ', ?_, i'⟩
    rw [goFor_cons]
    rcases h with h | h <;> rw [h] <;> exact h'
/-- a comprehension: each turn gives one thing -/
def lcK2 : List D × Env → Option (D × Env) := fun q => gb (decide (q.1.length ≤ smallL)) (some (.lst true q.1, q.2))
@[simp] theorem lcK2_e (xs : List D) (ρ : Env) : lcK2 (xs, ρ) = gb (decide (xs.length ≤ smallL)) (some (.lst true xs, ρ)) := nrfl rfl
def lcK (vs : List Nat) (fg : D → Env → Option Env) (ft : FB) (fe : FE) : List D × Env → Option (D × Env) := fun p => bd (goLc vs fg ft fe p.1 (wipeD p.2 vs)) lcK2
@[simp] theorem lcK_e (vs : List Nat) (fg : D → Env → Option Env) (ft : FB) (fe : FE) (ds : List D) (ρ : Env) : lcK vs fg ft fe (ds, ρ) = bd (goLc vs fg ft fe ds (wipeD ρ vs)) lcK2 := nrfl rfl
@[simp] theorem lcF_e (vs : List Nat) (fi : FI) (fg : D → Env → Option Env) (ft : FB) (fe : FE) (ρ : Env) : lcF vs fi fg ft fe ρ = bd (fi ρ) (lcK vs fg ft fe) := by
  unfold lcF lcK lcK2 bd; congr 1; funext p; congr 1; funext q; exact gb_ite _
@[simp] theorem wipeD_n (ρ : Env) : wipeD ρ [] = ρ := nrfl rfl
@[simp] theorem wipeD_c (ρ : Env) (v : Nat) (vs : List Nat) : wipeD ρ (v :: vs) = (wipeD ρ vs).set v none := nrfl rfl
/-- one turn of a comprehension without if -/
def lcTurn (vs : List Nat) (fg : D → Env → Option Env) (fe : FE) (d : D) (ρ : Env) : Option (D × Env) := bd (bd (fg d ρ) fe) fun q => some (q.1, wipeD q.2 vs)
def wipeK (vs : List Nat) : D × Env → Option (D × Env) := fun q => some (q.1, wipeD q.2 vs)
@[simp] theorem wipeK_e (vs : List Nat) (d : D) (ρ : Env) : wipeK vs (d, ρ) = some (d, wipeD ρ vs) := nrfl rfl
theorem lcTurn_e (vs : List Nat) (fg : D → Env → Option Env) (fe : FE) (d : D) (ρ : Env) : lcTurn vs fg fe d ρ = bd (bd (fg d ρ) fe) (wipeK vs) := rfl
end VS
set_option Elab.async false
set_option linter.all false
set_option maxRecDepth 100000
namespace VS
open PySem PySem.Spec PyProof.Rows L2 RZ
@[simp] theorem isL_e (o : Bool) (xs : List D) : isL (some (.lst o xs)) = true := nrfl rfl
@[simp] theorem methF_e (i : Nat) (g : List D → Option D) (ops : List Op) (ρ : Env) : methF i g ops ρ = gb (isL (getS ρ i)) (bd (evOps (.b i :: ops) ρ) (opK g (.b i :: ops))) := by
  unfold methF gb
  rw [opF_e]
def chK5 (p' : Int → Int → Bool) (j : Int) (ρ : Env) : Int → Option (D × Env) := fun m => some (.bl (p' j m), ρ)
@[simp] theorem chK5_e (p' : Int → Int → Bool) (j : Int) (ρ : Env) (m : Int) : chK5 p' j ρ m = some (.bl (p' j m), ρ) := nrfl rfl
def chK4 (p' : Int → Int → Bool) (j : Int) (ρ : Env) : List D → Option (D × Env) := fun es => bd (int1 es) (chK5 p' j ρ)
@[simp] theorem chK4_e (p' : Int → Int → Bool) (j : Int) (ρ : Env) (m : Int) : chK4 p' j ρ [.int m] = some (.bl (p' j m), ρ) := nrfl rfl
def chK3 (p' : Int → Int → Bool) (o3 : Op) (j : Int) : List (Option D) × Env → Option (D × Env) := fun P => bd (fetch [o3] P.1 P.2) (chK4 p' j P.2)
@[simp] theorem chK3_e (p' : Int → Int → Bool) (o3 : Op) (j : Int) (ts : List (Option D)) (ρ : Env) : chK3 p' o3 j (ts, ρ) = bd (fetch [o3] ts ρ) (chK4 p' j ρ) := nrfl rfl
def chT (p' : Int → Int → Bool) (o3 : Op) (j : Int) : Env → Option (D × Env) := fun ρ => bd (evOps [o3] ρ) (chK3 p' o3 j)
@[simp] theorem chT_e (p' : Int → Int → Bool) (o3 : Op) (j : Int) (ρ : Env) : chT p' o3 j ρ = bd (evOps [o3] ρ) (chK3 p' o3 j) := nrfl rfl
def chK2 (p p' : Int → Int → Bool) (o3 : Op) (ρ : Env) : List D → Option (D × Env) := fun ds => bd (int2 ds) fun ij => ift (p ij.1 ij.2) (chT p' o3 ij.2) (bvK false) ρ
@[simp] theorem chK2_e (p p' : Int → Int → Bool) (o3 : Op) (ρ : Env) (i j : Int) : chK2 p p' o3 ρ [.int i, .int j] = ift (p i j) (chT p' o3 j) (bvK false) ρ := nrfl rfl
def chK1 (p p' : Int → Int → Bool) (o1 o2 o3 : Op) : List (Option D) × Env → Option (D × Env) := fun P => bd (fetch [o1, o2] P.1 P.2) (chK2 p p' o3 P.2)
@[simp] theorem chK1_e (p p' : Int → Int → Bool) (o1 o2 o3 : Op) (ts : List (Option D)) (ρ : Env) : chK1 p p' o1 o2 o3 (ts, ρ) = bd (fetch [o1, o2] ts ρ) (chK2 p p' o3 ρ) := nrfl rfl
@[simp] theorem chainF_e (p p' : Int → Int → Bool) (o1 o2 o3 : Op) (ρ : Env) : chainF p p' o1 o2 o3 ρ = bd (evOps [o1, o2] ρ) (chK1 p p' o1 o2 o3) := nrfl rfl
@[simp] theorem isBlD_e (a b : Bool) : isBlD [.bl a, .bl b] = some (.bl (decide (a = b))) := nrfl rfl
@[simp] theorem notBlD_e (a b : Bool) : notBlD [.bl a, .bl b] = some (.bl (!decide (a = b))) := nrfl rfl
end VS
set_option Elab.async false
set_option linter.all false
set_option maxRecDepth 100000
namespace VS
open PySem PySem.Spec PyProof.Rows L2 RZ
def neElK2 (ρ : Env) : Option D → Option (D × Env)
  | some (.lst true ys) => gb (eqOk (.lst true ys)) (some (.bl (!deq (.lst true ys) (.lst true [])), ρ))
  | _ => none
@[simp] theorem neElK2_e (ρ : Env) (ys : List D) : neElK2 ρ (some (.lst true ys)) = gb (eqOk (.lst true ys)) (some (.bl (!deq (.lst true ys) (.lst true [])), ρ)) := nrfl rfl
def neElK (j : Nat) (ρ : Env) : Option D → Option (D × Env)
  | some (.lst true xs) => neElK2 ρ (xs[j]?)
  | _ => none
@[simp] theorem neElK_e (j : Nat) (ρ : Env) (xs : List D) : neElK j ρ (some (.lst true xs)) = neElK2 ρ (xs[j]?) := nrfl rfl
@[simp] theorem neElF_e (i j : Nat) (ρ : Env) : neElF i j ρ = neElK j ρ (getS ρ i) := by
  unfold neElF
  cases getS ρ i with
  | none => rfl
  | some d =>
    cases d with
    | lst o xs =>
      cases o with
      | false => rfl
      | true =>
        rw [neElK_e]
        show (match xs[j]? with
          | some (.lst true ys) => if eqOk (.lst true ys) = true then some (D.bl (!deq (.lst true ys) (.lst true [])), ρ) else none
          | _ => none) = _
        cases xs[j]? with
        | none => rfl
        | some d =>
          cases d with
          | lst o ys =>
            cases o with
            | false => rfl
            | true => exact (gb_ite (p := eqOk (.lst true ys) = true) _).trans (by simp)
          | _ => rfl
    | _ => rfl
def popElK3 (i j : Nat) (xs : List D) (ρ : Env) : D × List D → Option (D × Env) := fun q => some (q.1, ρ.set i (some (.lst true (xs.set j (.lst true q.2)))))
@[simp] theorem popElK3_e (i j : Nat) (xs : List D) (ρ : Env) (d : D) (ys : List D) : popElK3 i j xs ρ (d, ys) = some (d, ρ.set i (some (.lst true (xs.set j (.lst true ys))))) := nrfl rfl
def popElK2 (i j : Nat) (xs : List D) (ρ : Env) : Option D → Option (D × Env)
  | some (.lst true ys) => gb (noOwns ys) (bd (popD ys []) (popElK3 i j xs ρ))
  | _ => none
@[simp] theorem popElK2_e (i j : Nat) (xs : List D) (ρ : Env) (ys : List D) : popElK2 i j xs ρ (some (.lst true ys)) = gb (noOwns ys) (bd (popD ys []) (popElK3 i j xs ρ)) := nrfl rfl
def popElK (i j : Nat) (ρ : Env) : Option D → Option (D × Env)
  | some (.lst true xs) => popElK2 i j xs ρ (xs[j]?)
  | _ => none
@[simp] theorem popElK_e (i j : Nat) (ρ : Env) (xs : List D) : popElK i j ρ (some (.lst true xs)) = popElK2 i j xs ρ (xs[j]?) := nrfl rfl
@[simp] theorem popElF_e (i j : Nat) (ρ : Env) : popElF i j ρ = popElK i j ρ (getS ρ i) := by
  unfold popElF
  cases getS ρ i with
  | none => rfl
  | some d =>
    cases d with
    | lst o xs =>
      cases o with
      | false => rfl
      | true =>
        rw [popElK_e]
        show (match xs[j]? with
          | some (.lst true ys) => if noOwns ys = true then (popD ys []).bind fun q => some (q.1, ρ.set i (some (.lst true (xs.set j (.lst true q.2))))) else none
          | _ => none) = _
        cases xs[j]? with
        | none => rfl
        | some d =>
          cases d with
          | lst o ys =>
            cases o with
            | false => rfl
            | true => exact (gb_ite (p := noOwns ys = true) _).trans (by simp; rfl)
          | _ => rfl
    | _ => rfl
@[simp] theorem isBvD_b (a b : Bool) : isBvD [.bl a, .bl b] = some (.bl (decide (a = b))) := nrfl rfl
@[simp] theorem isBvD_i (a : Int) (b : Bool) : isBvD [.int a, .bl b] = some (.bl false) := nrfl rfl
@[simp] theorem isBvD_n (b : Bool) : isBvD [.non, .bl b] = some (.bl false) := nrfl rfl
@[simp] theorem notBvD_b (a b : Bool) : notBvD [.bl a, .bl b] = some (.bl (!decide (a = b))) := nrfl rfl
@[simp] theorem notBvD_i (a : Int) (b : Bool) : notBvD [.int a, .bl b] = some (.bl true) := nrfl rfl
@[simp] theorem notBvD_n (b : Bool) : notBvD [.non, .bl b] = some (.bl true) := nrfl rfl
end VS
set_option Elab.async false
set_option linter.all false
set_option maxRecDepth 100000
namespace VS
open PySem PySem.Spec PyProof.Rows L2 RZ
@[simp] theorem flat1_bl (b : Bool) : flat1 (.bl b) = true := nrfl rfl
@[simp] theorem flat1_int (i : Int) : flat1 (.int i) = true := nrfl rfl
@[simp] theorem flat1_non : flat1 .non = true := nrfl rfl
def rdK3 (ρ : Env) : D × List (Option D) → Option (D × Env) := fun q => gb (flat1 q.1) (some (q.1, ρ))
@[simp] theorem rdK3_e (ρ : Env) (d : D) (os : List (Option D)) : rdK3 ρ (d, os) = gb (flat1 d) (some (d, ρ)) := nrfl rfl
def rdK2 (fn : Fn) (ρ : Env) : List D → Option (D × Env) := fun ds => bd (fn.sem (freezes ds)) (rdK3 ρ)
@[simp] theorem rdK2_e (fn : Fn) (ρ : Env) (ds : List D) : rdK2 fn ρ ds = bd (fn.sem (freezes ds)) (rdK3 ρ) := nrfl rfl
def rdK1 (fn : Fn) (ops : List Op) : List (Option D) × Env → Option (D × Env) := fun p => bd (fetch ops p.1 p.2) (rdK2 fn p.2)
@[simp] theorem rdK1_e (fn : Fn) (ops : List Op) (ts : List (Option D)) (ρ : Env) : rdK1 fn ops (ts, ρ) = bd (fetch ops ts ρ) (rdK2 fn ρ) := nrfl rfl
@[simp] theorem callRdF_e (fn : Fn) (ops : List Op) (ρ : Env) : callRdF fn ops ρ = bd (evOps ops ρ) (rdK1 fn ops) := by
  unfold callRdF bd
  congr 1
def cntK2 (k : Int) (ρ : Env) : List Int → Option (D × Env) := fun ns => some (.int (ns.count k : Nat), ρ)
@[simp] theorem cntK2_e (k : Int) (ρ : Env) (ns : List Int) : cntK2 k ρ ns = some (.int (ns.count k : Nat), ρ) := nrfl rfl
def cntK (k : Int) : D × Env → Option (D × Env) := fun p => match p.1 with
  | .lst _ xs => bd (intsOf xs) (cntK2 k p.2)
  | _ => none
@[simp] theorem cntK_e (k : Int) (o : Bool) (xs : List D) (ρ : Env) : cntK k (.lst o xs, ρ) = bd (intsOf xs) (cntK2 k ρ) := nrfl rfl
@[simp] theorem countF_e (k : Int) (f : FE) (ρ : Env) : countF k f ρ = bd (f ρ) (cntK k) := nrfl rfl
def elK2 (i j k : Nat) (xs : List D) (d : D) (ρ : Env) : Option D → Option Env
  | some (.lst true ys) => gb (noOwns ys && (noOwn d && decide (k < ys.length))) (some (ρ.set i (some (.lst true (xs.set j (.lst true (ys.set k d)))))))
  | _ => none
@[simp] theorem elK2_e (i j k : Nat) (xs : List D) (d : D) (ρ : Env) (ys : List D) : elK2 i j k xs d ρ (some (.lst true ys)) = gb (noOwns ys && (noOwn d && decide (k < ys.length))) (some (ρ.set i (some (.lst true (xs.set j (.lst true (ys.set k d))))))) := nrfl rfl
def elK (i j k : Nat) (d : D) (ρ : Env) : Option D → Option Env
  | some (.lst true xs) => elK2 i j k xs d ρ (xs[j]?)
  | _ => none
@[simp] theorem elK_e (i j k : Nat) (d : D) (ρ : Env) (xs : List D) : elK i j k d ρ (some (.lst true xs)) = elK2 i j k xs d ρ (xs[j]?) := nrfl rfl
@[simp] theorem tgElF_e (i j k : Nat) (d : D) (ρ : Env) : tgElF i j k d ρ = elK i j k d ρ (getS ρ i) := by
  unfold tgElF
  cases getS ρ i with
  | none => rfl
  | some d0 =>
    cases d0 with
    | lst o xs =>
      cases o with
      | false => rfl
      | true =>
        rw [elK_e]
        show (match xs[j]? with
          | some (.lst true ys) => if noOwns ys = true ∧ noOwn d = true ∧ k < ys.length then some (ρ.set i (some (.lst true (xs.set j (.lst true (ys.set k d)))))) else none
          | _ => none) = _
        cases xs[j]? with
        | none => rfl
        | some d1 =>
          cases d1 with
          | lst o ys =>
            cases o with
            | false => rfl
            | true => exact (gb_ite _).trans (by simp [Bool.decide_and])
          | _ => rfl
    | _ => rfl
end VS
set_option Elab.async false
set_option linter.all false
set_option maxRecDepth 100000
namespace VS
open PySem PySem.Spec PyProof.Rows L2 RZ
end VS
set_option Elab.async false
set_option linter.all false
set_option maxRecDepth 100000
namespace VS
open PySem PySem.Spec PyProof.Rows L2 RZ
end VS
set_option Elab.async false
set_option linter.all false
set_option maxRecDepth 100000
namespace VS
open PySem PySem.Spec PyProof.Rows L2 RZ
def asg2K3 : Env → Option Out := fun ρ => some (.nx ρ)
@[simp] theorem asg2K3_e (ρ : Env) : asg2K3 ρ = some (.nx ρ) := nrfl rfl
def asg2K2 (g2 : D → Env → Option Env) (d : D) : Env → Option Out := fun ρ => bd (g2 d ρ) asg2K3
@[simp] theorem asg2K2_e (g2 : D → Env → Option Env) (d : D) (ρ : Env) : asg2K2 g2 d ρ = bd (g2 d ρ) asg2K3 := nrfl rfl
def asg2K (g1 g2 : D → Env → Option Env) : D × Env → Option Out := fun p => gb (noOwn p.1) (bd (g1 p.1 p.2) (asg2K2 g2 p.1))
@[simp] theorem asg2K_e (g1 g2 : D → Env → Option Env) (d : D) (ρ : Env) : asg2K g1 g2 (d, ρ) = gb (noOwn d) (bd (g1 d ρ) (asg2K2 g2 d)) := nrfl rfl
@[simp] theorem asg2F_e (f : FE) (g1 g2 : D → Env → Option Env) (ρ : Env) : asg2F f g1 g2 ρ = bd (f ρ) (asg2K g1 g2) := by
  unfold asg2F bd
  congr 1
end VS
set_option Elab.async false
set_option linter.all false
set_option maxRecDepth 100000
namespace VS
open PySem PySem.Spec PyProof.Rows L2 RZ
def revK2 (ρ : Env) : List D → Option (List D × Env) := fun xs => some (xs.reverse, ρ)
@[simp] theorem revK2_e (ρ : Env) (xs : List D) : revK2 ρ xs = some (xs.reverse, ρ) := nrfl rfl
def revK : D × Env → Option (List D × Env) := fun p => bd (seqD p.1) (revK2 p.2)
@[simp] theorem revK_e (d : D) (ρ : Env) : revK (d, ρ) = bd (seqD d) (revK2 ρ) := nrfl rfl
@[simp] theorem itRev_e (f : FE) (ρ : Env) : itRev f ρ = bd (f ρ) revK := nrfl rfl
def elKi (i : Int) : D → Option (Int × Int)
  | .int a => some (i, a)
  | _ => none
@[simp] theorem elKi_e (i a : Int) : elKi i (.int a) = some (i, a) := nrfl rfl
@[simp] theorem elemI_e (i : Int) (xs : List D) : elemI [.int i] (some (.lst true xs)) = bd (atI xs i) (elKi i) := by
  unfold elemI bd
  dsimp only
  cases atI xs i with
  | none => rfl
  | some d => cases d <;> rfl
@[simp] theorem intA1_e (b : Int) : intA1 [.int b] = some b := nrfl rfl
def nxKe : Env → Option Out := fun ρ' => some (.nx ρ')
@[simp] theorem nxKe_e (ρ : Env) : nxKe ρ = some (.nx ρ) := nrfl rfl
def auS7 (k : Nat) (f : Int → Int → Int) (i a : Int) (ρ : Env) : Int → Option Out := fun b => bd (tgSub k (.t (litF (.int i))) (.int (f a b)) ρ) nxKe
@[simp] theorem auS7_e (k : Nat) (f : Int → Int → Int) (i a : Int) (ρ : Env) (b : Int) : auS7 k f i a ρ b = bd (tgSub k (.t (litF (.int i))) (.int (f a b)) ρ) nxKe := nrfl rfl
def auS6 (k : Nat) (f : Int → Int → Int) (i a : Int) (ρ : Env) : List D → Option Out := fun ds => bd (intA1 ds) (auS7 k f i a ρ)
@[simp] theorem auS6_e (k : Nat) (f : Int → Int → Int) (i a : Int) (ρ : Env) (ds : List D) : auS6 k f i a ρ ds = bd (intA1 ds) (auS7 k f i a ρ) := nrfl rfl
def auS5 (k : Nat) (f : Int → Int → Int) (o : Op) (i a : Int) : List (Option D) × Env → Option Out := fun p => bd (fetch [o] p.1 p.2) (auS6 k f i a p.2)
@[simp] theorem auS5_e (k : Nat) (f : Int → Int → Int) (o : Op) (i a : Int) (ts : List (Option D)) (ρ : Env) : auS5 k f o i a (ts, ρ) = bd (fetch [o] ts ρ) (auS6 k f i a ρ) := nrfl rfl
def auS4 (k : Nat) (f : Int → Int → Int) (o : Op) (ρ : Env) : Int × Int → Option Out := fun p => bd (evOps [o] ρ) (auS5 k f o p.1 p.2)
@[simp] theorem auS4_e (k : Nat) (f : Int → Int → Int) (o : Op) (ρ : Env) (i a : Int) : auS4 k f o ρ (i, a) = bd (evOps [o] ρ) (auS5 k f o i a) := nrfl rfl
def auS3 (k : Nat) (f : Int → Int → Int) (o : Op) (ρ : Env) : List D → Option Out := fun is => bd (elemI is (getS ρ k)) (auS4 k f o ρ)
@[simp] theorem auS3_e (k : Nat) (f : Int → Int → Int) (o : Op) (ρ : Env) (is : List D) : auS3 k f o ρ is = bd (elemI is (getS ρ k)) (auS4 k f o ρ) := nrfl rfl
def auS2 (k : Nat) (oi : Op) (f : Int → Int → Int) (o : Op) : List (Option D) × Env → Option Out := fun p => bd (fetch [oi] p.1 p.2) (auS3 k f o p.2)
@[simp] theorem auS2_e (k : Nat) (oi : Op) (f : Int → Int → Int) (o : Op) (ts : List (Option D)) (ρ : Env) : auS2 k oi f o (ts, ρ) = bd (fetch [oi] ts ρ) (auS3 k f o ρ) := nrfl rfl
def auS1 (k : Nat) (oi : Op) (f : Int → Int → Int) (o : Op) (ρ : Env) : D → Option Out := fun _ => bd (evOps [oi] ρ) (auS2 k oi f o)
@[simp] theorem auS1_e (k : Nat) (oi : Op) (f : Int → Int → Int) (o : Op) (ρ : Env) (d : D) : auS1 k oi f o ρ d = bd (evOps [oi] ρ) (auS2 k oi f o) := nrfl rfl
@[simp] theorem augSF_e (k : Nat) (oi : Op) (f : Int → Int → Int) (o : Op) (ρ : Env) : augSF k oi f o ρ = bd (getS ρ k) (auS1 k oi f o ρ) := nrfl rfl
end VS
set_option Elab.async false
set_option linter.all false
set_option maxRecDepth 100000
namespace VS
open PySem PySem.Spec PyProof.Rows L2 RZ
@[simp] theorem dvmD_i (a b : Int) : dvmD [.int a, .int b] = gb (dvmOk b) (some (.tup [.int (a.fdiv b), .int (a.fmod b)])) := gb_ite (p := dvmOk b = true) _ |>.trans (by simp)
end VS
set_option Elab.async false
set_option linter.all false
set_option maxRecDepth 100000
namespace VS
open PySem PySem.Spec PyProof.Rows L2 RZ
def frzK2 : D × Env → Option (D × Env) := fun p => some (freeze p.1, p.2)
@[simp] theorem frzK2_e (d : D) (ρ : Env) : frzK2 (d, ρ) = some (freeze d, ρ) := nrfl rfl
@[simp] theorem frzF_e (f : FE) (ρ : Env) : frzF f ρ = bd (f ρ) frzK2 := nrfl rfl
end VS
set_option Elab.async false
set_option linter.all false
set_option maxRecDepth 100000
namespace VS
open PySem PySem.Spec PyProof.Rows L2 RZ
def rdkK2 (fn : Fn) (is : List Nat) (ρ : Env) : List D → Option (D × Env) := fun ds => bd (fn.sem (permL is (freezes ds))) (rdK3 ρ)
@[simp] theorem rdkK2_e (fn : Fn) (is : List Nat) (ρ : Env) (ds : List D) : rdkK2 fn is ρ ds = bd (fn.sem (permL is (freezes ds))) (rdK3 ρ) := nrfl rfl
def rdkK1 (fn : Fn) (is : List Nat) (ops : List Op) : List (Option D) × Env → Option (D × Env) := fun p => bd (fetch ops p.1 p.2) (rdkK2 fn is p.2)
@[simp] theorem rdkK1_e (fn : Fn) (is : List Nat) (ops : List Op) (ts : List (Option D)) (ρ : Env) : rdkK1 fn is ops (ts, ρ) = bd (fetch ops ts ρ) (rdkK2 fn is ρ) := nrfl rfl
@[simp] theorem callRdKF_e (fn : Fn) (is : List Nat) (ops : List Op) (ρ : Env) : callRdKF fn is ops ρ = bd (evOps ops ρ) (rdkK1 fn is ops) := by
  unfold callRdKF bd
  congr 1
end VS
set_option Elab.async false
set_option linter.all false
set_option maxRecDepth 100000
namespace VS
open PySem PySem.Spec PyProof.Rows L2 RZ
@[simp] theorem outK_rz (g : FS) (n : Str) (d : D) (ρ : Env) : outK g (.rz n d ρ) = some (.rz n d ρ) := nrfl rfl
@[simp] theorem noOwn_exc (n : Str) (d : D) : noOwn (.exc n d) = true := nrfl rfl
@[simp] theorem freeze_exc (n : Str) (d : D) : freeze (.exc n d) = .exc n d := nrfl rfl
def rzK : Str × D × Env → Option Out := fun q => some (.rz q.1 q.2.1 q.2.2)
@[simp] theorem rzK_e (n : Str) (d : D) (ρ : Env) : rzK (n, d, ρ) = some (.rz n d ρ) := nrfl rfl
def orXK (g : RX) (ρ : Env) : Option Out → Option Out
  | some o => some o
  | none => bd (g ρ) rzK
@[simp] theorem orXK_s (g : RX) (ρ : Env) (o : Out) : orXK g ρ (some o) = some o := nrfl rfl
@[simp] theorem orXK_n (g : RX) (ρ : Env) : orXK g ρ none = bd (g ρ) rzK := nrfl rfl
@[simp] theorem orX_e (f : FS) (g : RX) (ρ : Env) : orX f g ρ = orXK g ρ (f ρ) := by
  unfold orX orXK bd rzK
  cases f ρ <;> rfl
def orRK (h : RX) (ρ : Env) : Option (Str × D × Env) → Option (Str × D × Env)
  | some o => some o
  | none => h ρ
@[simp] theorem orRK_s (g : RX) (ρ : Env) (o : Str × D × Env) : orRK g ρ (some o) = some o := nrfl rfl
@[simp] theorem orRK_n (g : RX) (ρ : Env) : orRK g ρ none = g ρ := nrfl rfl
@[simp] theorem orR_e (g h : RX) (ρ : Env) : orR g h ρ = orRK h ρ (g ρ) := by
  unfold orR orRK
  cases g ρ <;> rfl
@[simp] theorem noR_e (ρ : Env) : noR ρ = none := nrfl rfl
def thK (g : RX) : List (Option D) × Env → Option (Str × D × Env) := fun p => g p.2
@[simp] theorem thK_e (g : RX) (ts : List (Option D)) (ρ : Env) : thK g (ts, ρ) = g ρ := nrfl rfl
@[simp] theorem thenR_e (o : Op) (g : RX) (ρ : Env) : thenR o g ρ = bd (evOps [o] ρ) (thK g) := nrfl rfl
def thTK (g h : RX) : Bool × Env → Option (Str × D × Env) := fun p => ift p.1 g h p.2
@[simp] theorem thTK_e (g h : RX) (b : Bool) (ρ : Env) : thTK g h (b, ρ) = ift b g h ρ := nrfl rfl
@[simp] theorem thenT_e (c : FB) (g h : RX) (ρ : Env) : thenT c g h ρ = bd (c ρ) (thTK g h) := nrfl rfl
def rzK3 (ops : List Op) (ds : List D) (ρ : Env) : Str × D × List (Option D) → Option (Str × D × Env) := fun q => some (q.1, q.2.1, putB ops ds q.2.2 ρ)
@[simp] theorem rzK3_e (ops : List Op) (ds : List D) (ρ : Env) (n : Str) (d : D) (os : List (Option D)) : rzK3 ops ds ρ (n, d, os) = some (n, d, putB ops ds os ρ) := nrfl rfl
def rzK2 (rz : Rz) (ops : List Op) : List D × Env → Option (Str × D × Env) := fun c => bd (rz c.1) (rzK3 ops c.1 c.2)
@[simp] theorem rzK2_e (rz : Rz) (ops : List Op) (ds : List D) (ρ : Env) : rzK2 rz ops (ds, ρ) = bd (rz ds) (rzK3 ops ds ρ) := nrfl rfl
def rzK1 (pins : List Bool) (rz : Rz) (ops : List Op) : List (Option D) × Env → Option (Str × D × Env) := fun p => bd (fetchC pins ops p.1 p.2) (rzK2 rz ops)
@[simp] theorem rzK1_e (pins : List Bool) (rz : Rz) (ops : List Op) (ts : List (Option D)) (ρ : Env) : rzK1 pins rz ops (ts, ρ) = bd (fetchC pins ops ts ρ) (rzK2 rz ops) := nrfl rfl
@[simp] theorem rzF_e (pins : List Bool) (rz : Rz) (ops : List Op) (ρ : Env) : rzF pins rz ops ρ = bd (evOps ops ρ) (rzK1 pins rz ops) := nrfl rfl
def rzkK1 (pins : List Bool) (rz : Rz) (is : List Nat) (ops : List Op) : List (Option D) × Env → Option (Str × D × Env) := fun p => bd (fetchC pins (permL is ops) (permL is p.1) p.2) (rzK2 rz (permL is ops))
@[simp] theorem rzkK1_e (pins : List Bool) (rz : Rz) (is : List Nat) (ops : List Op) (ts : List (Option D)) (ρ : Env) : rzkK1 pins rz is ops (ts, ρ) = bd (fetchC pins (permL is ops) (permL is ts) ρ) (rzK2 rz (permL is ops)) := nrfl rfl
@[simp] theorem rzKF_e (pins : List Bool) (rz : Rz) (is : List Nat) (ops : List Op) (ρ : Env) : rzKF pins rz is ops ρ = bd (evOps ops ρ) (rzkK1 pins rz is ops) := nrfl rfl
def raK (n : Str) : D × Env → Option Out := fun p => gb (noOwn p.1) (some (.rz n p.1 p.2))
@[simp] theorem raK_e (n : Str) (d : D) (ρ : Env) : raK n (d, ρ) = gb (noOwn d) (some (.rz n d ρ)) := nrfl rfl
@[simp] theorem raiseF_e (n : Str) (f : FE) (ρ : Env) : raiseF n f ρ = bd (f ρ) (raK n) := nrfl rfl
def clK (i : Option Nat) : Out → Option Out := clrO i
@[simp] theorem clK_nx0 (ρ : Env) : clK none (.nx ρ) = some (.nx ρ) := nrfl rfl
@[simp] theorem clK_bk0 (ρ : Env) : clK none (.bk ρ) = some (.bk ρ) := nrfl rfl
@[simp] theorem clK_ct0 (ρ : Env) : clK none (.ct ρ) = some (.ct ρ) := nrfl rfl
@[simp] theorem clK_nx (i : Nat) (ρ : Env) : clK (some i) (.nx ρ) = some (.nx (ρ.set i none)) := nrfl rfl
@[simp] theorem clK_bk (i : Nat) (ρ : Env) : clK (some i) (.bk ρ) = some (.bk (ρ.set i none)) := nrfl rfl
@[simp] theorem clK_ct (i : Nat) (ρ : Env) : clK (some i) (.ct ρ) = some (.ct (ρ.set i none)) := nrfl rfl
@[simp] theorem clK_rt (i : Option Nat) (d : D) (ρ : Env) : clK i (.rt d ρ) = some (.rt d ρ) := nrfl rfl
@[simp] theorem putE_n (ρ : Env) (n : Str) (d : D) : putE ρ n d none = ρ := nrfl rfl
@[simp] theorem putE_s (ρ : Env) (n : Str) (d : D) (i : Nat) : putE ρ n d (some i) = ρ.set i (some (.exc n d)) := nrfl rfl
@[simp] theorem goHd_n (ns : List Str) (n : Str) (d : D) (ρ : Env) : goHd ns n d ρ [] = some (.rz n d ρ) := nrfl rfl
def hdY (n : Str) (d : D) (i : Option Nat) (f : FS) : Env → Option Out := fun ρ => bd (f (putE ρ n d i)) (clK i)
@[simp] theorem hdY_e (n : Str) (d : D) (i : Option Nat) (f : FS) (ρ : Env) : hdY n d i f ρ = bd (f (putE ρ n d i)) (clK i) := nrfl rfl
def hdN (ns : List Str) (n : Str) (d : D) (r : List HdF) : Env → Option Out := fun ρ => goHd ns n d ρ r
@[simp] theorem hdN_e (ns : List Str) (n : Str) (d : D) (r : List HdF) (ρ : Env) : hdN ns n d r ρ = goHd ns n d ρ r := nrfl rfl
@[simp] theorem goHd_c (ns : List Str) (n : Str) (d : D) (ρ : Env) (c : Str) (i : Option Nat) (f : FS) (r : List HdF) : goHd ns n d ρ ((c, i, f) :: r) = gb (ns.contains n) (ift (subB n c) (hdY n d i f) (hdN ns n d r) ρ) := by
  unfold goHd gb
  by_cases h : ns.contains n = true
  · rw [if_pos h, if_pos h]
    by_cases h2 : subB n c = true
    · rw [if_pos h2, h2]; rfl
    · rw [if_neg h2]
      have : subB n c = false := by simpa using h2
      rw [this]; rfl
  · rw [if_neg h, if_neg h]
def tryK (ns : List Str) (hs : List HdF) : Out → Option Out
  | .rz n d ρ1 => goHd ns n d ρ1 hs
  | o => some o
@[simp] theorem tryK_nx (ns : List Str) (hs : List HdF) (ρ : Env) : tryK ns hs (.nx ρ) = some (.nx ρ) := nrfl rfl
@[simp] theorem tryK_bk (ns : List Str) (hs : List HdF) (ρ : Env) : tryK ns hs (.bk ρ) = some (.bk ρ) := nrfl rfl
@[simp] theorem tryK_ct (ns : List Str) (hs : List HdF) (ρ : Env) : tryK ns hs (.ct ρ) = some (.ct ρ) := nrfl rfl
@[simp] theorem tryK_rt (ns : List Str) (hs : List HdF) (d : D) (ρ : Env) : tryK ns hs (.rt d ρ) = some (.rt d ρ) := nrfl rfl
@[simp] theorem tryK_rz (ns : List Str) (hs : List HdF) (n : Str) (d : D) (ρ : Env) : tryK ns hs (.rz n d ρ) = goHd ns n d ρ hs := nrfl rfl
@[simp] theorem tryF_e (ns : List Str) (fb : FS) (hs : List HdF) (ρ : Env) : tryF ns fb hs ρ = bd (fb ρ) (tryK ns hs) := by
  unfold tryF bd
  congr 1
@[simp] theorem excValD_e (ns : List Str) (n : Str) (d : D) : excValD ns [.exc n d] = gb (ns.contains n) (some d) := gb_ite _ |>.trans (by simp)
@[simp] theorem isXD_e (ns : List Str) (c n : Str) (d : D) : isXD ns c [.exc n d] = gb (ns.contains n) (some (.bl (subB n c))) := gb_ite _ |>.trans (by simp)
@[simp] theorem isXD_n (ns : List Str) (c : Str) : isXD ns c [.non] = some (.bl false) := nrfl rfl
@[simp] theorem isXTD_e (ns cs : List Str) (n : Str) (d : D) : isXTD ns cs [.exc n d] = gb (ns.contains n) (some (.bl (cs.any (subB n)))) := gb_ite _ |>.trans (by simp)
@[simp] theorem isXTD_n (ns cs : List Str) : isXTD ns cs [.non] = some (.bl false) := nrfl rfl
@[simp] theorem frzD_non : freeze .non = .non := nrfl rfl
@[simp] theorem frzD_int (i : Int) : freeze (.int i) = .int i := nrfl rfl
@[simp] theorem frzD_bl (i : Bool) : freeze (.bl i) = .bl i := nrfl rfl
@[simp] theorem frzD_str (i : Str) : freeze (.str i) = .str i := nrfl rfl
@[simp] theorem isNon_exc (n : Str) (d : D) : isNon (.exc n d) = false := nrfl rfl
@[simp] theorem isNonD_exc (n : Str) (d : D) : isNonD [.exc n d, .non] = some (.bl false) := nrfl rfl
@[simp] theorem notNonD_exc (n : Str) (d : D) : notNonD [.exc n d, .non] = some (.bl true) := nrfl rfl
end VS
set_option Elab.async false
set_option linter.all false
set_option maxRecDepth 100000
namespace VS
open PySem PySem.Spec PyProof.Rows L2 RZ
@[simp] theorem isLq_s (o : Bool) (xs : List D) (ρ : Env) : isLq (some (.lst o xs, ρ)) = true := nrfl rfl
@[simp] theorem methTF_e (f : FE) (g : List D → Option D) (ops : List Op) (ρ : Env) : methTF f g ops ρ = gb (isLq (f ρ)) (bd (evOps (.t f :: ops) ρ) (opK g (.t f :: ops))) := by
  unfold methTF gb
  rw [opF_e]
end VS
set_option Elab.async false
set_option linter.all false
namespace VS
end VS
set_option Elab.async false
set_option linter.all false
set_option maxRecDepth 100000
namespace VS
open PySem PySem.Spec PyProof.Rows L2 RZ
@[simp] theorem noOwn_dct (o : Bool) (kvs : List (Int × Int)) : noOwn (.dct o kvs) = !o := nrfl rfl
@[simp] theorem freeze_dct (o : Bool) (kvs : List (Int × Int)) : freeze (.dct o kvs) = .dct false kvs := nrfl rfl
@[simp] theorem truD_dct (o : Bool) (kvs : List (Int × Int)) : truD (.dct o kvs) = some (!kvs.isEmpty) := nrfl rfl
@[simp] theorem dctF_e (ρ : Env) : dctF ρ = some (.dct true [], ρ) := nrfl rfl
def intO : Option Int → Option D
  | some v => some (.int v)
  | none => none
@[simp] theorem intO_s (v : Int) : intO (some v) = some (.int v) := nrfl rfl
@[simp] theorem dgetD_e (o : Bool) (kvs : List (Int × Int)) (k : Int) : dgetD [.dct o kvs, .int k] = intO (valI kvs k) := by
  show (valI kvs k).map D.int = _
  cases valI kvs k <;> rfl
/-- d[k] = v -/
def putK2 (ρ : Env) (k : Nat) (d : D) : List D → Option Env := fun ds => dputAt ρ k d ds
def dputO (ρ : Env) (k : Nat) (i v : Int) : Option D → Option Env
  | some (.dct true kvs) => gb (decide (kvs.length < smallL)) (some (ρ.set k (some (.dct true (putI kvs i v)))))
  | _ => none
@[simp] theorem dputO_e (ρ : Env) (k : Nat) (i v : Int) (kvs : List (Int × Int)) : dputO ρ k i v (some (.dct true kvs)) = gb (decide (kvs.length < smallL)) (some (ρ.set k (some (.dct true (putI kvs i v))))) := nrfl rfl
@[simp] theorem putK2_e (ρ : Env) (k : Nat) (v i : Int) : putK2 ρ k (.int v) [.int i] = dputO ρ k i v (getS ρ k) := by
  show dputAt ρ k (.int v) [.int i] = _
  unfold dputAt
  cases h : getS ρ k with
  | none => rfl
  | some d =>
    cases d with
    | dct o kvs => cases o with
      | true => exact gb_ite _
      | false => rfl
    | _ => rfl
def putK1 (k : Nat) (oi : Op) (d : D) : List (Option D) × Env → Option Env := fun (ts, ρ) => bd (fetch [oi] ts ρ) (putK2 ρ k d)
@[simp] theorem putK1_e (k : Nat) (oi : Op) (d : D) (ts : List (Option D)) (ρ : Env) : putK1 k oi d (ts, ρ) = bd (fetch [oi] ts ρ) (putK2 ρ k d) := nrfl rfl
def putK0 (k : Nat) (oi : Op) (d0 : D) (ρ : Env) : D → Option Env := fun _ => bd (evOps [oi] ρ) (putK1 k oi d0)
@[simp] theorem putK0_e (k : Nat) (oi : Op) (d0 : D) (ρ : Env) (d : D) : putK0 k oi d0 ρ d = bd (evOps [oi] ρ) (putK1 k oi d0) := nrfl rfl
@[simp] theorem tgPut_e (k : Nat) (oi : Op) (d : D) (ρ : Env) : tgPut k oi d ρ = bd (getS ρ k) (putK0 k oi d ρ) := nrfl rfl
/-- d.pop(k) -/
def isDo : Option D → Bool
  | some (.dct true _) => true
  | _ => false
@[simp] theorem isDo_e (kvs : List (Int × Int)) : isDo (some (.dct true kvs)) = true := nrfl rfl
def popKv (ρ : Env) (k : Nat) (i : Int) (kvs : List (Int × Int)) : Int → Option (D × Env) := fun v => some (.int v, ρ.set k (some (.dct true (dropI kvs i))))
@[simp] theorem popKv_e (ρ : Env) (k : Nat) (i : Int) (kvs : List (Int × Int)) (v : Int) : popKv ρ k i kvs v = some (.int v, ρ.set k (some (.dct true (dropI kvs i)))) := nrfl rfl
def popO (ρ : Env) (k : Nat) (i : Int) : Option D → Option (D × Env)
  | some (.dct true kvs) => bd (valI kvs i) (popKv ρ k i kvs)
  | _ => none
@[simp] theorem popO_e (ρ : Env) (k : Nat) (i : Int) (kvs : List (Int × Int)) : popO ρ k i (some (.dct true kvs)) = bd (valI kvs i) (popKv ρ k i kvs) := nrfl rfl
def popK2 (ρ : Env) (k : Nat) : List D → Option (D × Env) := fun ds => dpopAt ρ k ds
@[simp] theorem popK2_e (ρ : Env) (k : Nat) (i : Int) : popK2 ρ k [.int i] = popO ρ k i (getS ρ k) := by
  show dpopAt ρ k [.int i] = _
  unfold dpopAt
  cases h : getS ρ k with
  | none => rfl
  | some d =>
    cases d with
    | dct o kvs => cases o with
      | true => rfl
      | false => rfl
    | _ => rfl
def popK1 (k : Nat) (oi : Op) : List (Option D) × Env → Option (D × Env) := fun (ts, ρ) => bd (fetch [oi] ts ρ) (popK2 ρ k)
@[simp] theorem popK1_e (k : Nat) (oi : Op) (ts : List (Option D)) (ρ : Env) : popK1 k oi (ts, ρ) = bd (fetch [oi] ts ρ) (popK2 ρ k) := nrfl rfl
@[simp] theorem dpopF_e (k : Nat) (oi : Op) (ρ : Env) : dpopF k oi ρ = gb (isDo (getS ρ k)) (bd (evOps [oi] ρ) (popK1 k oi)) := by
  unfold dpopF
  cases h : getS ρ k with
  | none => rfl
  | some d =>
    cases d with
    | dct o kvs => cases o with
      | true => rfl
      | false => rfl
    | _ => rfl
/-- d.get(k, x) -/
def isDb : Option D → Bool
  | some (.dct _ _) => true
  | _ => false
@[simp] theorem isDb_e (o : Bool) (kvs : List (Int × Int)) : isDb (some (.dct o kvs)) = true := nrfl rfl
def getO (ρ : Env) (i z : Int) : Option D → Option (D × Env)
  | some (.dct _ kvs) => some (.int ((valI kvs i).getD z), ρ)
  | _ => none
@[simp] theorem getO_e (ρ : Env) (i z : Int) (o : Bool) (kvs : List (Int × Int)) : getO ρ i z (some (.dct o kvs)) = some (.int ((valI kvs i).getD z), ρ) := nrfl rfl
def getK2 (ρ : Env) (k : Nat) : List D → Option (D × Env) := fun ds => dget2At ρ k ds
@[simp] theorem getK2_e (ρ : Env) (k : Nat) (i z : Int) : getK2 ρ k [.int i, .int z] = getO ρ i z (getS ρ k) := by
  show dget2At ρ k [.int i, .int z] = _
  unfold dget2At
  cases h : getS ρ k with
  | none => rfl
  | some d => cases d <;> rfl
def getK1 (k : Nat) (o1 o2 : Op) : List (Option D) × Env → Option (D × Env) := fun (ts, ρ) => bd (fetch [o1, o2] ts ρ) (getK2 ρ k)
@[simp] theorem getK1_e (k : Nat) (o1 o2 : Op) (ts : List (Option D)) (ρ : Env) : getK1 k o1 o2 (ts, ρ) = bd (fetch [o1, o2] ts ρ) (getK2 ρ k) := nrfl rfl
@[simp] theorem dget2F_e (k : Nat) (o1 o2 : Op) (ρ : Env) : dget2F k o1 o2 ρ = gb (isDb (getS ρ k)) (bd (evOps [o1, o2] ρ) (getK1 k o1 o2)) := by
  unfold dget2F
  cases h : getS ρ k with
  | none => rfl
  | some d => cases d <;> rfl
end VS
set_option Elab.async false
set_option linter.all false
set_option maxRecDepth 100000
namespace VS
open PySem PySem.Spec PyProof.Rows L2 RZ
@[simp] theorem tgU_t (n : Nat) (gs : List D → Env → Option Env) (xs : List D) (ρ : Env) : tgU n gs (.tup xs) ρ = gb (decide (xs.length = n)) (gs xs ρ) := gb_ite _
@[simp] theorem tgU_l (n : Nat) (gs : List D → Env → Option Env) (xs : List D) (ρ : Env) : tgU n gs (.lst false xs) ρ = gb (decide (xs.length = n)) (gs xs ρ) := gb_ite _
end VS
set_option Elab.async false
set_option linter.all false
set_option maxRecDepth 100000
namespace VS
open PySem PySem.Spec PyProof.Rows L2 RZ
@[simp] theorem gcdD_e (a b : Int) : gcdD [.int a, .int b] = some (.int ((Nat.gcd a.natAbs b.natAbs : Nat) : Int)) := nrfl rfl
end VS
set_option Elab.async false
set_option linter.all false
set_option maxRecDepth 100000
namespace VS
open PySem PySem.Spec PyProof.Rows L2 RZ
@[simp] theorem sml_0 : decide (0 ≤ smallL) = true := decide_eq_true (by unfold smallL; omega)
@[simp] theorem sml_1 : decide (1 ≤ smallL) = true := decide_eq_true (by unfold smallL; omega)
@[simp] theorem sml_2 : decide (2 ≤ smallL) = true := decide_eq_true (by unfold smallL; omega)
@[simp] theorem sml_3 : decide (3 ≤ smallL) = true := decide_eq_true (by unfold smallL; omega)
@[simp] theorem sml_4 : decide (4 ≤ smallL) = true := decide_eq_true (by unfold smallL; omega)
@[simp] theorem sml_5 : decide (5 ≤ smallL) = true := decide_eq_true (by unfold smallL; omega)
@[simp] theorem sml_6 : decide (6 ≤ smallL) = true := decide_eq_true (by unfold smallL; omega)
@[simp] theorem sml_7 : decide (7 ≤ smallL) = true := decide_eq_true (by unfold smallL; omega)
@[simp] theorem sml_8 : decide (8 ≤ smallL) = true := decide_eq_true (by unfold smallL; omega)
@[simp] theorem sml_9 : decide (9 ≤ smallL) = true := decide_eq_true (by unfold smallL; omega)
@[simp] theorem sml_10 : decide (10 ≤ smallL) = true := decide_eq_true (by unfold smallL; omega)
@[simp] theorem sml_11 : decide (11 ≤ smallL) = true := decide_eq_true (by unfold smallL; omega)
@[simp] theorem sml_12 : decide (12 ≤ smallL) = true := decide_eq_true (by unfold smallL; omega)
@[simp] theorem sml_13 : decide (13 ≤ smallL) = true := decide_eq_true (by unfold smallL; omega)
@[simp] theorem sml_14 : decide (14 ≤ smallL) = true := decide_eq_true (by unfold smallL; omega)
@[simp] theorem sml_15 : decide (15 ≤ smallL) = true := decide_eq_true (by unfold smallL; omega)
@[simp] theorem sml_16 : decide (16 ≤ smallL) = true := decide_eq_true (by unfold smallL; omega)
@[simp] theorem sml_17 : decide (17 ≤ smallL) = true := decide_eq_true (by unfold smallL; omega)
@[simp] theorem sml_18 : decide (18 ≤ smallL) = true := decide_eq_true (by unfold smallL; omega)
@[simp] theorem sml_19 : decide (19 ≤ smallL) = true := decide_eq_true (by unfold smallL; omega)
@[simp] theorem sml_20 : decide (20 ≤ smallL) = true := decide_eq_true (by unfold smallL; omega)
@[simp] theorem sml_21 : decide (21 ≤ smallL) = true := decide_eq_true (by unfold smallL; omega)
@[simp] theorem sml_22 : decide (22 ≤ smallL) = true := decide_eq_true (by unfold smallL; omega)
@[simp] theorem sml_23 : decide (23 ≤ smallL) = true := decide_eq_true (by unfold smallL; omega)
@[simp] theorem sml_24 : decide (24 ≤ smallL) = true := decide_eq_true (by unfold smallL; omega)
@[simp] theorem sml_25 : decide (25 ≤ smallL) = true := decide_eq_true (by unfold smallL; omega)
@[simp] theorem sml_26 : decide (26 ≤ smallL) = true := decide_eq_true (by unfold smallL; omega)
@[simp] theorem sml_27 : decide (27 ≤ smallL) = true := decide_eq_true (by unfold smallL; omega)
@[simp] theorem sml_28 : decide (28 ≤ smallL) = true := decide_eq_true (by unfold smallL; omega)
@[simp] theorem sml_29 : decide (29 ≤ smallL) = true := decide_eq_true (by unfold smallL; omega)
@[simp] theorem sml_30 : decide (30 ≤ smallL) = true := decide_eq_true (by unfold smallL; omega)
@[simp] theorem sml_31 : decide (31 ≤ smallL) = true := decide_eq_true (by unfold smallL; omega)
@[simp] theorem sml_32 : decide (32 ≤ smallL) = true := decide_eq_true (by unfold smallL; omega)
end VS
set_option Elab.async false
set_option linter.all false
set_option maxRecDepth 100000
namespace VS
open PySem PySem.Spec PyProof.Rows L2 RZ
@[simp] theorem bandD_1 (a : Int) : bandD [.int a, .int 1] = gb (decide (0 ≤ a)) (some (.int (a % 2))) := by
  show (if 0 ≤ a ∧ (1 : Int) = 1 then _ else _) = _
  by_cases h : 0 ≤ a <;> simp [h, gb]
@[simp] theorem ishrD_1 (a : Int) : ishrD [.int a, .int 1] = some (.int (a / 2)) := nrfl rfl
@[simp] theorem tgStar_e (gs : List D → Env → Option Env) (x : D) (xs : List D) (ρ : Env) : tgStar gs (.lst false (x :: xs)) ρ = gb (decide (xs.length ≤ 16000)) (gs [x, .lst true xs] ρ) := by
  show (if xs.length ≤ 16000 then _ else _) = _
  by_cases h : xs.length ≤ 16000 <;> simp [h, gb]
def walK (i : Nat) (fb : FB) : D × Env → Option (Bool × Env) := fun (d, ρ1) => fb (ρ1.set i (some d))
@[simp] theorem walK_e (i : Nat) (fb : FB) (d : D) (ρ1 : Env) : walK i fb (d, ρ1) = fb (ρ1.set i (some d)) := nrfl rfl
@[simp] theorem walF_e (i : Nat) (f : FE) (fb : FB) (ρ : Env) : walF i f fb ρ = bd (f ρ) (walK i fb) := nrfl rfl
end VS
set_option Elab.async false
set_option linter.all false
set_option maxRecDepth 100000
namespace VS
open PySem PySem.Spec PyProof.Rows L2 RZ
def rtK3 (ρ : Env) : D × List (Option D) → Option (D × Env) := fun q => gb (pureT q.1) (some (q.1, ρ))
@[simp] theorem rtK3_e (ρ : Env) (d : D) (os : List (Option D)) : rtK3 ρ (d, os) = gb (pureT d) (some (d, ρ)) := nrfl rfl
def rtK2 (fn : Fn) (ρ : Env) : List D → Option (D × Env) := fun ds => bd (fn.sem (freezes ds)) (rtK3 ρ)
@[simp] theorem rtK2_e (fn : Fn) (ρ : Env) (ds : List D) : rtK2 fn ρ ds = bd (fn.sem (freezes ds)) (rtK3 ρ) := nrfl rfl
def rtK1 (fn : Fn) (ops : List Op) : List (Option D) × Env → Option (D × Env) := fun p => bd (fetch ops p.1 p.2) (rtK2 fn p.2)
@[simp] theorem rtK1_e (fn : Fn) (ops : List Op) (ts : List (Option D)) (ρ : Env) : rtK1 fn ops (ts, ρ) = bd (fetch ops ts ρ) (rtK2 fn ρ) := nrfl rfl
@[simp] theorem callRtF_e (fn : Fn) (ops : List Op) (ρ : Env) : callRtF fn ops ρ = bd (evOps ops ρ) (rtK1 fn ops) := by
  unfold callRtF bd
  congr 1
def rtkK2 (fn : Fn) (is : List Nat) (ρ : Env) : List D → Option (D × Env) := fun ds => bd (fn.sem (permL is (freezes ds))) (rtK3 ρ)
@[simp] theorem rtkK2_e (fn : Fn) (is : List Nat) (ρ : Env) (ds : List D) : rtkK2 fn is ρ ds = bd (fn.sem (permL is (freezes ds))) (rtK3 ρ) := nrfl rfl
def rtkK1 (fn : Fn) (is : List Nat) (ops : List Op) : List (Option D) × Env → Option (D × Env) := fun p => bd (fetch ops p.1 p.2) (rtkK2 fn is p.2)
@[simp] theorem rtkK1_e (fn : Fn) (is : List Nat) (ops : List Op) (ts : List (Option D)) (ρ : Env) : rtkK1 fn is ops (ts, ρ) = bd (fetch ops ts ρ) (rtkK2 fn is ρ) := nrfl rfl
@[simp] theorem callRtKF_e (fn : Fn) (is : List Nat) (ops : List Op) (ρ : Env) : callRtKF fn is ops ρ = bd (evOps ops ρ) (rtkK1 fn is ops) := by
  unfold callRtKF bd
  congr 1
@[simp] theorem pureT_tup (xs : List D) : pureT (.tup xs) = pureTs xs := nrfl rfl
@[simp] theorem pureT_int (i : Int) : pureT (.int i) = true := nrfl rfl
@[simp] theorem pureT_bl (i : Bool) : pureT (.bl i) = true := nrfl rfl
@[simp] theorem pureT_non : pureT .non = true := nrfl rfl
@[simp] theorem pureTs_nil : pureTs [] = true := nrfl rfl
@[simp] theorem pureTs_cons (x : D) (xs : List D) : pureTs (x :: xs) = (pureT x && pureTs xs) := nrfl rfl
end VS
set_option Elab.async false
set_option linter.all false
set_option maxRecDepth 100000
namespace VS
open PySem PySem.Spec PyProof.Rows L2 RZ
def slK3 (ρ : Env) (k : Nat) (d : D) : List D → Option Env := fun ds => slPut ρ k d ds (getS ρ k)
@[simp] theorem slK3_e (ρ : Env) (k : Nat) (d : D) (ds : List D) : slK3 ρ k d ds = slPut ρ k d ds (getS ρ k) := nrfl rfl
def slK2 (o1 o2 : Op) (k : Nat) (d : D) : List (Option D) × Env → Option Env := fun p => bd (fetch [o1, o2] p.1 p.2) (slK3 p.2 k d)
@[simp] theorem slK2_e (o1 o2 : Op) (k : Nat) (d : D) (ts : List (Option D)) (ρ : Env) : slK2 o1 o2 k d (ts, ρ) = bd (fetch [o1, o2] ts ρ) (slK3 ρ k d) := nrfl rfl
def slK1 (o1 o2 : Op) (k : Nat) (d : D) (ρ : Env) : D → Option Env := fun _ => bd (evOps [o1, o2] ρ) (slK2 o1 o2 k d)
@[simp] theorem slK1_e (o1 o2 : Op) (k : Nat) (d : D) (ρ : Env) (d0 : D) : slK1 o1 o2 k d ρ d0 = bd (evOps [o1, o2] ρ) (slK2 o1 o2 k d) := nrfl rfl
@[simp] theorem tgSlS_e (o1 o2 : Op) (k : Nat) (d : D) (ρ : Env) : tgSlS k o1 o2 d ρ = bd (getS ρ k) (slK1 o1 o2 k d ρ) := by
  unfold tgSlS bd slK1
  cases getS ρ k <;> rfl
@[simp] theorem slPut_e (ρ : Env) (k : Nat) (a c : Int) (xs ys : List D) : slPut ρ k (.lst true ys) [.int a, .int c] (some (.lst true xs)) = gb (decide (0 ≤ a) && (decide (a ≤ c) && (decide (c ≤ (xs.length : Int)) && (noOwns xs && (noOwns ys && decide (xs.length + ys.length ≤ smallL)))))) (some (ρ.set k (some (.lst true (xs.take a.toNat ++ ys ++ xs.drop c.toNat))))) := by
  show (if _ then _ else _) = _
  unfold gb
  by_cases h : 0 ≤ a ∧ a ≤ c ∧ c ≤ (xs.length : Int) ∧ noOwns xs = true ∧ noOwns ys = true ∧ xs.length + ys.length ≤ smallL
  · rw [if_pos h]
    obtain ⟨h1, h2, h3, h4, h5, h6⟩ := h
    simp [h1, h2, h3, h4, h5, h6]
  · rw [if_neg h]
    simp only [Bool.and_eq_true, decide_eq_true_eq]
    rw [if_neg h]
end VS
set_option Elab.async false
set_option linter.all false
set_option maxRecDepth 100000
namespace VS
open PySem PySem.Spec PyProof.Rows L2 RZ
def trgK : List D → Option D := fun xs => if xs.length ≤ smallL then some (.tup xs) else none
theorem trgD_e (rd : List D → Option (List D)) (ds : List D) : trgD rd ds = bd (rd ds) trgK := by
  unfold trgD bd trgK; cases rd ds <;> rfl
@[simp] theorem trg1 (ds : List D) : trgD rng1D ds = bd (rng1D ds) trgK := trgD_e _ _
theorem trgK_e {xs : List D} (h : xs.length ≤ 100000) : trgK xs = some (.tup xs) := if_pos h
end VS
set_option Elab.async false
set_option linter.all false
set_option maxRecDepth 100000
namespace VS
open PySem PySem.Spec PyProof.Rows L2 RZ
@[simp] theorem trg2 (ds : List D) : trgD rng2D ds = bd (rng2D ds) trgK := trgD_e _ _
theorem lenSetD_e {o : Bool} {ns : List Int} (h : ns.length ≤ 1000) : lenSetD [.lst o (ns.map D.int)] = some (.int (nMet ns : Nat)) := by
  show (intsOf _).bind _ = _
  rw [intsOf_map]
  exact if_pos h
/-- so many different ones -/
theorem dd_ok : ∀ (xs acc : List Int), acc.Nodup → (xs.foldl PyProof.Rows.step_dedup acc).Nodup ∧ ∀ v, v ∈ xs.foldl PyProof.Rows.step_dedup acc ↔ v ∈ acc ∨ v ∈ xs
  | [], acc, h => ⟨h, by simp⟩
  | x :: xs, acc, h => by
    have hs : (PyProof.Rows.step_dedup acc x).Nodup ∧ ∀ v, v ∈ PyProof.Rows.step_dedup acc x ↔ v ∈ acc ∨ v = x := by
      unfold PyProof.Rows.step_dedup
      by_cases c : x ∈ acc
      · have : acc.any (· == x) = true := List.any_eq_true.mpr ⟨x, c, by simp⟩
        rw [if_pos this]
        refine ⟨h, fun v => ⟨.inl, ?_⟩⟩
        rintro (hv | rfl)
        · exact hv
        · exact c
      · have : ¬ acc.any (· == x) = true := fun z => by
          obtain ⟨y, hy, e⟩ := List.any_eq_true.mp z
          have : y = x := by simpa using e
          exact c (by rw [← this]; exact hy)
        rw [if_neg this]
        refine ⟨?_, fun v => by simp⟩
        rw [List.nodup_append]
        refine ⟨h, by simp, fun a ha b hb e => ?_⟩
        rw [List.mem_singleton.mp hb] at e
        exact c (by rw [← e]; exact ha)
    obtain ⟨h1, h2⟩ := dd_ok xs _ hs.1
    rw [List.foldl_cons]
    refine ⟨h1, fun v => ?_⟩
    rw [h2, hs.2, List.mem_cons]
    constructor
    · rintro ((a | a) | a)
      · exact .inl a
      · exact .inr (.inl a)
      · exact .inr (.inr a)
    · rintro (a | a | a)
      · exact .inl (.inl a)
      · exact .inl (.inr a)
      · exact .inr a
theorem nMet_spec (ns : List Int) : ∃ l : List Int, l.Nodup ∧ (∀ v, v ∈ l ↔ v ∈ ns) ∧ nMet ns = l.length := by
  have e : (List.range ns.length).map (fun i => ns.getD i 0) = ns := by
    apply List.ext_getElem (by simp)
    intro i h1 h2
    simp [List.getD_eq_getElem?_getD, h2]
  have e2 : PyProof.Rows.firstMet (fun i => ns.getD i 0) ns.length = ns.foldl PyProof.Rows.step_dedup [] := by
    unfold PyProof.Rows.firstMet
    rw [e]
  obtain ⟨h1, h2⟩ := dd_ok ns [] .nil
  refine ⟨ns.foldl PyProof.Rows.step_dedup [], h1, fun v => by rw [h2]; simp, ?_⟩
  unfold nMet
  rw [e2]
end VS
set_option Elab.async false
set_option linter.all false
set_option maxRecDepth 100000
namespace VS
open PySem PySem.Spec PyProof.Rows L2 RZ
end VS
set_option Elab.async false
set_option linter.all false
set_option maxRecDepth 100000
namespace VS
open PySem PySem.Spec PyProof.Rows L2 RZ
@[simp] theorem inR1_e (f : Bool → Bool) (k j : Int) : inR1 f [.int k, .int j] = some (.bl (f (decide (0 ≤ k ∧ k < j)))) := nrfl rfl
@[simp] theorem inR2_e (f : Bool → Bool) (k i j : Int) : inR2 f [.int k, .int i, .int j] = some (.bl (f (decide (i ≤ k ∧ k < j)))) := nrfl rfl
end VS
set_option Elab.async false
set_option linter.all false
set_option maxRecDepth 100000
namespace VS
open PySem PySem.Spec PyProof.Rows L2 RZ
end VS
set_option Elab.async false
set_option linter.all false
set_option maxRecDepth 100000
set_option maxHeartbeats 0
namespace VS
open PySem PySem.Spec PyProof.Rows L2 RZ
/-! the text: where each def stands, its slots -/
def topS (i : Nat) : Stmt := PySem.Challenge.pw_hookmats_k59_whole_closed_powers.main.body.getD i (.Pass ⟨0, 0, 0, 0⟩)
abbrev s_links : Stmt := topS 31
theorem sc_links : FnScope ["_law_mat_here", "_law_shift", "_law_peg"] ["_law_mat_here", "_law_shift"] (defScope s_links) := ⟨rfl, rfl, rfl, by decide +kernel, rfl, by decide +kernel, by decide +kernel⟩
abbrev s_lots : Stmt := topS 30
theorem sc_lots : FnScope ["_law_size", "_law_links_here", "_law_label", "_law_one", "_law_other", "_law_here", "_law_there", "_law_mark"] ["_law_size", "_law_links_here"] (defScope s_lots) := ⟨rfl, rfl, rfl, by decide +kernel, rfl, by decide +kernel, by decide +kernel⟩
abbrev s_behind : Stmt := topS 32
theorem sc_behind : FnScope ["_law_one", "_law_other", "_law_n", "_law_m", "_law_k", "_law_links_here", "_law_label", "_law_outer", "_law_marks", "_law_mates", "_law_at", "_law_peg", "_law_far"] ["_law_one", "_law_other"] (defScope s_behind) := ⟨rfl, rfl, rfl, by decide +kernel, rfl, by decide +kernel, by decide +kernel⟩
abbrev s_next : Stmt := topS 26
theorem sc_next : FnScope ["_law_spring_here", "_law_limit", "_law_digit", "_law_mixed"] ["_law_spring_here", "_law_limit"] (defScope s_next) := ⟨rfl, rfl, rfl, by decide +kernel, rfl, by decide +kernel, by decide +kernel⟩
abbrev s_round : Stmt := topS 28
theorem sc_round : FnScope ["_law_n", "_law_m"] ["_law_n", "_law_m"] (defScope s_round) := ⟨rfl, rfl, rfl, by decide +kernel, rfl, by decide +kernel, by decide +kernel⟩
abbrev s_mat : Stmt := topS 29
theorem sc_mat : FnScope ["_law_spring_here", "_law_n", "_law_m", "_law_order", "_law_mates", "_law_opened", "_law_lean", "_law_at", "_law_opens", "_law_mate"] ["_law_spring_here", "_law_n", "_law_m"] (defScope s_mat) := ⟨rfl, rfl, rfl, by decide +kernel, rfl, by decide +kernel, by decide +kernel⟩
abbrev s_row_rings : Stmt := topS 33
theorem sc_row_rings : FnScope ["_law_mats", "_law_n", "_law_links_here", "_law_at", "_law_ahead", "_law_peg"] ["_law_mats"] (defScope s_row_rings) := ⟨rfl, rfl, rfl, by decide +kernel, rfl, by decide +kernel, by decide +kernel⟩
abbrev s_power_rings : Stmt := topS 34
theorem sc_power_rings : FnScope ["_law_mat_here", "_law_times", "_law_whole", "_law_rings", "_law_step", "_law_more", "_law_further"] ["_law_mat_here", "_law_times"] (defScope s_power_rings) := ⟨rfl, rfl, rfl, by decide +kernel, rfl, by decide +kernel, by decide +kernel⟩
abbrev s_same : Stmt := topS 27
theorem sc_same : FnScope ["_law_found", "_law_due", "_law_at"] ["_law_found", "_law_due"] (defScope s_same) := ⟨rfl, rfl, rfl, by decide +kernel, rfl, by decide +kernel, by decide +kernel⟩
abbrev s_p_far_end : Stmt := topS 14
theorem sc_p_far_end : FnScope ["one", "other", "peg", "passed", "n", "middle", "ahead", "at"] ["one", "other", "peg", "passed"] (defScope s_p_far_end) := ⟨rfl, rfl, rfl, by decide +kernel, rfl, by decide +kernel, by decide +kernel⟩
abbrev s_p_loose_rings : Stmt := topS 15
theorem sc_p_loose_rings : FnScope ["one", "other", "passed", "n", "rings", "start", "at"] ["one", "other", "passed"] (defScope s_p_loose_rings) := ⟨rfl, rfl, rfl, by decide +kernel, rfl, by decide +kernel, by decide +kernel⟩
abbrev s_p_put_behind : Stmt := topS 16
theorem sc_p_put_behind : FnScope ["one", "other", "n", "k", "passed", "mates", "peg"] ["one", "other"] (defScope s_p_put_behind) := ⟨rfl, rfl, rfl, by decide +kernel, rfl, by decide +kernel, by decide +kernel⟩
abbrev s_p_chained : Stmt := topS 18
theorem sc_p_chained : FnScope ["one", "other", "rings", "n", "k", "mates"] ["one", "other"] (defScope s_p_chained) := ⟨rfl, rfl, rfl, by decide +kernel, rfl, by decide +kernel, by decide +kernel⟩
abbrev s_p_check_square : Stmt := topS 10
theorem sc_p_check_square : FnScope ["mat"] ["mat"] (defScope s_p_check_square) := ⟨rfl, rfl, rfl, by decide +kernel, rfl, by decide +kernel, by decide +kernel⟩
abbrev s_p_round_of : Stmt := topS 7
theorem sc_p_round_of : FnScope ["n", "m"] ["n", "m"] (defScope s_p_round_of) := ⟨rfl, rfl, rfl, by decide +kernel, rfl, by decide +kernel, by decide +kernel⟩
abbrev s_p_is_mat : Stmt := topS 8
theorem sc_p_is_mat : FnScope ["told", "n", "m", "mates", "many", "peg", "mate", "waiting"] ["told"] (defScope s_p_is_mat) := ⟨rfl, rfl, rfl, by decide +kernel, rfl, by decide +kernel, by decide +kernel⟩
abbrev s_p_checked_mat : Stmt := topS 9
theorem sc_p_checked_mat : FnScope ["mat"] ["mat"] (defScope s_p_checked_mat) := ⟨rfl, rfl, rfl, by decide +kernel, rfl, by decide +kernel, by decide +kernel⟩
abbrev s_p_check_size : Stmt := topS 11
theorem sc_p_check_size : FnScope ["n"] ["n"] (defScope s_p_check_size) := ⟨rfl, rfl, rfl, by decide +kernel, rfl, by decide +kernel, by decide +kernel⟩
abbrev s_p_straight : Stmt := topS 12
theorem sc_p_straight : FnScope ["n"] ["n"] (defScope s_p_straight) := ⟨rfl, rfl, rfl, by decide +kernel, rfl, by decide +kernel, by decide +kernel⟩
abbrev s_p_power : Stmt := topS 21
theorem sc_p_power : FnScope ["mat", "times", "whole", "doubled"] ["mat", "times"] (defScope s_p_power) := ⟨rfl, rfl, rfl, by decide +kernel, rfl, by decide +kernel, by decide +kernel⟩
abbrev s_p_rings_closed : Stmt := topS 17
theorem sc_p_rings_closed : FnScope ["mat", "n", "back"] ["mat"] (defScope s_p_rings_closed) := ⟨rfl, rfl, rfl, by decide +kernel, rfl, by decide +kernel, by decide +kernel⟩
abbrev s_p_closed_power : Stmt := topS 23
theorem sc_p_closed_power : FnScope ["mat", "times", "rings", "whole"] ["mat", "times"] (defScope s_p_closed_power) := ⟨rfl, rfl, rfl, by decide +kernel, rfl, by decide +kernel, by decide +kernel⟩
abbrev s_p_check_pair : Stmt := topS 19
theorem sc_p_check_pair : FnScope ["above", "below"] ["above", "below"] (defScope s_p_check_pair) := ⟨rfl, rfl, rfl, by decide +kernel, rfl, by decide +kernel, by decide +kernel⟩
abbrev s_p_joined : Stmt := topS 20
theorem sc_p_joined : FnScope ["one", "other"] ["one", "other"] (defScope s_p_joined) := ⟨rfl, rfl, rfl, by decide +kernel, rfl, by decide +kernel, by decide +kernel⟩
abbrev s_right : Stmt := topS 35
theorem sc_right : FnScope ["_law_spring_here", "_law_n", "_law_one", "_law_other", "_law_times", "_law_due", "_law_both", "_law_ahead", "_law_behind_here", "_law_rings", "_law_made", "_law_few"] ["_law_spring_here"] (defScope s_right) := ⟨rfl, rfl, rfl, by decide +kernel, rfl, by decide +kernel, by decide +kernel⟩
abbrev s_spring : Stmt := topS 25
theorem sc_spring : FnScope ["_law_script", "_law_place", "_law_cell", "_law_mixed"] ["_law_script", "_law_place"] (defScope s_spring) := ⟨rfl, rfl, rfl, by decide +kernel, rfl, by decide +kernel, by decide +kernel⟩
abbrev s_law : Stmt := topS 36
theorem sc_law : FnScope ["_law_script", "_law_place"] ["_law_script"] (defScope s_law) := ⟨rfl, rfl, rfl, by decide +kernel, rfl, by decide +kernel, by decide +kernel⟩
/-! what each def does with its data -/
def FUEL : Nat := 1000000
-- slots: 0 _law_mat_here, 1 _law_shift, 2 _law_peg
def F_links : FS :=
  retF (lcF [2] (itRg rng1D [.t (opF lenD [.t (opF ixD [.b 0, .t (litF (.int 2))])])]) (tgN 2) (bT (opF (ltD) [.b 2, .t (opF ixD [.t (opF ixD [.b 0, .t (litF (.int 2))]), .b 2])])) (tupF [.t (opF addD [.b 1, .b 2]), .t (opF addD [.b 1, .t (opF ixD [.t (opF ixD [.b 0, .t (litF (.int 2))]), .b 2])])]))
def fn_links : Fn := bodyFn 3 2 [true, true] F_links
-- slots: 0 _law_size, 1 _law_links_here, 2 _law_label, 3 _law_one, 4 _law_other, 5 _law_here, 6 _law_there, 7 _law_mark
def F_lots : FS :=
  seqF (asgF (opF (lrgD rng1D) [.b 0]) (tgN 2)) <|
  seqF (forF (itSeq (varF 1)) (tgT 2 (tgCons (tgN 3) (tgCons (tgN 4) (tgNil)))) (seqF (asgF (tupF [.t (opF ixD [.b 2, .b 3]), .t (opF ixD [.b 2, .b 4])]) (tgT 2 (tgCons (tgN 5) (tgCons (tgN 6) (tgNil))))) <|
  ifF (bT (opF (neD) [.b 5, .b 6])) (asgF (lcF [7] (itSeq (varF 2)) (tgN 7) (yesF) (ifE (bT (opF (eqD) [.b 7, .b 6])) (varF 5) (varF 7))) (tgN 2)) (passF))) <|
  retF (movF 2)
def fn_lots : Fn := bodyFn 8 2 [true, true] F_lots
-- slots: 0 _law_one, 1 _law_other, 2 _law_n, 3 _law_m, 4 _law_k, 5 _law_links_here, 6 _law_label, 7 _law_outer, 8 _law_marks, 9 _law_mates, 10 _law_at, 11 _law_peg, 12 _law_far
def F_behind : FS :=
  seqF (asgF (tupF [.t (opF ixD [.b 0, .t (litF (.int 0))]), .t (opF ixD [.b 0, .t (litF (.int 1))]), .t (opF ixD [.b 1, .t (litF (.int 1))])]) (tgT 3 (tgCons (tgN 2) (tgCons (tgN 3) (tgCons (tgN 4) (tgNil)))))) <|
  seqF (asgF (opF addD [.t (opF addD [.t (callF fn_links [.b 0, .t (litF (.int 0))]), .t (callF fn_links [.b 1, .t (opF addD [.b 2, .b 3])])]), .t (lcF [11] (itRg rng1D [.b 3]) (tgN 11) (yesF) (tupF [.t (opF addD [.b 2, .b 11]), .t (opF addD [.t (opF addD [.b 2, .b 3]), .b 11])]))]) (tgN 5)) <|
  seqF (asgF (callF fn_lots [.t (opF addD [.t (opF addD [.b 2, .t (opF mulD [.t (litF (.int 2)), .b 3])]), .b 4]), .b 5]) (tgN 6)) <|
  seqF (asgF (opF addD [.t (opF (lrgD rng1D) [.b 2]), .t (opF (lrgD rng2D) [.t (opF addD [.b 2, .t (opF mulD [.t (litF (.int 2)), .b 3])]), .t (opF addD [.t (opF addD [.b 2, .t (opF mulD [.t (litF (.int 2)), .b 3])]), .b 4])])]) (tgN 7)) <|
  seqF (asgF (lcF [11] (itSeq (varF 7)) (tgN 11) (yesF) (opF ixD [.b 6, .b 11])) (tgN 8)) <|
  seqF (asgF (lstF []) (tgN 9)) <|
  seqF (forF (itRg rng1D [.t (opF addD [.b 2, .b 4])]) (tgN 10) (asgF (opF addD [.b 9, .t (lcF [12] (itRg rng1D [.t (opF addD [.b 2, .b 4])]) (tgN 12) (andF (bT (opF (neD) [.b 12, .b 10])) (bT (opF (eqD) [.t (opF ixD [.b 8, .b 12]), .t (opF ixD [.b 8, .b 10])]))) (varF 12))]) (tgN 9))) <|
  retF (tupF [.t (opF subD [.t (opF lenSetD [.b 6]), .t (opF lenSetD [.b 8])]), .t (tupF [.t (movF 2), .t (movF 4), .t (opF tupleD [.b 9])])])
def fn_behind : Fn := bodyFn 13 2 [true, true] F_behind
-- slots: 0 _law_spring_here, 1 _law_limit, 2 _law_digit, 3 _law_mixed
def F_next : FS :=
  seqF (ifF (bT (opF (gtD) [.t (opF ixD [.b 0, .t (litF (.int 0))]), .t (litF (.int 0))])) (seqF (asgF (opF modD [.t (opF intD [.t (opF ixD [.b 0, .t (litF (.int 0))])]), .b 1]) (tgN 2)) <|
  seqF (asgF (opF fdivD [.t (opF ixD [.b 0, .t (litF (.int 0))]), .b 1]) (tgSub 0 (.t (litF (.int 0))))) <|
  retF (movF 2)) (passF)) <|
  seqF (asgF (opF addD [.t (opF ixD [.b 0, .t (litF (.int 2))]), .t (litF (.int 1))]) (tgSub 0 (.t (litF (.int 2))))) <|
  seqF (asgF (opF modD [.t (opF intD [.t (opF addD [.t (opF powD [.t (opF addD [.t (opF ixD [.b 0, .t (litF (.int 1))]), .t (opF mulD [.t (litF (.int 86028157)), .t (opF ixD [.b 0, .t (litF (.int 2))])])]), .t (litF (.int 3))]), .t (opF mulD [.t (litF (.int 49979687)), .t (opF ixD [.b 0, .t (litF (.int 2))])])])]), .t (opF addD [.t (opF powD [.t (litF (.int 10)), .t (litF (.int 43))]), .t (litF (.int 9))])]) (tgN 3)) <|
  seqF (asgF (opF modD [.t (opF intD [.t (opF powD [.t (opF addD [.b 3, .t (opF mulD [.t (opF mulD [.t (litF (.int 67867967)), .t (opF ixD [.b 0, .t (litF (.int 2))])]), .t (opF ixD [.b 0, .t (litF (.int 2))])])]), .t (litF (.int 2))])]), .t (opF addD [.t (opF powD [.t (litF (.int 10)), .t (litF (.int 41))]), .t (litF (.int 7))])]) (tgN 3)) <|
  retF (opF modD [.t (opF intD [.t (opF fdivD [.b 3, .t (opF powD [.t (litF (.int 10)), .t (litF (.int 8))])])]), .b 1])
def fn_next : Fn := bodyFn 4 2 [true, true] F_next
-- slots: 0 _law_n, 1 _law_m
def F_round : FS :=
  retF (opF addD [.t (opF (lrgD rng1D) [.b 0]), .t (opF (lrgD rng3D) [.t (opF subD [.t (opF addD [.b 0, .b 1]), .t (litF (.int 1))]), .t (opF subD [.b 0, .t (litF (.int 1))]), .t (opF negD [.t (litF (.int 1))])])])
def fn_round : Fn := bodyFn 2 2 [true, true] F_round
-- slots: 0 _law_spring_here, 1 _law_n, 2 _law_m, 3 _law_order, 4 _law_mates, 5 _law_opened, 6 _law_lean, 7 _law_at, 8 _law_opens, 9 _law_mate
def F_mat : FS :=
  seqF (parF [3, 4, 5] [.t (callF fn_round [.b 1, .b 2]), .t (opF mulD [.t (lstF [.t (litF (.int 0))]), .t (opF addD [.b 1, .b 2])]), .t (lstF [])]) <|
  seqF (asgF (callF fn_next [.b 0, .t (litF (.int 6))]) (tgN 6)) <|
  seqF (forF (itRg rng1D [.t (opF addD [.b 1, .b 2])]) (tgN 7) (seqF (asgF (opF (eqD) [.t (callF fn_next [.b 0, .t (litF (.int 2))]), .t (litF (.int 0))]) (tgN 8)) <|
  seqF (ifF (orF (bT (opF (eqD) [.b 6, .t (litF (.int 1))])) (bT (opF (eqD) [.b 6, .t (litF (.int 2))]))) (asgF (opF (eqD) [.t (opF (gtD) [.t (callF fn_next [.b 0, .t (litF (.int 5))]), .t (litF (.int 0))]), .t (opF (ltD) [.b 7, .b 1])]) (tgN 8)) (ifF (bT (opF (eqD) [.b 6, .t (litF (.int 3))])) (asgF (opF (ltD) [.t (opF mulD [.t (litF (.int 2)), .b 7]), .t (opF addD [.b 1, .b 2])]) (tgN 8)) (ifF (bT (opF (eqD) [.b 6, .t (litF (.int 4))])) (asgF (orV (varF 8) (opF (eqD) [.t (callF fn_next [.b 0, .t (litF (.int 2))]), .t (litF (.int 0))])) (tgN 8)) (passF)))) <|
  ifF (orF (bT (opF (eqD) [.b 5, .t (lstF [])])) (andF (tstF (.b 8)) (bT (opF (ltD) [.t (opF lenD [.b 5]), .t (opF subD [.t (opF addD [.b 1, .b 2]), .b 7])])))) (dropF (mutF 5 appD [.t (opF ixD [.b 3, .b 7])])) (seqF (asgF (mutF 5 popD []) (tgN 9)) <|
  asgF (tupF [.t (opF ixD [.b 3, .b 7]), .t (varF 9)]) (tgT 2 (tgCons (tgSub 4 (.b 9)) (tgCons (tgSub 4 (.t (opF ixD [.b 3, .b 7]))) (tgNil))))))) <|
  retF (tupF [.t (varF 1), .t (varF 2), .t (opF tupleD [.b 4])])
def fn_mat : Fn := bodyFn 10 3 [true, true, true] F_mat
-- slots: 0 _law_mats, 1 _law_n, 2 _law_links_here, 3 _law_at, 4 _law_ahead, 5 _law_peg
def F_row_rings : FS :=
  seqF (asgF (opF ixD [.t (opF ixD [.b 0, .t (litF (.int 0))]), .t (litF (.int 0))]) (tgN 1)) <|
  seqF (asgF (lstF []) (tgN 2)) <|
  seqF (forF (itRg rng1D [.t (opF lenD [.b 0])]) (tgN 3) (seqF (asgF (opF addD [.b 2, .t (callF fn_links [.t (opF ixD [.b 0, .b 3]), .t (opF mulD [.t (opF mulD [.t (litF (.int 2)), .b 1]), .b 3])])]) (tgN 2)) <|
  seqF (asgF (opF mulD [.t (opF mulD [.t (litF (.int 2)), .b 1]), .t (opF modD [.t (opF intD [.t (opF addD [.b 3, .t (litF (.int 1))])]), .t (opF lenD [.b 0])])]) (tgN 4)) <|
  asgF (opF addD [.b 2, .t (lcF [5] (itRg rng1D [.b 1]) (tgN 5) (yesF) (tupF [.t (opF addD [.t (opF addD [.t (opF mulD [.t (opF mulD [.t (litF (.int 2)), .b 1]), .b 3]), .b 1]), .b 5]), .t (opF addD [.b 4, .b 5])]))]) (tgN 2))) <|
  retF (opF lenSetD [.t (callF fn_lots [.t (opF mulD [.t (opF mulD [.t (litF (.int 2)), .b 1]), .t (opF lenD [.b 0])]), .b 2])])
def fn_row_rings : Fn := bodyFn 6 1 [true] F_row_rings
-- slots: 0 _law_mat_here, 1 _law_times, 2 _law_whole, 3 _law_rings, 4 _law_step, 5 _law_more, 6 _law_further
def F_power_rings : FS :=
  seqF (parF [2, 3] [.t (varF 0), .t (litF (.int 0))]) <|
  seqF (forF (itRg rng2D [.t (litF (.int 1)), .t (opF min2D [.b 1, .t (litF (.int 12))])]) (tgN 4) (seqF (asgF (callF fn_behind [.b 2, .b 0]) (tgT 2 (tgCons (tgN 5) (tgCons (tgN 6) (tgNil))))) <|
  seqF (ifF (bT (opF (eqD) [.b 6, .b 2])) (retF (opF addD [.t (opF addD [.b 3, .t (opF mulD [.b 5, .t (opF subD [.b 1, .b 4])])]), .t (callF fn_row_rings [.t (lstF [.t (varF 2)])])])) (passF)) <|
  parF [2, 3] [.t (varF 6), .t (opF addD [.b 3, .b 5])])) <|
  retF (opF addD [.b 3, .t (callF fn_row_rings [.t (lstF [.t (varF 2)])])])
def fn_power_rings : Fn := bodyFn 7 2 [true, true] F_power_rings
-- slots: 0 _law_found, 1 _law_due, 2 _law_at
def F_same (fn : Fn) : FS :=
  seqF (ifF (bT (opF (isNonD) [.b 1, .t (litF .non)])) (retF (opF (isNonD) [.b 0, .t (litF .non)])) (passF)) <|
  seqF (ifF (tstF (.t (opF (isiD "bool") [.b 1]))) (retF (andV (opF (isiD "bool") [.b 0]) (opF (eqD) [.b 0, .b 1]))) (passF)) <|
  seqF (ifF (tstF (.t (opF (isiD "int") [.b 1]))) (retF (andV (opF (isiD "int") [.b 0]) (andV (notV (opF (isiD "bool") [.b 0])) (opF (eqD) [.b 0, .b 1])))) (passF)) <|
  seqF (ifF (tstF (.t (opF (isiD "str") [.b 1]))) (retF (andV (opF (isiD "str") [.b 0]) (opF (eqD) [.b 0, .b 1]))) (passF)) <|
  seqF (ifF (orF (bT (opF (neD) [.t (opF (isiD "list") [.b 1]), .t (opF (isiD "list") [.b 0])])) (bT (opF (neD) [.t (opF (isiD "tuple") [.b 1]), .t (opF (isiD "tuple") [.b 0])]))) (retF (litF (.bl false))) (passF)) <|
  seqF (ifF (bT (opF (neD) [.t (opF lenD [.b 0]), .t (opF lenD [.b 1])])) (retF (litF (.bl false))) (passF)) <|
  seqF (forF (itRg rng1D [.t (opF lenD [.b 1])]) (tgN 2) (ifF (notF (tstF (.t (callF fn [.t (opF ixD [.b 0, .b 2]), .t (opF ixD [.b 1, .b 2])])))) (retF (litF (.bl false))) (passF))) <|
  retF (litF (.bl true))
def fn_same_at : Nat → Fn
  | 0 => stuckFn 2 [true, true]
  | n + 1 => bodyFn 3 2 [true, true] (F_same (fn_same_at n))
def fn_same : Fn := fn_same_at 20
-- slots: 0 one, 1 other, 2 peg, 3 passed, 4 n, 5 middle, 6 ahead, 7 at
def F_p_far_end : FS :=
  seqF (parF [4, 5] [.t (opF ixD [.b 0, .t (litF (.int 0))]), .t (opF ixD [.b 0, .t (litF (.int 1))])]) <|
  seqF (asgF (opF (ltD) [.b 2, .b 4]) (tgN 6)) <|
  seqF (asgF (ifE (tstF (.b 6)) (opF ixD [.t (opF ixD [.b 0, .t (litF (.int 2))]), .b 2]) (opF ixD [.t (opF ixD [.b 1, .t (litF (.int 2))]), .t (opF subD [.t (opF addD [.b 5, .b 2]), .b 4])])) (tgN 7)) <|
  whF FUEL (tstF (.t (litF (.bl true)))) (seqF (ifF (tstF (.b 6)) (seqF (ifF (bT (opF (ltD) [.b 7, .b 4])) (retF (movF 7)) (passF)) <|
  seqF (augF 7 isubD (.b 4)) <|
  seqF (asgF (litF (.bl true)) (tgSub 3 (.b 7))) <|
  asgF (opF ixD [.t (opF ixD [.b 1, .t (litF (.int 2))]), .b 7]) (tgN 7)) (seqF (ifF (bT (opF (geD) [.b 7, .b 5])) (retF (opF subD [.t (opF addD [.b 4, .b 7]), .b 5])) (passF)) <|
  seqF (asgF (litF (.bl true)) (tgSub 3 (.b 7))) <|
  asgF (opF ixD [.t (opF ixD [.b 0, .t (litF (.int 2))]), .t (opF addD [.b 4, .b 7])]) (tgN 7))) <|
  asgF (notV (varF 6)) (tgN 6))
def fn_p_far_end : Fn := bodyFn 8 4 [true, true, true, true] F_p_far_end
-- slots: 0 one, 1 other, 2 passed, 3 n, 4 rings, 5 start, 6 at
def F_p_loose_rings : FS :=
  seqF (asgF (opF ixD [.b 0, .t (litF (.int 0))]) (tgN 3)) <|
  seqF (asgF (litF (.int 0)) (tgN 4)) <|
  seqF (forF (itRg rng1D [.t (opF ixD [.b 0, .t (litF (.int 1))])]) (tgN 5) (ifF (notF (tstF (.t (opF ixD [.b 2, .b 5])))) (seqF (augF 4 iaddD (.t (litF (.int 1)))) <|
  seqF (asgF (varF 5) (tgN 6)) <|
  whF FUEL (notF (tstF (.t (opF ixD [.b 2, .b 6])))) (seqF (asgF (litF (.bl true)) (tgSub 2 (.b 6))) <|
  seqF (asgF (opF subD [.t (opF ixD [.t (opF ixD [.b 0, .t (litF (.int 2))]), .t (opF addD [.b 3, .b 6])]), .b 3]) (tgN 6)) <|
  seqF (asgF (litF (.bl true)) (tgSub 2 (.b 6))) <|
  asgF (opF ixD [.t (opF ixD [.b 1, .t (litF (.int 2))]), .b 6]) (tgN 6))) (passF))) <|
  retF (movF 4)
def fn_p_loose_rings : Fn := bodyFn 7 3 [true, true, true] F_p_loose_rings
-- slots: 0 one, 1 other, 2 n, 3 k, 4 passed, 5 mates, 6 peg
def F_p_put_behind : FS :=
  seqF (parF [2, 3] [.t (opF ixD [.b 0, .t (litF (.int 0))]), .t (opF ixD [.b 1, .t (litF (.int 1))])]) <|
  seqF (asgF (opF mulD [.t (lstF [.t (litF (.bl false))]), .t (opF ixD [.b 0, .t (litF (.int 1))])]) (tgN 4)) <|
  seqF (asgF (lstF []) (tgN 5)) <|
  seqF (forF (itRg rng1D [.t (opF addD [.b 2, .b 3])]) (tgN 6) (dropF (mutF 5 appD [.t (callF fn_p_far_end [.b 0, .b 1, .b 6, .b 4])]))) <|
  retF (tupF [.t (callF fn_p_loose_rings [.b 0, .b 1, .b 4]), .t (movF 2), .t (movF 3), .t (opF tupleD [.b 5])])
def fn_p_put_behind : Fn := bodyFn 7 2 [true, true] F_p_put_behind
-- slots: 0 one, 1 other, 2 rings, 3 n, 4 k, 5 mates
def F_p_chained : FS :=
  seqF (asgF (callF fn_p_put_behind [.t (opF ixD [.b 0, .t (litF (.int 1))]), .t (opF ixD [.b 1, .t (litF (.int 1))])]) (tgT 4 (tgCons (tgN 2) (tgCons (tgN 3) (tgCons (tgN 4) (tgCons (tgN 5) (tgNil))))))) <|
  retF (tupF [.t (opF addD [.t (opF addD [.t (opF ixD [.b 0, .t (litF (.int 0))]), .t (opF ixD [.b 1, .t (litF (.int 0))])]), .b 2]), .t (tupF [.t (movF 3), .t (movF 4), .t (movF 5)])])
def fn_p_chained : Fn := bodyFn 6 2 [true, true] F_p_chained
-- slots: 0 mat
def F_p_check_square : FS :=
  ifF (bT (opF (neD) [.t (opF ixD [.b 0, .t (litF (.int 0))]), .t (opF ixD [.b 0, .t (litF (.int 1))])])) (neverF) (passF)
def fn_p_check_square : Fn := bodyFn 1 1 [true] F_p_check_square
-- slots: 0 n, 1 m
def F_p_round_of : FS :=
  retF (opF addD [.t (opF (lrgD rng1D) [.b 0]), .t (opF (lrgD rng3D) [.t (opF subD [.t (opF addD [.b 0, .b 1]), .t (litF (.int 1))]), .t (opF subD [.b 0, .t (litF (.int 1))]), .t (opF negD [.t (litF (.int 1))])])])
def fn_p_round_of : Fn := bodyFn 2 2 [true, true] F_p_round_of
-- slots: 0 told, 1 n, 2 m, 3 mates, 4 many, 5 peg, 6 mate, 7 waiting
def F_p_is_mat : FS :=
  seqF (asgF (varF 0) (tgT 3 (tgCons (tgN 1) (tgCons (tgN 2) (tgCons (tgN 3) (tgNil)))))) <|
  seqF (asgF (opF lenD [.b 3]) (tgN 4)) <|
  seqF (ifF (orF (bT (opF (ltD) [.b 1, .t (litF (.int 0))])) (orF (bT (opF (ltD) [.b 2, .t (litF (.int 0))])) (orF (bT (opF (neD) [.t (opF addD [.b 1, .b 2]), .b 4])) (bT (opF (eqD) [.b 4, .t (litF (.int 0))]))))) (retF (litF (.bl false))) (passF)) <|
  seqF (forF (itEnum (varF 3)) (tgT 2 (tgCons (tgN 5) (tgCons (tgN 6) (tgNil)))) (ifF (orF (bT (opF (ltD) [.b 6, .t (litF (.int 0))])) (orF (bT (opF (geD) [.b 6, .b 4])) (orF (bT (opF (eqD) [.b 6, .b 5])) (bT (opF (neD) [.t (opF ixD [.b 3, .b 6]), .b 5]))))) (retF (litF (.bl false))) (passF))) <|
  seqF (asgF (lstF []) (tgN 7)) <|
  seqF (forF (itSeq (callF fn_p_round_of [.b 1, .b 2])) (tgN 5) (ifF (andF (bT (opF (neD) [.b 7, .t (lstF [])])) (bT (opF (eqD) [.t (opF ixD [.b 7, .t (opF negD [.t (litF (.int 1))])]), .t (opF ixD [.b 3, .b 5])]))) (dropF (mutF 7 popD [])) (dropF (mutF 7 appD [.t (varF 5)])))) <|
  retF (opF (eqD) [.b 7, .t (lstF [])])
def fn_p_is_mat : Fn := bodyFn 8 1 [true] F_p_is_mat
-- slots: 0 mat
def F_p_checked_mat : FS :=
  seqF (ifF (notF (tstF (.t (callF fn_p_is_mat [.b 0])))) (neverF) (passF)) <|
  retF (varF 0)
def fn_p_checked_mat : Fn := bodyFn 1 1 [true] F_p_checked_mat
-- slots: 0 n
def F_p_check_size : FS :=
  ifF (bT (opF (ltD) [.b 0, .t (litF (.int 1))])) (neverF) (passF)
def fn_p_check_size : Fn := bodyFn 1 1 [true] F_p_check_size
-- slots: 0 n
def F_p_straight : FS :=
  seqF (dropF (callF fn_p_check_size [.b 0])) <|
  retF (tupF [.t (varF 0), .t (varF 0), .t (opF tupleD [.t (opF addD [.t (opF (lrgD rng2D) [.b 0, .t (opF mulD [.t (litF (.int 2)), .b 0])]), .t (opF (lrgD rng1D) [.b 0])])])])
def fn_p_straight : Fn := bodyFn 1 1 [true] F_p_straight
-- slots: 0 mat, 1 times, 2 whole, 3 doubled
def F_p_power : FS :=
  seqF (dropF (callF fn_p_checked_mat [.b 0])) <|
  seqF (dropF (callF fn_p_check_square [.b 0])) <|
  seqF (ifF (bT (opF (ltD) [.b 1, .t (litF (.int 1))])) (neverF) (passF)) <|
  seqF (asgF (tupF [.t (litF (.int 0)), .t (callF fn_p_straight [.t (opF ixD [.b 0, .t (litF (.int 0))])])]) (tgN 2)) <|
  seqF (asgF (tupF [.t (litF (.int 0)), .t (varF 0)]) (tgN 3)) <|
  seqF (whF FUEL (bT (opF (gtD) [.b 1, .t (litF (.int 0))])) (seqF (ifF (tstF (.t (opF bandD [.b 1, .t (litF (.int 1))]))) (asgF (callF fn_p_chained [.b 2, .b 3]) (tgN 2)) (passF)) <|
  seqF (asgF (callF fn_p_chained [.b 3, .b 3]) (tgN 3)) <|
  augF 1 ishrD (.t (litF (.int 1))))) <|
  retF (movF 2)
def fn_p_power : Fn := bodyFn 4 2 [true, false] F_p_power
-- slots: 0 mat, 1 n, 2 back
def F_p_rings_closed : FS :=
  seqF (asgF (opF ixD [.b 0, .t (litF (.int 0))]) (tgN 1)) <|
  seqF (asgF (opF addD [.t (opF (trgD rng2D) [.b 1, .t (opF mulD [.t (litF (.int 2)), .b 1])]), .t (opF (trgD rng1D) [.b 1])]) (tgN 2)) <|
  retF (opF ixD [.t (callF fn_p_put_behind [.t (tupF [.t (litF (.int 0)), .t (opF mulD [.t (litF (.int 2)), .b 1]), .t (opF ixD [.b 0, .t (litF (.int 2))])]), .t (tupF [.t (opF mulD [.t (litF (.int 2)), .b 1]), .t (litF (.int 0)), .t (varF 2)])]), .t (litF (.int 0))])
def fn_p_rings_closed : Fn := bodyFn 3 1 [true] F_p_rings_closed
-- slots: 0 mat, 1 times, 2 rings, 3 whole
def F_p_closed_power : FS :=
  seqF (asgF (callF fn_p_power [.b 0, .b 1]) (tgT 2 (tgCons (tgN 2) (tgCons (tgN 3) (tgNil))))) <|
  retF (opF addD [.b 2, .t (callF fn_p_rings_closed [.b 3])])
def fn_p_closed_power : Fn := bodyFn 4 2 [true, true] F_p_closed_power
-- slots: 0 above, 1 below
def F_p_check_pair : FS :=
  ifF (bT (opF (neD) [.b 0, .b 1])) (neverF) (passF)
def fn_p_check_pair : Fn := bodyFn 2 2 [true, true] F_p_check_pair
-- slots: 0 one, 1 other
def F_p_joined : FS :=
  seqF (dropF (callF fn_p_checked_mat [.b 0])) <|
  seqF (dropF (callF fn_p_checked_mat [.b 1])) <|
  seqF (dropF (callF fn_p_check_pair [.t (opF ixD [.b 0, .t (litF (.int 1))]), .t (opF ixD [.b 1, .t (litF (.int 0))])])) <|
  retF (callF fn_p_chained [.t (tupF [.t (litF (.int 0)), .t (varF 0)]), .t (tupF [.t (litF (.int 0)), .t (varF 1)])])
def fn_p_joined : Fn := bodyFn 2 2 [true, true] F_p_joined
-- slots: 0 _law_spring_here, 1 _law_n, 2 _law_one, 3 _law_other, 4 _law_times, 5 _law_due, 6 _law_both, 7 _law_ahead, 8 _law_behind_here, 9 _law_rings, 10 _law_made, 11 _law_few
def F_right : FS :=
  seqF (asgF (opF addD [.t (litF (.int 1)), .t (callF fn_next [.b 0, .t (litF (.int 8))])]) (tgN 1)) <|
  seqF (parF [2, 3] [.t (callF fn_mat [.b 0, .b 1, .b 1]), .t (callF fn_mat [.b 0, .b 1, .b 1])]) <|
  seqF (asgF (opF addD [.t (litF (.int 1)), .t (callF fn_next [.b 0, .t (litF (.int 6))])]) (tgN 4)) <|
  seqF (asgF (callF fn_row_rings [.t (opF mulD [.t (lstF [.t (varF 2)]), .b 4])]) (tgN 5)) <|
  seqF (ifF (orF (notF (tstF (.t (callF fn_same [.t (callF fn_p_closed_power [.b 2, .b 4]), .b 5])))) (notF (tstF (.t (callF fn_same [.t (callKF fn_p_closed_power [1, 0] [.b 4, .b 2]), .b 5]))))) (retF (litF (.bl false))) (passF)) <|
  seqF (asgF (opF ixD [.t (lstF [.t (opF powD [.t (litF (.int 10)), .t (litF (.int 6))]), .t (opF addD [.t (litF (.int 1)), .t (callF fn_next [.b 0, .t (opF powD [.t (litF (.int 10)), .t (litF (.int 6))])])]), .t (opF addD [.t (litF (.int 1)), .t (callF fn_next [.b 0, .t (litF (.int 40))])])]), .t (callF fn_next [.b 0, .t (litF (.int 3))])]) (tgN 4)) <|
  seqF (ifF (notF (tstF (.t (callF fn_same [.t (callF fn_p_closed_power [.b 3, .b 4]), .t (callF fn_power_rings [.b 3, .b 4])])))) (retF (litF (.bl false))) (passF)) <|
  seqF (ifF (bT (opF (eqD) [.t (callF fn_next [.b 0, .t (litF (.int 6))]), .t (litF (.int 5))])) (asgF (varF 2) (tgN 3)) (passF)) <|
  seqF (asgF (lstF []) (tgN 6)) <|
  seqF (forF (itSeq (lstF [.t (tupF [.t (varF 2), .t (varF 3)]), .t (tupF [.t (varF 3), .t (varF 2)])])) (tgT 2 (tgCons (tgN 7) (tgCons (tgN 8) (tgNil)))) (seqF (asgF (callF fn_p_joined [.b 7, .b 8]) (tgT 2 (tgCons (tgN 9) (tgCons (tgN 10) (tgNil))))) <|
  seqF (ifF (notF (tstF (.t (callF fn_same [.t (tupF [.t (varF 9), .t (varF 10)]), .t (callF fn_behind [.b 7, .b 8])])))) (retF (litF (.bl false))) (passF)) <|
  seqF (dropF (mutF 6 appD [.t (callF fn_p_closed_power [.b 10, .b 4])])) <|
  seqF (ifF (notF (tstF (.t (callF fn_same [.t (opF ixD [.b 6, .t (opF negD [.t (litF (.int 1))])]), .t (callF fn_power_rings [.b 10, .b 4])])))) (retF (litF (.bl false))) (passF)) <|
  asgF (opF addD [.t (opF ixD [.b 6, .t (opF negD [.t (litF (.int 1))])]), .t (opF mulD [.b 9, .b 4])]) (tgSub 6 (.t (opF negD [.t (litF (.int 1))]))))) <|
  seqF (asgF (opF addD [.t (litF (.int 1)), .t (callF fn_next [.b 0, .t (litF (.int 3))])]) (tgN 11)) <|
  seqF (asgF (callF fn_p_joined [.b 2, .b 3]) (tgT 2 (tgCons (tgN 9) (tgCons (tgN 10) (tgNil))))) <|
  seqF (ifF (notF (tstF (.t (callF fn_same [.t (opF addD [.t (callF fn_p_closed_power [.b 10, .b 11]), .t (opF mulD [.b 11, .b 9])]), .t (callF fn_row_rings [.t (opF mulD [.t (lstF [.t (varF 2), .t (varF 3)]), .b 11])])])))) (retF (litF (.bl false))) (passF)) <|
  retF (opF (eqD) [.t (opF ixD [.b 6, .t (litF (.int 0))]), .t (opF ixD [.b 6, .t (litF (.int 1))])])
def fn_right : Fn := bodyFn 12 1 [true] F_right
-- slots: 0 _law_script, 1 _law_place, 2 _law_cell, 3 _law_mixed
def F_spring : FS :=
  seqF (asgF (litF (.int 0)) (tgN 2)) <|
  seqF (ifF (bT (opF (ltD) [.b 1, .t (opF lenD [.b 0])])) (asgF (opF intD [.t (opF ixD [.b 0, .b 1])]) (tgN 2)) (passF)) <|
  seqF (asgF (opF addD [.t (opF addD [.t (opF addD [.t (opF modD [.t (opF intD [.b 2]), .t (opF addD [.t (opF powD [.t (litF (.int 10)), .t (litF (.int 37))]), .t (litF (.int 3))])]), .t (opF mulD [.t (opF mulD [.t (litF (.int 7778777)), .b 1]), .b 1])]), .t (opF mulD [.t (litF (.int 32452843)), .b 1])]), .t (litF (.int 15485863))]) (tgN 3)) <|
  retF (lstF [.t (opF max2D [.t (litF (.int 0)), .t (opF subD [.b 2, .t (opF powD [.t (litF (.int 10)), .t (litF (.int 18))])])]), .t (movF 3), .t (litF (.int 0))])
def fn_spring : Fn := bodyFn 4 2 [true, true] F_spring
-- slots: 0 _law_script, 1 _law_place
def F_law : FS :=
  seqF (forF (itRg rng1D [.t (opF max2D [.t (litF (.int 3)), .t (opF min2D [.t (opF lenD [.b 0]), .t (litF (.int 6))])])]) (tgN 1) (ifF (notF (tstF (.t (callF fn_right [.t (callF fn_spring [.b 0, .b 1])])))) (retF (litF (.bl false))) (passF))) <|
  retF (litF (.bl true))
def fn_law : Fn := bodyFn 2 1 [true] F_law
end VS
set_option Elab.async false
set_option linter.all false
set_option maxRecDepth 100000
namespace VS
open PySem PySem.Spec PyProof.Rows L2 RZ
theorem powOk_of {a n : Int} (h0 : 0 ≤ n) (h1 : n ≤ 100) (h2 : a.natAbs < 2 ^ 100000) : powOk a n = true := by
  unfold powOk
  have hb : (Builtin.Int.intBits a : Nat) ≤ 100001 := by
    unfold Builtin.Int.intBits
    split
    · omega
    · rename_i h
      have h : a.natAbs ≠ 0 := by simp at h; omega
      have : a.natAbs.log2 < 100000 := (Nat.log2_lt h).mpr h2
      omega
  simp only [Bool.and_eq_true, decide_eq_true_eq]
  refine ⟨h0, ?_⟩
  have : (Builtin.Int.intBits a : Int) ≤ 100001 := by omega
  have : (Builtin.Int.intBits a : Int) * n ≤ 100001 * n := Int.mul_le_mul_of_nonneg_right this h0
  omega
theorem lt_pow100 {a : Nat} (h : a < 2 ^ 1000) : a < 2 ^ 100000 := Nat.lt_of_lt_of_le h (Nat.pow_le_pow_right (by decide) (by decide))
@[simp] theorem powOk_10_43 : powOk 10 43 = true := by decide +kernel
@[simp] theorem powOk_10_41 : powOk 10 41 = true := by decide +kernel
@[simp] theorem powOk_10_7 : powOk 10 7 = true := by decide +kernel
@[simp] theorem powOk_10_18 : powOk 10 18 = true := by decide +kernel
@[simp] theorem powOk_10_33 : powOk 10 33 = true := by decide +kernel
def wellD (w0 w1 w2 : Int) : D := .lst true [.int w0, .int w1, .int w2]
def Wok (N : Nat) (d : D) : Prop := ∃ w0 w1 w2 : Int, d = wellD w0 w1 w2 ∧ 0 ≤ w0 ∧ 0 ≤ w1 ∧ w1 < 2 ^ 200 ∧ 0 ≤ w2 ∧ w2 + N ≤ 2 ^ 40
theorem Wok.le {N M : Nat} {d : D} (h : Wok N d) (hl : M ≤ N) : Wok M d := by
  obtain ⟨w0, w1, w2, a, b, c, d, e, f⟩ := h
  exact ⟨w0, w1, w2, a, b, c, d, e, by omega⟩
theorem fmod_in {a b : Int} (h : 0 < b) : 0 ≤ a.fmod b ∧ a.fmod b < b := ⟨Int.fmod_nonneg_of_pos a h, Int.fmod_lt_of_pos a h⟩
def natD (i : Nat) : D := .int (i : Nat)
def spD (s : Nat × Nat) : D := .tup [.int (s.1 : Nat), .int (s.2 : Nat)]
def prD (p : (Nat × Nat) × (Nat × Nat)) : D := .tup [spD p.1, spD p.2]
def matD (n m : Nat) (row : List Nat) : D := .tup [.int (n : Nat), .int (m : Nat), .tup (row.map natD)]
@[simp] theorem noOwn_natD (i : Nat) : noOwn (natD i) = true := by simp [natD]
@[simp] theorem noOwn_spD (s : Nat × Nat) : noOwn (spD s) = true := by simp [spD]
@[simp] theorem noOwn_prD (p : (Nat × Nat) × (Nat × Nat)) : noOwn (prD p) = true := by simp [prD]
@[simp] theorem noOwns_natDs (xs : List Nat) : noOwns (xs.map natD) = true := noOwns_map noOwn_natD xs
@[simp] theorem noOwns_spDs (xs : List (Nat × Nat)) : noOwns (xs.map spD) = true := noOwns_map noOwn_spD xs
@[simp] theorem noOwns_prDs (xs : List ((Nat × Nat) × (Nat × Nat))) : noOwns (xs.map prD) = true := noOwns_map noOwn_prD xs
@[simp] theorem freezes_natDs (xs : List Nat) : freezes (xs.map natD) = xs.map natD := freezes_of (noOwns_natDs xs)
@[simp] theorem freezes_spDs (xs : List (Nat × Nat)) : freezes (xs.map spD) = xs.map spD := freezes_of (noOwns_spDs xs)
@[simp] theorem freezes_prDs (xs : List ((Nat × Nat) × (Nat × Nat))) : freezes (xs.map prD) = xs.map prD := freezes_of (noOwns_prDs xs)
@[simp] theorem noOwn_matD (n m : Nat) (row : List Nat) : noOwn (matD n m row) = true := by simp [matD]
theorem intsTo_natD (n : Nat) : intsTo 0 n = (List.range n).map natD := intsTo_map n
theorem goLc_mapI {α : Type} {vs : List Nat} {fg : D → Env → Option Env} {fe : FE} {ρ : Env} (enc e : α → D) (xs : List α) (h : ∀ x ∈ xs, lcTurn vs fg fe (enc x) ρ = some (e x, ρ)) : goLc vs fg yesF fe (xs.map enc) ρ = some (xs.map e, ρ) := by
  induction xs with
  | nil => rfl
  | cons x xs ih =>
    have h1 := h x (by simp)
    unfold lcTurn bd at h1
    show (fg (enc x) ρ).bind _ = _
    cases hg : fg (enc x) ρ with
    | none => rw [hg] at h1; cases h1
    | some ρ1 =>
      rw [hg] at h1
      simp only [Option.bind_some] at h1 ⊢
      show ((some (true, ρ1) : Option (Bool × Env)).bind _) = _
      simp only [Option.bind_some, if_true]
      cases hf : fe ρ1 with
      | none => rw [hf] at h1; cases h1
      | some q =>
        rw [hf] at h1
        simp only [Option.bind_some, Option.some.injEq, Prod.mk.injEq] at h1 ⊢
        rw [h1.2, ih fun d hd => h d (by simp [hd])]
        simp [h1.1]
theorem intsBy_down (lo : Int) (n : Nat) : intsBy lo (-1) n = (List.range n).map fun i => D.int (lo - (i : Nat)) := by
  unfold intsBy
  apply List.map_congr_left
  intro i _
  congr 1
  omega
theorem range_rev' (n : Nat) : (List.range n).reverse = (List.range n).map fun i => n - 1 - i := (range_rev n).symm
theorem intsBy_rev (lo n : Nat) : intsBy ((lo : Int) + n - 1) (-1) n = (List.range n).reverse.map fun i => natD (lo + i) := by
  rw [intsBy_down, range_rev', List.map_map]
  apply List.map_congr_left
  intro i hi
  have := List.mem_range.mp hi
  simp only [Function.comp_apply, natD]
  congr 1
  omega
theorem rng1_nat {u : Nat} (hu : u ≤ 100000) : rng1D [.int (u : Nat)] = some ((List.range u).map natD) := by
  rw [rng1D_e (by omega) (by omega), Int.toNat_natCast, intsTo_natD]
theorem rng3_down {lo n : Nat} {i j : Int} (hl : lo ≤ 100000) (hn : n ≤ 100000) (hi : i = lo + n - 1) (hj : j = lo - 1) : rng3D [.int i, .int j, .int (-1)] = some ((List.range n).reverse.map fun i => natD (lo + i)) := by
  rw [rng3D_e (by omega) (by omega) (by omega) (by omega), ← intsBy_rev, hi, hj]
  have e2 : ((lo : Int) + n - 1 - (lo - 1)).toNat = n := by omega
  rw [e2]
theorem small_le {n : Nat} (h : n ≤ 100000) : decide (n ≤ smallL) = true := decide_eq_true h
theorem atI_mapN {α : Type} {f : α → D} {xs : List α} {i : Nat} {z : α} (h : i < xs.length) : atI (xs.map f) (i : Nat) = some (f (xs.getD i z)) :=
  atI_nat (by simp [h])
theorem Wok.own {N : Nat} {w : D} (h : Wok N w) : noOwn w = false := by
  obtain ⟨_, _, _, rfl, _⟩ := h
  simp [wellD]
theorem natD_i (i : Nat) : natD i = .int (i : Nat) := rfl
def bodyM : FS := (seqF (parF [6, 7] [.t (opF addD [.t (opF mulD [.t (opF ixD [.b 4, .t (litF (.int 0))]), .b 0]), .t (opF ixD [.b 4, .t (litF (.int 1))])]), .t (opF addD [.t (opF mulD [.t (opF ixD [.b 5, .t (litF (.int 0))]), .b 0]), .t (opF ixD [.b 5, .t (litF (.int 1))])])]) <|
  asgF (tupF [.t (varF 7), .t (varF 6)]) (tgT 2 (tgCons (tgSub 3 (.b 6)) (tgCons (tgSub 3 (.b 7)) (tgNil)))))
theorem map_setN (xs : List Nat) (i j : Nat) : (xs.map natD).set i (.int (j : Nat)) = (xs.set i j).map natD := by
  rw [List.map_set]; rfl
inductive Plain : Nat → D → Prop
  | non {k : Nat} : Plain k .non
  | int {k : Nat} (i : Int) : Plain k (.int i)
  | bl {k : Nat} (i : Bool) : Plain k (.bl i)
  | tup {k : Nat} {xs : List D} : (∀ x ∈ xs, Plain k x) → Plain (k + 1) (.tup xs)
  | lst {k : Nat} {xs : List D} : (∀ x ∈ xs, Plain k x) → Plain (k + 1) (.lst false xs)
theorem Plain.own {k : Nat} {d : D} (h : Plain k d) : noOwn d = true := by
  induction h with
  | non => simp
  | int i => simp
  | bl i => simp
  | tup _ ih => rw [noOwn_tup]; exact noOwns_all ih
  | lst _ ih => rw [noOwn_lst]; simpa using noOwns_all ih
theorem isiD_l_tup (xs : List D) : isiD "list" [.tup xs] = some (.bl false) := rfl
theorem isiD_l_lst (o : Bool) (xs : List D) : isiD "list" [.lst o xs] = some (.bl true) := rfl
theorem isiD_s_int (i : Int) : isiD "str" [.int i] = some (.bl false) := rfl
theorem isiD_s_bl (i : Bool) : isiD "str" [.bl i] = some (.bl false) := rfl
theorem isiD_b_int (i : Int) : isiD "bool" [.int i] = some (.bl false) := rfl
theorem isiD_b_bl (i : Bool) : isiD "bool" [.bl i] = some (.bl true) := rfl
theorem isiD_i_int (i : Int) : isiD "int" [.int i] = some (.bl true) := rfl
theorem isiD_i_bl (i : Bool) : isiD "int" [.bl i] = some (.bl true) := rfl
theorem same_pins (n : Nat) : (fn_same_at n).pins = [true, true] := by cases n <;> rfl
theorem Plain.le {k : Nat} {d : D} (h : Plain k d) : ∀ {n : Nat}, k ≤ n → Plain n d := by
  induction h with
  | non => intro n _; exact .non
  | int i => intro n _; exact .int i
  | bl i => intro n _; exact .bl i
  | @tup k xs _ ih =>
    intro n hn
    obtain ⟨m, rfl⟩ : ∃ m, n = m + 1 := ⟨n - 1, by omega⟩
    exact .tup fun x hx => ih x hx (by omega)
  | @lst k xs _ ih =>
    intro n hn
    obtain ⟨m, rfl⟩ : ∃ m, n = m + 1 := ⟨n - 1, by omega⟩
    exact .lst fun x hx => ih x hx (by omega)
/-! what may be compared -/
def EqB (k : Nat) (d : D) : Prop := noTy d = true ∧ (pyD d).canLay0 = true ∧ (pyD d).depth ≤ k
theorem EqB.ok {k : Nat} {d : D} (h : EqB k d) (hk : k ≤ 64) : eqOk d = true := by
  unfold eqOk SeqAt.shaped
  rw [h.1, h.2.1]
  simp
  exact Nat.le_trans h.2.2 hk
theorem EqB.all {k : Nat} : ∀ {xs : List D}, (∀ x ∈ xs, EqB k x) → noTys xs = true ∧ PyData.canLayAll0 (pyDs xs) = true ∧ PyData.depthAll (pyDs xs) ≤ k
  | [], _ => ⟨by simp [noTys], by simp [pyDs, PyData.canLayAll0], by simp [pyDs, PyData.depthAll]⟩
  | x :: xs, h => by
    obtain ⟨a, b, c⟩ := h x (by simp)
    obtain ⟨a', b', c'⟩ := EqB.all (xs := xs) fun y hy => h y (by simp [hy])
    refine ⟨by simp [noTys, a, a'], by simp [pyDs, PyData.canLayAll0, b, b'], ?_⟩
    simp only [pyDs, PyData.depthAll]
    omega
theorem EqB.int {k : Nat} (i : Int) : EqB k (.int i) := ⟨rfl, rfl, Nat.zero_le _⟩
theorem EqB.bl {k : Nat} (i : Bool) : EqB k (.bl i) := ⟨rfl, rfl, Nat.zero_le _⟩
theorem EqB.non {k : Nat} : EqB k .non := ⟨rfl, rfl, Nat.zero_le _⟩
theorem EqB.lst {k : Nat} {o : Bool} {xs : List D} (h : ∀ x ∈ xs, EqB k x) : EqB (k + 1) (.lst o xs) := by
  obtain ⟨a, b, c⟩ := EqB.all h
  exact ⟨by simp [noTy, a], by simp [pyD, PyData.canLay0, b], by simp only [pyD, PyData.depth]; omega⟩
theorem EqB.tup {k : Nat} {xs : List D} (h : ∀ x ∈ xs, EqB k x) : EqB (k + 1) (.tup xs) := by
  obtain ⟨a, b, c⟩ := EqB.all h
  exact ⟨by simp [noTy, a], by simp [pyD, PyData.canLay0, b], by simp only [pyD, PyData.depth]; omega⟩
theorem eqB_nats (xs : List Nat) : ∀ x ∈ xs.map natD, EqB 0 x := fun x hx => by
  obtain ⟨i, _, rfl⟩ := List.mem_map.mp hx
  exact .int _
theorem eqOk_nats (o : Bool) (xs : List Nat) : eqOk (.lst o (xs.map natD)) = true := (EqB.lst (eqB_nats xs)).ok (by omega)
theorem eqOk_emp (o : Bool) : eqOk (.lst o []) = true := eqOk_nats o []
theorem deq_emp (o o' : Bool) (xs : List D) : deq (.lst o xs) (.lst o' []) = xs.isEmpty := by
  unfold deq
  cases xs <;> simp [pyD, pyDs, PyData.eqv, PyData.eqvAll]
/-! the pegs round about -/
theorem round_ok {n m : Nat} (hn : n ≤ 1000) (hm : m ≤ 1000) : fn_p_round_of.sem [.int (n : Nat), .int (m : Nat)] = some (.lst true ((roundL n m).map natD), [some (.int (n : Nat)), some (.int (m : Nat))]) := by
  have s1 : n ≤ 100000 := by omega
  have s2 : m ≤ 100000 := by omega
  have s3 : n + m ≤ 100000 := by omega
  have r1 := rng1_nat s1
  have r3 : rng3D [.int ((n : Nat) + (m : Nat) - 1), .int ((n : Nat) - 1), .int (-1)] = some ((List.range m).reverse.map fun i => natD (n + i)) := rng3_down (lo := n) (n := m) s1 s2 (by omega) (by omega)
  unfold fn_p_round_of F_p_round_of
  rw [bodyFn_sem]
  simp [r1, r3, small_le, lrgK_e, s1, s2, s3, addD_l, noOwns_map, -List.map_reverse]
  simp [roundL, Function.comp_def]
theorem atI_last {α : Type} (xs : List α) (x : α) : atI (xs ++ [x]) (-1) = some x := by
  refine atI_neg (by omega) (by rw [List.length_append, List.length_singleton]; omega) ?_
  have : (-1 + ((xs ++ [x]).length : Nat) : Int).toNat = xs.length := by rw [List.length_append, List.length_singleton]; omega
  rw [this]
  simp
theorem enum_get {row : List Nat} {i : Nat} {d : D} (h : (enumL (row.map natD))[i]? = some d) : ∃ j, row[i]? = some j ∧ d = .tup [.int (i : Nat), .int (j : Nat)] := by
  unfold enumL at h
  rw [List.getElem?_map] at h
  obtain ⟨q, h1, rfl⟩ := Option.map_eq_some_iff.mp h
  obtain ⟨h2, h3⟩ := List.getElem?_zip_eq_some.mp h1
  rw [List.getElem?_map] at h3
  obtain ⟨j, h4, h5⟩ := Option.map_eq_some_iff.mp h3
  rw [intsTo_map, List.getElem?_map] at h2
  obtain ⟨k, h6, h7⟩ := Option.map_eq_some_iff.mp h2
  have : k = i := by
    have := (List.getElem?_eq_some_iff.mp h6).2
    simpa using this.symm
  subst this
  refine ⟨j, h4, ?_⟩
  rw [← h5, ← h7]
  rfl
def bodyI1 : FS := (ifF (orF (bT (opF ltD [.b 6, .t (litF (.int 0))])) (orF (bT (opF geD [.b 6, .b 4])) (orF (bT (opF eqD [.b 6, .b 5])) (bT (opF neD [.t (opF ixD [.b 3, .b 6]), .b 5]))))) (retF (litF (.bl false))) (passF))
def bodyI2 : FS := (ifF (andF (bT (opF neD [.b 7, .t (lstF [])])) (bT (opF eqD [.t (opF ixD [.b 7, .t (opF negD [.t (litF (.int 1))])]), .t (opF ixD [.b 3, .b 5])]))) (dropF (mutF 7 popD [])) (dropF (mutF 7 appD [.t (varF 5)])))
theorem is_mat_l1 {n m : Nat} {row : List Nat} (h : IsMat n m row) {t a b c : Option D} : ∃ a' b', goFor (tgT 2 (tgCons (tgN 5) (tgCons (tgN 6) (tgNil)))) bodyI1 (enumL (row.map natD)) [t, some (.int (n : Nat)), some (.int (m : Nat)), some (.tup (row.map natD)), some (.int ((row.map natD).length : Nat)), a, b, c] =
    some (.nx [t, some (.int (n : Nat)), some (.int (m : Nat)), some (.tup (row.map natD)), some (.int ((row.map natD).length : Nat)), a', b', c]) := by
  obtain ⟨ρ', h1, a', b', rfl⟩ := for_inv (tg := (tgT 2 (tgCons (tgN 5) (tgCons (tgN 6) (tgNil))))) (body := bodyI1) (ds := enumL (row.map natD)) (ρ := [t, some (.int (n : Nat)), some (.int (m : Nat)), some (.tup (row.map natD)), some (.int ((row.map natD).length : Nat)), a, b, c])
    (fun _ ρ => ∃ a' b', ρ = [t, some (.int (n : Nat)), some (.int (m : Nat)), some (.tup (row.map natD)), some (.int ((row.map natD).length : Nat)), a', b', c]) ⟨a, b, rfl⟩ (by
      rintro i d ρ hd ⟨a', b', rfl⟩
      obtain ⟨j, hj, rfl⟩ := enum_get hd
      obtain ⟨l1, l2, l3⟩ := h.lt i j hj
      refine ⟨_, .inl ?_, some (.int (i : Nat)), some (.int (j : Nat)), rfl⟩
      have x1 : atI (row.map natD) (j : Nat) = some (natD i) := atI_nat (by rw [List.getElem?_map, l3]; rfl)
      have x2 : (row.map natD).length = n + m := by rw [List.length_map, h.len]
      obtain ⟨X, hX⟩ : ∃ X, X = row.map natD := ⟨_, rfl⟩
      rw [← hX] at x1 x2 ⊢
      rw [natD_i] at x1
      have c1 : ¬ ((j : Int) < 0) := by omega
      have c2 : ¬ (X.length ≤ j) := by omega
      rw [turn_e]
      unfold bodyI1
      have c3 : ¬ ((j : Int) = (i : Int)) := by omega
      simp [x1, c1, c2, c3])
  exact ⟨a', b', h1⟩
theorem is_mat_l2 {n m : Nat} {row : List Nat} (h : IsMat n m row) (hl : n + m ≤ 2000) {t a b many nn mm : Option D} : ∃ a' b', goFor (tgN 5) bodyI2 ((roundL n m).map natD) [t, nn, mm, some (.tup (row.map natD)), many, a, b, some (.lst true [])] =
    some (.nx [t, nn, mm, some (.tup (row.map natD)), many, a', b', some (.lst true [])]) := by
  obtain ⟨ρ', h1, a', rfl⟩ := for_inv (tg := tgN 5) (body := bodyI2) (ds := (roundL n m).map natD) (ρ := [t, nn, mm, some (.tup (row.map natD)), many, a, b, some (.lst true [])])
    (fun i ρ => ∃ a', ρ = [t, nn, mm, some (.tup (row.map natD)), many, a', b, some (.lst true ((red (fun i => row.getD i 0) [] ((roundL n m).take i)).reverse.map natD))]) ⟨a, rfl⟩ (by
      rintro i d ρ hd ⟨a', rfl⟩
      rw [List.getElem?_map] at hd
      obtain ⟨x, hx, rfl⟩ := Option.map_eq_some_iff.mp hd
      have hxl : x < row.length := by rw [h.len]; exact mem_roundL.mp (List.mem_of_getElem? hx)
      have ht : (roundL n m).take (i + 1) = (roundL n m).take i ++ [x] := by
        rw [List.take_add_one, hx]; rfl
      have hi : i < n + m := by
        have := (List.getElem?_eq_some_iff.mp hx).1
        rw [(roundL_perm n m).length_eq, List.length_range] at this
        exact this
      have x1 : atI (row.map natD) (x : Nat) = some (natD (row.getD x 0)) := atI_mapN hxl
      have hlen : (red (fun i => row.getD i 0) [] ((roundL n m).take i)).length ≤ i := by
        have : ∀ (l s : List Nat), (red (fun i => row.getD i 0) s l).length ≤ s.length + l.length := by
          intro l
          induction l with
          | nil => intro s; exact Nat.le_refl _
          | cons y l ih =>
            intro s
            rw [red_cons]
            have := ih (push (fun i => row.getD i 0) s y)
            have : (push (fun i => row.getD i 0) s y).length ≤ s.length + 1 := by
              cases s with
              | nil => exact Nat.le_refl _
              | cons t s => rw [push_cons]; split <;> simp <;> omega
            simp only [List.length_cons]
            omega
        have := this ((roundL n m).take i) []
        rw [List.length_take, List.length_nil] at this
        omega
      obtain ⟨Y, hY⟩ : ∃ Y, Y = row.map natD := ⟨_, rfl⟩
      rw [← hY] at x1 ⊢
      rw [ht, red_append, red_cons]
      obtain ⟨s, hs⟩ : ∃ s, s = red (fun i => row.getD i 0) [] ((roundL n m).take i) := ⟨_, rfl⟩
      rw [← hs] at hlen ⊢
      obtain ⟨fx, hfx⟩ : ∃ fx, fx = row.getD x 0 := ⟨_, rfl⟩
      rw [← hfx] at x1
      rw [natD_i] at x1 ⊢
      cases s with
      | nil =>
        refine ⟨_, .inl ?_, some (.int (x : Nat)), rfl⟩
        have pa : appD [] [.int (x : Nat)] = some (.non, [.int (x : Nat)]) := appD_e _ (by simp)
        rw [turn_e]
        unfold bodyI2
        simp [eqOk_emp, deq_emp, pa, small_le, push, red, natD]
      | cons tp s =>
        have hz : ((tp :: s).reverse.map natD) = s.reverse.map natD ++ [.int (tp : Nat)] := by simp [natD]
        have x2 : atI ((tp :: s).reverse.map natD) (-1) = some (.int (tp : Nat)) := by rw [hz, atI_last]
        have x3 := eqOk_nats true (tp :: s).reverse
        have x4 : ((tp :: s).reverse.map natD).isEmpty = false := by simp
        have x5 : appD ((tp :: s).reverse.map natD) [.int (x : Nat)] = some (.non, (x :: tp :: s).reverse.map natD) := by
          rw [appD_e _ (by rw [List.length_map, List.length_reverse]; omega)]
          simp [natD]
        have x6 : popD ((tp :: s).reverse.map natD) [] = some (.int (tp : Nat), s.reverse.map natD) := by rw [hz, popD_e]
        obtain ⟨Z, hZ⟩ : ∃ Z, Z = (tp :: s).reverse.map natD := ⟨_, rfl⟩
        rw [← hZ] at x2 x3 x4 x5 x6 ⊢
        have hred : red (fun i => row.getD i 0) (push (fun i => row.getD i 0) (tp :: s) x) [] = if tp = fx then s else x :: tp :: s := by
          show push (fun i => row.getD i 0) (tp :: s) x = _
          rw [push_cons, hfx]
        rw [hred]
        obtain ⟨U, hU⟩ : ∃ U, U = (x :: tp :: s).reverse.map natD := ⟨_, rfl⟩
        rw [← hU] at x5
        by_cases e : tp = fx
        · refine ⟨_, .inl ?_, some (.int (x : Nat)), rfl⟩
          rw [turn_e, if_pos e]
          unfold bodyI2
          simp [x1, x2, x3, x4, x6, eqOk_emp, deq_emp, small_le, e, -List.map_reverse]
        · refine ⟨_, .inl ?_, some (.int (x : Nat)), rfl⟩
          rw [turn_e, if_neg e, ← hU]
          unfold bodyI2
          have e' : ¬ ((tp : Int) = (fx : Int)) := by omega
          simp [x1, x2, x3, x4, x5, eqOk_emp, deq_emp, small_le, e'])
  have hfin : red (fun i => row.getD i 0) [] (roundL n m) = [] := h.nc.red (roundL_nodup n m)
  refine ⟨a', b, ?_⟩
  rw [h1, List.length_map, List.take_of_length_le (Nat.le_refl _), hfin]
  rfl
theorem is_mat_ok {n m : Nat} {row : List Nat} (h : IsMat n m row) (hl : n + m ≤ 1000) : fn_p_is_mat.sem [matD n m row] = some (.bl true, [some (matD n m row)]) := by
  obtain ⟨a, b, l1⟩ := is_mat_l1 (t := some (matD n m row)) (a := none) (b := none) (c := none) h
  obtain ⟨a2, b2, l2⟩ := is_mat_l2 (t := some (matD n m row)) (nn := some (.int (n : Nat))) (mm := some (.int (m : Nat))) (many := some (.int ((row.map natD).length : Nat))) (a := a) (b := b) h (by omega)
  have rd := round_ok (n := n) (m := m) (by omega) (by omega)
  have hlen : (row.map natD).length = n + m := by rw [List.length_map, h.len]
  have ho := noOwns_natDs row
  have hf := freezes_natDs row
  have ho2 := noOwns_natDs (roundL n m)
  have hf2 := freezes_natDs (roundL n m)
  unfold matD at l1 l2 ⊢
  obtain ⟨X, hX⟩ : ∃ X, X = row.map natD := ⟨_, rfl⟩
  rw [← hX] at l1 l2 ho hf hlen ⊢
  obtain ⟨Y, hY⟩ : ∃ Y, Y = (roundL n m).map natD := ⟨_, rfl⟩
  rw [← hY] at l2 rd ho2 hf2
  unfold bodyI1 at l1
  unfold bodyI2 at l2
  have c1 : ¬ ((n : Int) < 0) := by omega
  have c2 : ¬ ((m : Int) < 0) := by omega
  have c3 : (n : Int) + (m : Int) = (X.length : Int) := by omega
  have hp := h.pos
  have c4 : ¬ ((X.length : Int) = 0) := by omega
  have pr : fn_p_round_of.pins = [true, true] := rfl
  have c5 : X ≠ [] := by intro e; rw [e] at hlen; simp at hlen; omega
  unfold fn_p_is_mat F_p_is_mat
  rw [bodyFn_sem]
  simp [ho, hf, ho2, hf2, c1, c2, c3, c4, c5, l1, l2, rd, pr, eqOk_emp, deq_emp, small_le]
theorem checked_ok {n m : Nat} {row : List Nat} (h : IsMat n m row) (hl : n + m ≤ 1000) : fn_p_checked_mat.sem [matD n m row] = some (matD n m row, [some (matD n m row)]) := by
  have e := is_mat_ok h hl
  have ho := noOwn_matD n m row
  obtain ⟨M, hM⟩ : ∃ M, M = matD n m row := ⟨_, rfl⟩
  rw [← hM] at e ho ⊢
  have pp : fn_p_is_mat.pins = [true] := rfl
  unfold fn_p_checked_mat F_p_checked_mat
  rw [bodyFn_sem]
  simp [e, ho, pp]
def M (u d : Nat) (ps : List ((Nat × Nat) × (Nat × Nat))) : List Nat := madeL u ps (List.replicate (u + d) 0)
def flipP (ps : List ((Nat × Nat) × (Nat × Nat))) : List ((Nat × Nat) × (Nat × Nat)) := ps.map fun p => (flipS p.1, flipS p.2)
def sideP (u d : Nat) (ps : List ((Nat × Nat) × (Nat × Nat))) : List ((Nat × Nat) × (Nat × Nat)) := ps.map fun p => (sideS u d p.1, sideS u d p.2)
theorem M_row {u d : Nat} {ps : List ((Nat × Nat) × (Nat × Nat))} (h : NCP (ring u d) ps) : Row u d ps (M u d ps) := madeL_row h.ends
theorem M_mat {u d : Nat} {ps : List ((Nat × Nat) × (Nat × Nat))} (h : NCP (ring u d) ps) (h0 : 0 < u + d) : IsMat u d (M u d ps) := (M_row h).mat h h0
def upL (n m : Nat) : List Nat := ((List.range n).map fun i => m + i) ++ List.range m
def leL (n m : Nat) : List Nat := (List.range n).reverse ++ (List.range m).reverse.map fun i => n + i
theorem rng2_nat {lo n : Nat} (hl : lo ≤ 100000) (hn : n ≤ 100000) : rng2D [.int (lo : Nat), .int ((lo : Nat) + (n : Nat))] = some ((List.range n).map fun i => natD (lo + i)) := by
  rw [rng2D_e (by omega) (by omega) (by omega) (by omega)]
  have : ((lo : Int) + (n : Int) - (lo : Int)).toNat = n := by omega
  rw [this]
  unfold intsTo
  congr 1
theorem putB_t1 (f : FE) (d : D) (os : List (Option D)) (ρ : Env) : putB [.t f] [d] os ρ = ρ := by cases os <;> rfl
/-! ### a comprehension with an if -/
def flK3 (vs : List Nat) : D × Env → Option (Option D × Env) := fun q => some (some q.1, wipeD q.2 vs)
@[simp] theorem flK3_e (vs : List Nat) (d : D) (ρ : Env) : flK3 vs (d, ρ) = some (some d, wipeD ρ vs) := nrfl rfl
def flK (vs : List Nat) (fe : FE) : Bool × Env → Option (Option D × Env) := fun b => if b.1 = true then bd (fe b.2) (flK3 vs) else some (none, wipeD b.2 vs)
@[simp] theorem flK_t (vs : List Nat) (fe : FE) (ρ : Env) : flK vs fe (true, ρ) = bd (fe ρ) (flK3 vs) := nrfl rfl
@[simp] theorem flK_f (vs : List Nat) (fe : FE) (ρ : Env) : flK vs fe (false, ρ) = some (none, wipeD ρ vs) := nrfl rfl
def lcTurnF (vs : List Nat) (fg : D → Env → Option Env) (ft : FB) (fe : FE) (d : D) (ρ : Env) : Option (Option D × Env) := bd (bd (fg d ρ) ft) (flK vs fe)
theorem lcTurnF_e (vs : List Nat) (fg : D → Env → Option Env) (ft : FB) (fe : FE) (d : D) (ρ : Env) : lcTurnF vs fg ft fe d ρ = bd (bd (fg d ρ) ft) (flK vs fe) := rfl
theorem goLc_filt {α : Type} {vs : List Nat} {fg : D → Env → Option Env} {ft : FB} {fe : FE} {ρ : Env} (enc e : α → D) (b : α → Bool) : ∀ (xs : List α), (∀ x ∈ xs, lcTurnF vs fg ft fe (enc x) ρ = some (if b x = true then some (e x) else none, ρ)) → goLc vs fg ft fe (xs.map enc) ρ = some ((xs.filter b).map e, ρ)
  | [], _ => rfl
  | x :: xs, h => by
    have h1 := h x (by simp)
    have ih := goLc_filt enc e b xs fun y hy => h y (by simp [hy])
    unfold lcTurnF bd at h1
    show (fg (enc x) ρ).bind _ = _
    cases hg : fg (enc x) ρ with
    | none => rw [hg] at h1; cases h1
    | some ρ1 =>
      rw [hg] at h1
      simp only [Option.bind_some] at h1 ⊢
      cases ht : ft ρ1 with
      | none => rw [ht] at h1; cases h1
      | some q =>
        obtain ⟨c, ρ2⟩ := q
        rw [ht] at h1
        simp only [Option.bind_some] at h1 ⊢
        cases c with
        | false =>
          rw [flK_f] at h1
          simp only [Option.some.injEq, Prod.mk.injEq] at h1
          simp only [Bool.false_eq_true, if_false]
          rw [h1.2, ih]
          have hb : b x = false := by
            cases hb : b x with
            | false => rfl
            | true => rw [hb] at h1; simp at h1
          simp [List.filter_cons, hb]
        | true =>
          rw [flK_t] at h1
          unfold bd at h1
          simp only [if_true]
          cases hf : fe ρ2 with
          | none => rw [hf] at h1; cases h1
          | some r =>
            rw [hf] at h1
            simp only [Option.bind_some, flK3, Option.some.injEq, Prod.mk.injEq] at h1 ⊢
            rw [h1.2, ih]
            have hb : b x = true := by
              cases hb : b x with
              | true => rfl
              | false => rw [hb] at h1; simp at h1
            rw [hb] at h1
            simp only [if_true, Option.some.injEq] at h1
            simp [List.filter_cons, hb, h1.1]
@[simp] theorem powOk_10_8 : powOk 10 8 = true := by decide +kernel
@[simp] theorem powOk_10_37 : powOk 10 37 = true := by decide +kernel
theorem next_ok {N : Nat} {w : D} {lim : Int} (hw : Wok (N + 1) w) (hl : 0 < lim) (hl2 : lim < 1000001) :
    ∃ v w', fn_next.sem [w, .int lim] = some (.int v, [some w', some (.int lim)]) ∧ 0 ≤ v ∧ v < lim ∧ Wok N w' := by
  obtain ⟨w0, w1, w2, rfl, b, c, d, e, f⟩ := hw
  by_cases h0 : 0 < w0
  · refine ⟨w0.fmod lim, wellD (w0.fdiv lim) w1 w2, ?_, (fmod_in hl).1, (fmod_in hl).2, ⟨_, _, _, rfl, ?_, c, d, e, by omega⟩⟩
    · unfold fn_next F_next wellD
      rw [bodyFn_sem]
      have h1 : fdivOk lim = true := fdivOk_s (by omega) (by omega) (by omega)
      have h2 : lim ≠ 0 := by omega
      simp [h0, h1, h2]
    · exact Int.fdiv_nonneg b (by omega)
  · have h2 : lim ≠ 0 := by omega
    have m1 : mulOk 86028157 (w2 + 1) = true := mulOk_l (by omega) (by omega)
    have m2 : mulOk 67867967 (w2 + 1) = true := mulOk_l (by omega) (by omega)
    have m4 : mulOk 49979687 (w2 + 1) = true := mulOk_l (by omega) (by omega)
    have m3 : mulOk (67867967 * (w2 + 1)) (w2 + 1) = true := mulOk_r (by omega) (by omega)
    have p1 : powOk (w1 + 86028157 * (w2 + 1)) 3 = true := powOk_of (by omega) (by omega) (lt_pow100 (by omega))
    have p2 : ∀ x : Int, powOk (x.fmod 10000000000000000000000000000000000000000009 + 67867967 * (w2 + 1) * (w2 + 1)) 2 = true := fun x => powOk_of (by omega) (by omega) (lt_pow100 (by
      have := fmod_in (a := x) (b := 10000000000000000000000000000000000000000009) (by omega)
      have h3 : 0 ≤ 67867967 * (w2 + 1) := by omega
      have h4 : 0 ≤ 67867967 * (w2 + 1) * (w2 + 1) := Int.mul_nonneg h3 (by omega)
      have h5 : 67867967 * (w2 + 1) * (w2 + 1) ≤ (67867967 * 2 ^ 40) * 2 ^ 40 := Int.mul_le_mul (by omega) (by omega) (by omega) (by omega)
      omega))
    have f1 : fdivOk 100000000 = true := by decide +kernel
    have hs : ∃ x : Int, fn_next.sem [wellD w0 w1 w2, .int lim] = some (.int (x.fmod lim), [some (wellD w0 w1 (w2 + 1)), some (.int lim)]) := by
      unfold fn_next F_next wellD
      rw [bodyFn_sem]
      simp [h0, h2, m1, m2, m3, m4, p1, p2, f1]
      exact ⟨_, rfl⟩
    obtain ⟨x, hs⟩ := hs
    exact ⟨_, _, hs, (fmod_in hl).1, (fmod_in hl).2, ⟨_, _, _, rfl, b, c, d, by omega, by omega⟩⟩
theorem spring_ok {ns : List Int} {p : Nat} (hp : p ≤ 1000) : ∃ w os, fn_spring.sem [.scr ns, .int (p : Nat)] = some (w, os) ∧ os = [some (.scr ns), some (.int (p : Nat))] ∧ Wok 1000000 w := by
  have mk : mulOk 7778777 (p : Nat) = true := mulOk_l (by omega) (by omega)
  have mk2 : mulOk (7778777 * (p : Nat)) (p : Nat) = true := mulOk_r (by omega) (by omega)
  have mk3 : mulOk 32452843 (p : Nat) = true := mulOk_l (by omega) (by omega)
  have hpp : 0 ≤ (7778777 * (p : Nat) * (p : Nat) : Int) ∧ (7778777 * (p : Nat) * (p : Nat) : Int) ≤ 7778777 * 1000 * 1000 :=
    ⟨Int.mul_nonneg (by omega) (by omega), Int.mul_le_mul (by omega) (by omega) (by omega) (by omega)⟩
  have key : ∀ c : Int, Wok 1000000 (.lst true [.int (if c - 1000000000000000000 > 0 then c - 1000000000000000000 else 0), .int (c.fmod 10000000000000000000000000000000000003 + 7778777 * (p : Nat) * (p : Nat) + 32452843 * (p : Nat) + 15485863), .int 0]) := fun c => by
    have hm := fmod_in (a := c) (b := 10000000000000000000000000000000000003) (by omega)
    refine ⟨_, _, _, rfl, ?_, ?_, ?_, ?_, ?_⟩
    · split <;> omega
    · omega
    · omega
    · omega
    · omega
  by_cases h : (p : Int) < (ns.length : Int)
  · have hx : p < ns.length := by omega
    have x1 : atI ns (p : Nat) = some (ns[p]'hx) := atI_nat (List.getElem?_eq_getElem hx)
    refine ⟨_, _, ?_, rfl, key (ns[p]'hx)⟩
    unfold fn_spring F_spring
    rw [bodyFn_sem]
    simp [h, hx, x1, mk, mk2, mk3, small_le]
  · have hx : ¬ p < ns.length := by omega
    refine ⟨_, _, ?_, rfl, key 0⟩
    unfold fn_spring F_spring
    rw [bodyFn_sem]
    simp [h, hx, mk, mk2, mk3, small_le]
theorem lround_ok {n m : Nat} (hn : n ≤ 1000) (hm : m ≤ 1000) : fn_round.sem [.int (n : Nat), .int (m : Nat)] = some (.lst true ((roundL n m).map natD), [some (.int (n : Nat)), some (.int (m : Nat))]) := round_ok hn hm
def bodyOA : FS := asgF (opF (eqD) [.t (callF fn_next [.b 0, .t (litF (.int 2))]), .t (litF (.int 0))]) (tgN 8)
def bodyOB : FS := ifF (orF (bT (opF (eqD) [.b 6, .t (litF (.int 1))])) (bT (opF (eqD) [.b 6, .t (litF (.int 2))]))) (asgF (opF (eqD) [.t (opF (gtD) [.t (callF fn_next [.b 0, .t (litF (.int 5))]), .t (litF (.int 0))]), .t (opF (ltD) [.b 7, .b 1])]) (tgN 8)) (ifF (bT (opF (eqD) [.b 6, .t (litF (.int 3))])) (asgF (opF (ltD) [.t (opF mulD [.t (litF (.int 2)), .b 7]), .t (opF addD [.b 1, .b 2])]) (tgN 8)) (ifF (bT (opF (eqD) [.b 6, .t (litF (.int 4))])) (asgF (orV (varF 8) (opF (eqD) [.t (callF fn_next [.b 0, .t (litF (.int 2))]), .t (litF (.int 0))])) (tgN 8)) (passF)))
def bodyOC : FS := ifF (orF (bT (opF (eqD) [.b 5, .t (lstF [])])) (andF (tstF (.b 8)) (bT (opF (ltD) [.t (opF lenD [.b 5]), .t (opF subD [.t (opF addD [.b 1, .b 2]), .b 7])])))) (dropF (mutF 5 appD [.t (opF ixD [.b 3, .b 7])])) (seqF (asgF (mutF 5 popD []) (tgN 9)) <|
  asgF (tupF [.t (opF ixD [.b 3, .b 7]), .t (varF 9)]) (tgT 2 (tgCons (tgSub 4 (.b 9)) (tgCons (tgSub 4 (.t (opF ixD [.b 3, .b 7]))) (tgNil)))))
def bodyO : FS := seqF bodyOA <| seqF bodyOB <| bodyOC
theorem eqOk_intB (i : Int) : eqOk (.int i) = true := (EqB.int (k := 0) i).ok (by omega)
theorem eqOk_blB (i : Bool) : eqOk (.bl i) = true := (EqB.bl (k := 0) i).ok (by omega)
theorem opens_ok {K : Nat} {w : D} {n m at_ : Nat} {l : Int} {A3 A4 A5 A8 A9 : Option D} (hw : Wok (K + 2) w) :
    ∃ (b : Bool) (w' : D), Wok K w' ∧ ∀ C : FS, (seqF bodyOA <| seqF bodyOB <| C) [some w, some (.int (n : Nat)), some (.int (m : Nat)), A3, A4, A5, some (.int l), some (.int (at_ : Nat)), A8, A9] =
      C [some w', some (.int (n : Nat)), some (.int (m : Nat)), A3, A4, A5, some (.int l), some (.int (at_ : Nat)), some (.bl b), A9] := by
  obtain ⟨v1, w1, e1, a1, b1, k1⟩ := next_ok (N := K + 1) (lim := 2) hw (by omega) (by omega)
  have o0 := hw.own
  have o1 := k1.own
  have p1 : fn_next.pins = [true, true] := rfl
  have q1 := eqOk_intB
  have q2 := eqOk_blB
  have mk : mulOk 2 (at_ : Nat) = true := mulOk_l (by omega) (by omega)
  by_cases h12 : l = 1 ∨ l = 2
  · obtain ⟨v2, w2, e2, a2, b2, k2⟩ := next_ok (N := K) (lim := 5) k1 (by omega) (by omega)
    have o2 := k2.own
    refine ⟨(decide (0 < v2) == decide ((at_ : Int) < (n : Int))), w2, k2, fun C => ?_⟩
    unfold bodyOA bodyOB
    rcases h12 with rfl | rfl
    · simp [e1, e2, o0, o1, o2, p1, q1, q2]
    · simp [e1, e2, o0, o1, o2, p1, q1, q2]
  · by_cases h3 : l = 3
    · subst h3
      refine ⟨decide (2 * (at_ : Int) < (n : Int) + (m : Int)), w1, k1.le (by omega), fun C => ?_⟩
      unfold bodyOA bodyOB
      simp [e1, o0, o1, p1, q1, q2, mk]
    · by_cases h4 : l = 4
      · subst h4
        by_cases hv : v1 = 0
        · refine ⟨true, w1, k1.le (by omega), fun C => ?_⟩
          unfold bodyOA bodyOB
          simp [e1, o0, o1, p1, q1, q2, mk, hv]
        · obtain ⟨v2, w2, e2, a2, b2, k2⟩ := next_ok (N := K) (lim := 2) k1 (by omega) (by omega)
          have o2 := k2.own
          refine ⟨decide (v2 = 0), w2, k2, fun C => ?_⟩
          unfold bodyOA bodyOB
          simp [e1, e2, o0, o1, o2, p1, q1, q2, mk, hv]
      · refine ⟨decide (v1 = 0), w1, k1.le (by omega), fun C => ?_⟩
        have h1 : l ≠ 1 := fun h => h12 (.inl h)
        have h2 : l ≠ 2 := fun h => h12 (.inr h)
        unfold bodyOA bodyOB
        simp [e1, o0, o1, p1, q1, q2, h1, h2, h3, h4]
def rdL (n N : Nat) (S : List Nat) : List Nat := S.map (roundAt n N)
theorem push_ok {n m i : Nat} {S : List Nat} {b : Bool} {A0 A4 A6 A9 : Option D} (hi : i < n + m) (hl : n + m ≤ 300) (hs : S.length ≤ n + m) (hc : S = [] ∨ (b = true ∧ S.length < n + m - i)) :
    bodyOC [A0, some (.int (n : Nat)), some (.int (m : Nat)), some (.lst true ((roundL n m).map natD)), A4, some (.lst true ((rdL n (n + m) S).map natD)), A6, some (.int (i : Nat)), some (.bl b), A9] =
      some (.nx [A0, some (.int (n : Nat)), some (.int (m : Nat)), some (.lst true ((roundL n m).map natD)), A4, some (.lst true ((rdL n (n + m) (S ++ [i])).map natD)), A6, some (.int (i : Nat)), some (.bl b), A9]) := by
  have x1 : atI ((roundL n m).map natD) (i : Nat) = some (natD (roundAt n (n + m) i)) := atI_nat (by rw [List.getElem?_map, roundL_at hi]; rfl)
  have x2 : appD ((rdL n (n + m) S).map natD) [natD (roundAt n (n + m) i)] = some (.non, (rdL n (n + m) (S ++ [i])).map natD) := by
    rw [appD_e _ (by simp [rdL]; omega)]
    simp [rdL]
  have x3 := eqOk_nats true (rdL n (n + m) S)
  have x4 : ((rdL n (n + m) S).map natD).isEmpty = S.isEmpty := by cases S <;> rfl
  have x5 : ((rdL n (n + m) S).map natD).length = S.length := by simp [rdL]
  generalize (roundL n m).map natD = R at *
  generalize (rdL n (n + m) S).map natD = X at *
  generalize (rdL n (n + m) (S ++ [i])).map natD = Y at *
  generalize roundAt n (n + m) i = z at *
  rw [natD_i] at x1 x2
  unfold bodyOC
  rcases hc with rfl | ⟨rfl, hc⟩
  · simp only [List.isEmpty_nil] at x4
    simp [x1, x2, x3, x4, eqOk_emp, deq_emp]
  · have c : ((S.length : Nat) : Int) < (n : Int) + (m : Int) - (i : Int) := by omega
    rw [← x5] at c
    by_cases h : S.isEmpty = true
    · rw [h] at x4
      simp [x1, x2, x3, x4, eqOk_emp, deq_emp]
    · have h : S.isEmpty = false := by simpa using h
      rw [h] at x4
      simp [x1, x2, x3, x4, c, eqOk_emp, deq_emp]
theorem pop_ok {n m i t : Nat} {S row : List Nat} {b : Bool} {A0 A6 A9 : Option D} (hi : i < n + m) (ht : t < n + m) (hl : n + m ≤ 300) (hr : row.length = n + m) (hc : b = false ∨ ¬ (S.length + 1 < n + m - i)) :
    bodyOC [A0, some (.int (n : Nat)), some (.int (m : Nat)), some (.lst true ((roundL n m).map natD)), some (.lst true (row.map natD)), some (.lst true ((rdL n (n + m) (S ++ [t])).map natD)), A6, some (.int (i : Nat)), some (.bl b), A9] =
      some (.nx [A0, some (.int (n : Nat)), some (.int (m : Nat)), some (.lst true ((roundL n m).map natD)), some (.lst true (((row.set (roundAt n (n + m) t) (roundAt n (n + m) i)).set (roundAt n (n + m) i) (roundAt n (n + m) t)).map natD)), some (.lst true ((rdL n (n + m) S).map natD)), A6, some (.int (i : Nat)), some (.bl b), some (natD (roundAt n (n + m) t))]) := by
  have x1 : atI ((roundL n m).map natD) (i : Nat) = some (natD (roundAt n (n + m) i)) := atI_nat (by rw [List.getElem?_map, roundL_at hi]; rfl)
  have hz : (rdL n (n + m) (S ++ [t])).map natD = (rdL n (n + m) S).map natD ++ [natD (roundAt n (n + m) t)] := by simp [rdL]
  have x2 : popD ((rdL n (n + m) (S ++ [t])).map natD) [] = some (natD (roundAt n (n + m) t), (rdL n (n + m) S).map natD) := by rw [hz, popD_e]
  have x3 := eqOk_nats true (rdL n (n + m) (S ++ [t]))
  have x4 : ((rdL n (n + m) (S ++ [t])).map natD).isEmpty = false := by rw [hz]; simp
  have x5 : ((rdL n (n + m) (S ++ [t])).map natD).length = S.length + 1 := by simp [rdL]
  have n1 : ixN (row.map natD).length ((roundAt n (n + m) t : Nat) : Int) = some (roundAt n (n + m) t) := ixN_nat (by rw [List.length_map, hr]; exact roundAt_lt (by omega) ht)
  have n2 : ixN (row.map natD).length ((roundAt n (n + m) i : Nat) : Int) = some (roundAt n (n + m) i) := ixN_nat (by rw [List.length_map, hr]; exact roundAt_lt (by omega) hi)
  have st : ((row.map natD).set (roundAt n (n + m) t) (.int (roundAt n (n + m) i : Nat))).set (roundAt n (n + m) i) (.int (roundAt n (n + m) t : Nat)) = ((row.set (roundAt n (n + m) t) (roundAt n (n + m) i)).set (roundAt n (n + m) i) (roundAt n (n + m) t)).map natD := by rw [map_setN, map_setN]
  rw [← st]
  generalize row.map natD = W at *
  generalize (roundL n m).map natD = R at *
  generalize (rdL n (n + m) (S ++ [t])).map natD = X at *
  generalize (rdL n (n + m) S).map natD = Y at *
  generalize roundAt n (n + m) i = z at *
  generalize roundAt n (n + m) t = y at *
  rw [natD_i] at x1 x2
  unfold bodyOC
  rcases hc with rfl | hc
  · simp [x1, x2, x3, x4, n1, n2, eqOk_emp, deq_emp, natD_i, small_le]
  · have c : ¬ ((X.length : Nat) : Int) < (n : Int) + (m : Int) - (i : Int) := by rw [x5]; omega
    cases b
    · simp [x1, x2, x3, x4, n1, n2, eqOk_emp, deq_emp, natD_i, small_le]
    · simp [x1, x2, x3, x4, n1, n2, c, eqOk_emp, deq_emp, natD_i, small_le]
theorem zerosB {n m : Nat} (hl : n + m ≤ 1000) : mulD [.lst true [.int 0], .int ((n : Nat) + (m : Nat))] = some (.lst true ((List.replicate (n + m) 0).map natD)) := by
  rw [mulD_n (by simp) (by omega) (by omega) (by simp; omega)]
  have : ((n : Int) + (m : Int)).toNat = n + m := by omega
  rw [this]
  congr 2
  rw [List.map_replicate]
  induction (n + m) with
  | zero => rfl
  | succ n ih => rw [List.replicate_succ, List.replicate_succ, List.flatten_cons, ih]; rfl
theorem snoc_of {S : List Nat} (h : S ≠ []) : ∃ S0 t, S = S0 ++ [t] := ⟨S.dropLast, S.getLast h, (List.dropLast_concat_getLast h).symm⟩
theorem lmat_ok {K n m : Nat} {w : D} (hw : Wok (K + 2 * (n + m) + 1) w) (h2 : 2 ∣ n + m) (hl : n + m ≤ 300) :
    ∃ qs w', fn_mat.sem [w, .int (n : Nat), .int (m : Nat)] = some (matD n m (M n m (spotP n m qs)), [some w', some (.int (n : Nat)), some (.int (m : Nat))]) ∧ Wok K w' ∧ NCP (List.range (n + m)) qs := by
  obtain ⟨l, w1, e1, a1, b1, k1⟩ := next_ok (N := K + 2 * (n + m)) (lim := 6) hw (by omega) (by omega)
  obtain ⟨ρ', h1, S, qs, row, w', a8, a9, a7, rfl, i1, i2, i3, i4⟩ := for_inv (tg := tgN 7) (body := bodyO) (ds := (List.range (n + m)).map natD)
    (ρ := [some w1, some (.int (n : Nat)), some (.int (m : Nat)), some (.lst true ((roundL n m).map natD)), some (.lst true ((List.replicate (n + m) 0).map natD)), some (.lst true []), some (.int l), none, none, none])
    (fun i ρ => ∃ (S : List Nat) (qs : Prs) (row : List Nat) (w' : D) (a8 a9 a7 : Option D), ρ = [some w', some (.int (n : Nat)), some (.int (m : Nat)), some (.lst true ((roundL n m).map natD)), some (.lst true (row.map natD)), some (.lst true ((rdL n (n + m) S).map natD)), some (.int l), a7, a8, a9] ∧
      Open (n + m) i S qs ∧ Wok (K + 2 * (n + m - i)) w' ∧ row.length = n + m ∧ ∀ q ∈ qs, row[roundAt n (n + m) q.1]? = some (roundAt n (n + m) q.2) ∧ row[roundAt n (n + m) q.2]? = some (roundAt n (n + m) q.1))
    ⟨[], [], List.replicate (n + m) 0, w1, none, none, none, rfl, Open.start h2, k1, by simp, by simp⟩ (by
      rintro i d ρ hd ⟨S, qs, row, w', a8, a9, a7, rfl, i1, i2, i3, i4⟩
      rw [List.getElem?_map] at hd
      obtain ⟨x, hx, rfl⟩ := Option.map_eq_some_iff.mp hd
      have hi : x < n + m := List.mem_range.mp (List.mem_of_getElem? hx)
      obtain rfl : x = i := by
        have := (List.getElem?_eq_some_iff.mp hx).2
        simpa using this.symm
      have hf := i1.few
      obtain ⟨b, w2, k2, ho⟩ := opens_ok (K := K + 2 * (n + m - (x + 1))) (w := w') (n := n) (m := m) (at_ := x) (l := l) (A3 := some (.lst true ((roundL n m).map natD))) (A4 := some (.lst true (row.map natD))) (A5 := some (.lst true ((rdL n (n + m) S).map natD))) (A8 := a8) (A9 := a9) (i2.le (by omega))
      have tn : ∀ C, turn (tgN 7) bodyO (natD x) [some w', some (.int (n : Nat)), some (.int (m : Nat)), some (.lst true ((roundL n m).map natD)), some (.lst true (row.map natD)), some (.lst true ((rdL n (n + m) S).map natD)), some (.int l), a7, a8, a9] = C →
          bodyOC [some w2, some (.int (n : Nat)), some (.int (m : Nat)), some (.lst true ((roundL n m).map natD)), some (.lst true (row.map natD)), some (.lst true ((rdL n (n + m) S).map natD)), some (.int l), some (.int (x : Nat)), some (.bl b), a9] = C := by
        intro C e
        rw [← e, ← ho bodyOC]
        rfl
      by_cases hc : S = [] ∨ (b = true ∧ S.length < n + m - x)
      · refine ⟨_, .inl ((tn _ rfl).symm.trans (push_ok hi hl (by omega) hc)), S ++ [x], qs, row, w2, _, _, _, rfl, i1.push hi (hc.imp id fun h => h.2), k2, i3, i4⟩
      · obtain ⟨S0, t, rfl⟩ := snoc_of (fun h => hc (.inl h))
        have ht : t < n + m := Nat.lt_trans (i1.lt (by simp)) hi
        have hc2 : b = false ∨ ¬ (S0.length + 1 < n + m - x) := by
          cases b
          · exact .inl rfl
          · refine .inr fun h => hc (.inr ⟨rfl, by simpa using h⟩)
        refine ⟨_, .inl ((tn _ rfl).symm.trans (pop_ok hi ht hl i3 hc2)), S0, qs ++ [(t, x)], _, w2, _, _, _, rfl, i1.pop hi, k2, by simp [i3], ?_⟩
        have ltx : t < x := i1.lt (by simp)
        have dt : t ∉ ends qs := i1.dis (by simp)
        intro q hq
        rcases List.mem_append.mp hq with hq | hq
        · obtain ⟨r1, r2⟩ := i4 q hq
          have l1 : q.1 < x := i1.ltE (mem_ends.mpr ⟨q, hq, .inl rfl⟩)
          have l2 : q.2 < x := i1.ltE (mem_ends.mpr ⟨q, hq, .inr rfl⟩)
          have d1 : q.1 ≠ t := fun h => dt (mem_ends.mpr ⟨q, hq, .inl h.symm⟩)
          have d2 : q.2 ≠ t := fun h => dt (mem_ends.mpr ⟨q, hq, .inr h.symm⟩)
          have ne : ∀ a b : Nat, a < n + m → b < n + m → a ≠ b → roundAt n (n + m) a ≠ roundAt n (n + m) b := fun a b ha hb h e => h (roundAt_inj (by omega) ha hb e)
          rw [List.getElem?_set_ne (ne _ _ hi (by omega) (by omega)), List.getElem?_set_ne (ne _ _ ht (by omega) (by omega)), List.getElem?_set_ne (ne _ _ hi (by omega) (by omega)), List.getElem?_set_ne (ne _ _ ht (by omega) (by omega))]
          exact ⟨r1, r2⟩
        · obtain rfl : q = (t, x) := by simpa using hq
          simp only
          have ne : roundAt n (n + m) x ≠ roundAt n (n + m) t := fun e => by
            have := roundAt_inj (by omega) hi ht e
            omega
          have b1 := roundAt_lt (n := n) (N := n + m) (by omega) ht
          have b2 := roundAt_lt (n := n) (N := n + m) (by omega) hi
          rw [List.getElem?_set_ne ne, List.getElem?_set_self (by omega), List.getElem?_set_self (by rw [List.length_set]; omega)]
          exact ⟨rfl, rfl⟩)
  rw [List.length_map, List.length_range] at i1 i2
  obtain ⟨rfl, nc⟩ := i1.end_
  have hR : Row n m (spotP n m qs) row := spot_row nc.ends i3 i4
  obtain rfl : row = M n m (spotP n m qs) := hR.uniq (M_row nc.spot) nc.spot.ends
  refine ⟨qs, w', ?_, i2.le (by omega), nc⟩
  have rd := lround_ok (n := n) (m := m) (by omega) (by omega)
  have z := zerosB (n := n) (m := m) (by omega)
  have r1 : rng1D [.int ((n : Nat) + (m : Nat))] = some ((List.range (n + m)).map natD) := by
    have := rng1_nat (u := n + m) (by omega)
    rwa [Int.natCast_add] at this
  have o0 := hw.own
  have o1 := k1.own
  have p1 : fn_next.pins = [true, true] := rfl
  have p2 : fn_round.pins = [true, true] := rfl
  have ho := noOwns_natDs (M n m (spotP n m qs))
  unfold matD
  generalize (M n m (spotP n m qs)).map natD = X at *
  generalize (List.replicate (n + m) 0).map natD = Y at *
  generalize (roundL n m).map natD = Z at *
  unfold bodyO bodyOA bodyOB bodyOC at h1
  unfold fn_mat F_mat
  rw [bodyFn_sem]
  simp [rd, z, e1, r1, o0, o1, p1, p2, h1, ho, small_le, tupleD_l]
def Mq (n m : Nat) (qs : Prs) : List Nat := M n m (spotP n m qs)
theorem Mq_mat {n m : Nat} {qs : Prs} (h : NCP (List.range (n + m)) qs) (h0 : 0 < n + m) : IsMat n m (Mq n m qs) := M_mat h.spot h0
def plL (n m : Nat) (qs : Prs) : List Nat := (roundL n m).map fun x => roundAt n (n + m) ((Mq n m qs).getD x 0)
def bodyU : FS := (asgF (opF ixD [.b 3, .t (opF ixD [.b 2, .b 5])]) (tgSub 4 (.t (opF ixD [.b 3, .b 5]))))
/-! alike -/
theorem isiD_b_tup (xs : List D) : isiD "bool" [.tup xs] = some (.bl false) := rfl
theorem isiD_i_tup (xs : List D) : isiD "int" [.tup xs] = some (.bl false) := rfl
theorem isiD_s_tup (xs : List D) : isiD "str" [.tup xs] = some (.bl false) := rfl
theorem isiD_t_tup (xs : List D) : isiD "tuple" [.tup xs] = some (.bl true) := rfl
theorem isiD_b_lst (o : Bool) (xs : List D) : isiD "bool" [.lst o xs] = some (.bl false) := rfl
theorem isiD_i_lst (o : Bool) (xs : List D) : isiD "int" [.lst o xs] = some (.bl false) := rfl
theorem isiD_s_lst (o : Bool) (xs : List D) : isiD "str" [.lst o xs] = some (.bl false) := rfl
theorem isiD_t_lst (o : Bool) (xs : List D) : isiD "tuple" [.lst o xs] = some (.bl false) := rfl
def bodyS (fn : Fn) : FS := (ifF (notF (tstF (.t (callF fn [.t (opF ixD [.b 0, .b 2]), .t (opF ixD [.b 1, .b 2])])))) (retF (litF (.bl false))) (passF))
theorem same_loop {fn : Fn} {d e : D} {xs : List D} (hp : fn.pins = [true, true]) (hd : ∀ i : Int, ixD [d, .int i] = bd (atI xs i) ownK) (he : ∀ i : Int, ixD [e, .int i] = bd (atI xs i) ownK) (a : Option D) (h : ∀ x ∈ xs, noOwn x = true ∧ fn.sem [x, x] = some (.bl true, [some x, some x])) :
    ∃ a', goFor (tgN 2) (bodyS fn) ((List.range xs.length).map natD) [some d, some e, a] = some (.nx [some d, some e, a']) := by
  obtain ⟨ρ', h1, a', rfl⟩ := for_inv (tg := tgN 2) (body := bodyS fn) (ds := (List.range xs.length).map natD) (ρ := [some d, some e, a]) (fun i ρ => ∃ a', ρ = [some d, some e, a']) ⟨a, rfl⟩ (by
    rintro i d0 ρ hd0 ⟨a', rfl⟩
    rw [List.getElem?_map] at hd0
    obtain ⟨x, hx, rfl⟩ := Option.map_eq_some_iff.mp hd0
    have hi : x < xs.length := List.mem_range.mp (List.mem_of_getElem? hx)
    obtain ⟨h1, h2⟩ := h (xs[x]'hi) (List.getElem_mem hi)
    have x1 : atI xs (x : Nat) = some (xs[x]'hi) := atI_nat (List.getElem?_eq_getElem hi)
    refine ⟨_, .inl ?_, some (natD x), rfl⟩
    rw [turn_e, natD_i]
    unfold bodyS
    generalize xs[x]'hi = y at *
    simp [hd, he, x1, h1, h2, hp, putB_t1])
  exact ⟨a', h1⟩
inductive PlainB : Nat → D → Prop
  | int {k : Nat} (i : Int) : PlainB k (.int i)
  | bl {k : Nat} (i : Bool) : PlainB k (.bl i)
  | tup {k : Nat} {xs : List D} : xs.length ≤ 100000 → (∀ x ∈ xs, PlainB k x) → PlainB (k + 1) (.tup xs)
  | lst {k : Nat} {xs : List D} : xs.length ≤ 100000 → (∀ x ∈ xs, PlainB k x) → PlainB (k + 1) (.lst false xs)
theorem PlainB.own {k : Nat} {d : D} (h : PlainB k d) : noOwn d = true := by
  induction h with
  | int i => simp
  | bl i => simp
  | tup _ _ ih => rw [noOwn_tup]; exact noOwns_all ih
  | lst _ _ ih => rw [noOwn_lst]; simpa using noOwns_all ih
theorem PlainB.le {k : Nat} {d : D} (h : PlainB k d) : ∀ {n : Nat}, k ≤ n → PlainB n d := by
  induction h with
  | int i => intro n _; exact .int i
  | bl i => intro n _; exact .bl i
  | @tup k xs hl _ ih =>
    intro n hn
    obtain ⟨m, rfl⟩ : ∃ m, n = m + 1 := ⟨n - 1, by omega⟩
    exact .tup hl fun x hx => ih x hx (by omega)
  | @lst k xs hl _ ih =>
    intro n hn
    obtain ⟨m, rfl⟩ : ∃ m, n = m + 1 := ⟨n - 1, by omega⟩
    exact .lst hl fun x hx => ih x hx (by omega)
theorem same_ok_int (k : Nat) (i : Int) : (fn_same_at (k + 1)).sem [.int i, .int i] = some (.bl true, [some (.int i), some (.int i)]) := by
  show (bodyFn 3 2 [true, true] (F_same (fn_same_at k))).sem _ = _
  generalize fn_same_at k = f
  rw [bodyFn_sem]; unfold F_same
  simp [isiD_s_int, isiD_b_int, isiD_i_int]
theorem same_ok_bl (k : Nat) (i : Bool) : (fn_same_at (k + 1)).sem [.bl i, .bl i] = some (.bl true, [some (.bl i), some (.bl i)]) := by
  show (bodyFn 3 2 [true, true] (F_same (fn_same_at k))).sem _ = _
  generalize fn_same_at k = f
  rw [bodyFn_sem]; unfold F_same
  simp [isiD_s_bl, isiD_b_bl, isiD_i_bl]
theorem same_ok_tup {k : Nat} {xs : List D} (hs : xs.length ≤ 100000) (h : ∀ x ∈ xs, noOwn x = true ∧ (fn_same_at k).sem [x, x] = some (.bl true, [some x, some x])) :
    (fn_same_at (k + 1)).sem [.tup xs, .tup xs] = some (.bl true, [some (.tup xs), some (.tup xs)]) := by
  obtain ⟨a, l⟩ := same_loop (fn := fn_same_at k) (d := .tup xs) (e := .tup xs) (same_pins _) (fun i => ixD_t xs i) (fun i => ixD_t xs i) none h
  have ho : noOwns xs = true := noOwns_all fun x hx => (h x hx).1
  have r1 := rng1_nat hs
  show (bodyFn 3 2 [true, true] (F_same (fn_same_at k))).sem _ = _
  unfold bodyS at l
  generalize fn_same_at k = f at *
  generalize (List.range xs.length).map natD = R at *
  rw [bodyFn_sem]; unfold F_same
  simp [isiD_b_tup, isiD_i_tup, isiD_s_tup, isiD_t_tup, isiD_l_tup, ho, l, r1]
theorem same_ok_lst {k : Nat} {xs : List D} {o o' : Bool} (hs : xs.length ≤ 100000) (h : ∀ x ∈ xs, noOwn x = true ∧ (fn_same_at k).sem [x, x] = some (.bl true, [some x, some x])) :
    (fn_same_at (k + 1)).sem [.lst o xs, .lst o' xs] = some (.bl true, [some (.lst o xs), some (.lst o' xs)]) := by
  obtain ⟨a, l⟩ := same_loop (fn := fn_same_at k) (d := .lst o xs) (e := .lst o' xs) (same_pins _) (fun i => ixD_l o xs i) (fun i => ixD_l o' xs i) none h
  have ho : noOwns xs = true := noOwns_all fun x hx => (h x hx).1
  have r1 := rng1_nat hs
  show (bodyFn 3 2 [true, true] (F_same (fn_same_at k))).sem _ = _
  unfold bodyS at l
  generalize fn_same_at k = f at *
  generalize (List.range xs.length).map natD = R at *
  rw [bodyFn_sem]; unfold F_same
  simp [isiD_b_lst, isiD_i_lst, isiD_s_lst, isiD_t_lst, isiD_l_lst, ho, l, r1]
theorem same_ok {k : Nat} {d : D} (h : PlainB k d) : ∀ {n : Nat}, k ≤ n → (fn_same_at (n + 1)).sem [d, d] = some (.bl true, [some d, some d]) := by
  induction h with
  | int i => intro n _; exact same_ok_int n i
  | bl i => intro n _; exact same_ok_bl n i
  | @tup k xs hl hx ih =>
    intro n hn
    obtain ⟨m, rfl⟩ : ∃ m, n = m + 1 := ⟨n - 1, by omega⟩
    exact same_ok_tup hl fun x hm => ⟨(hx x hm).own, ih x hm (by omega)⟩
  | @lst k xs hl hx ih =>
    intro n hn
    obtain ⟨m, rfl⟩ : ∃ m, n = m + 1 := ⟨n - 1, by omega⟩
    exact same_ok_lst hl fun x hm => ⟨(hx x hm).own, ih x hm (by omega)⟩
theorem same_ok19 {k : Nat} {d : D} (h : PlainB k d) (hk : k ≤ 19) : fn_same.sem [d, d] = some (.bl true, [some d, some d]) := same_ok h (n := 19) hk
theorem plainB_nats (k : Nat) (xs : List Nat) : ∀ x ∈ xs.map natD, PlainB k x := fun x hx => by
  obtain ⟨i, _, rfl⟩ := List.mem_map.mp hx
  exact .int _
theorem plainB_mat {n m : Nat} {row : List Nat} (h : row.length ≤ 100000) : PlainB 2 (matD n m row) := by
  refine .tup (by simp) fun x hx => ?_
  simp only [List.mem_cons, List.not_mem_nil, or_false] at hx
  rcases hx with rfl | rfl | rfl
  · exact .int _
  · exact .int _
  · exact .tup (by simpa using h) (plainB_nats _ _)
/-! what may be compared -/
/-! the pegs round about -/
/-! ### a comprehension with an if -/
/-! ### the draws -/
def wlD (ns : List Int) (p l s : Int) : D := .lst true [.lst false (ns.map .int), .int p, .int l, .int s]
def DOk (d : D) : Prop := ∃ (ns : List Int) (p l s : Int), d = wlD ns p l s ∧ ns.length ≤ 63 ∧ 0 ≤ p ∧ p ≤ ns.length ∧ 0 ≤ l ∧ 0 ≤ s ∧ s < 2147483647
theorem DOk.own {d : D} (h : DOk d) : noOwn d = false := by
  obtain ⟨_, _, _, _, rfl, _⟩ := h
  simp [wlD]
def dipH : FS := (ifF (andF (bT (opF (ltD) [.t (opF ixD [.b 0, .t (litF (.int 2))]), .t (litF (.int 2))])) (bT (opF (ltD) [.t (opF ixD [.b 0, .t (litF (.int 1))]), .t (opF lenD [.t (opF ixD [.b 0, .t (litF (.int 0))])])]))) (seqF (asgF (opF ixD [.t (opF ixD [.b 0, .t (litF (.int 0))]), .t (opF ixD [.b 0, .t (litF (.int 1))])]) (tgN 2)) <|
  seqF (asgF (opF addD [.t (opF ixD [.b 0, .t (litF (.int 1))]), .t (litF (.int 1))]) (tgSub 0 (.t (litF (.int 1))))) <|
  ifF (bT (opF (geD) [.b 2, .t (opF powD [.t (litF (.int 10)), .t (litF (.int 18))])])) (asgF (varF 2) (tgSub 0 (.t (litF (.int 2))))) (asgF (opF modD [.t (opF intD [.t (opF addD [.t (opF addD [.t (opF mulD [.t (opF ixD [.b 0, .t (litF (.int 3))]), .t (litF (.int 69621))]), .t (opF powD [.t (opF modD [.t (opF intD [.b 2]), .t (litF (.int 2147483629))]), .t (litF (.int 3))])]), .t (opF mulD [.t (litF (.int 7919)), .t (opF ixD [.b 0, .t (litF (.int 1))])])])]), .t (litF (.int 2147483647))]) (tgSub 0 (.t (litF (.int 3)))))) (passF))
def asIntK : D × Env → Option (D × Env) := fun p => match p.1 with
  | .int i => some (.int i, p.2)
  | _ => none
@[simp] theorem asIntK_e (i : Int) (ρ : Env) : asIntK (.int i, ρ) = some (.int i, ρ) := nrfl rfl
@[simp] theorem asInt_e (f : FE) (ρ : Env) : asInt f ρ = bd (f ρ) asIntK := nrfl rfl
/-! ### slices of tuples -/
/-! ### words and moves -/
abbrev Mv := Str × Int
def wordD (w : List Nat) : D := .tup (w.map natD)
def mvD (m : Mv) : D := .tup [.str m.1, .int m.2]
@[simp] theorem noOwn_wordD (w : List Nat) : noOwn (wordD w) = true := by simp [wordD]
@[simp] theorem noOwn_mvD (m : Mv) : noOwn (mvD m) = true := by simp [mvD]
@[simp] theorem noOwns_mvDs (ms : List Mv) : noOwns (ms.map mvD) = true := noOwns_map noOwn_mvD ms
def MvOk (m : Mv) : Prop := PyData.strOk m.1 = true
theorem EqB.str {k : Nat} {s : Str} (h : PyData.strOk s = true) : EqB k (.str s) := ⟨rfl, h, Nat.zero_le _⟩
def stepAt (w : List Nat) (i : Nat) : List Mv :=
  if w.getD i 0 = w.getD (i + 1) 0 then [(("two" : Str), (i : Int))]
  else if w.getD i 0 + 1 < w.getD (i + 1) 0 ∨ w.getD (i + 1) 0 + 1 < w.getD i 0 then [(("far" : Str), (i : Int))]
  else if i + 2 < w.length ∧ w.getD (i + 2) 0 = w.getD i 0 then [(("neighbours" : Str), (i : Int))] else []
def stepsL (w : List Nat) : List Mv := (List.range (w.length - 1)).flatMap (stepAt w)
def mvLe (a b : Mv) : Bool := PySem.W.dataLe false pyD (mvD a) (mvD b)
def stepsS (w : List Nat) : List Mv := (stepsL w).mergeSort mvLe
def bodySt : FS := (seqF (asgF (opF absD [.t (opF subD [.t (opF ixD [.b 0, .b 2]), .t (opF ixD [.b 0, .t (opF addD [.b 2, .t (litF (.int 1))])])])]) (tgN 3)) <|
  seqF (ifF (bT (opF (eqD) [.b 3, .t (litF (.int 0))])) (dropF (mutF 1 appD [.t (tupF [.t (litF (.str "two")), .t (varF 2)])])) (passF)) <|
  seqF (ifF (bT (opF (gtD) [.b 3, .t (litF (.int 1))])) (dropF (mutF 1 appD [.t (tupF [.t (litF (.str "far")), .t (varF 2)])])) (passF)) <|
  ifF (andF (bT (opF (eqD) [.b 3, .t (litF (.int 1))])) (andF (bT (opF (ltD) [.t (opF addD [.b 2, .t (litF (.int 2))]), .t (opF lenD [.b 0])])) (bT (opF (eqD) [.t (opF ixD [.b 0, .t (opF addD [.b 2, .t (litF (.int 2))])]), .t (opF ixD [.b 0, .b 2])])))) (dropF (mutF 1 appD [.t (tupF [.t (litF (.str "neighbours")), .t (varF 2)])])) (passF))
def bodySo : FS := (seqF (asgF (opF absD [.t (opF subD [.t (opF ixD [.b 0, .b 2]), .t (opF ixD [.b 0, .t (opF addD [.b 2, .t (litF (.int 1))])])])]) (tgN 3)) <|
  ifF (bT (opF (eqD) [.b 3, .t (litF (.int 0))])) (dropF (mutF 1 appD [.t (tupF [.t (litF (.str "two")), .t (varF 2)])])) (ifF (bT (opF (gtD) [.b 3, .t (litF (.int 1))])) (dropF (mutF 1 appD [.t (tupF [.t (litF (.str "far")), .t (varF 2)])])) (ifF (bT (opF (eqD) [.t (opF (partD true true) [.b 0, .t (asInt (opF addD [.b 2, .t (litF (.int 2))])), .t (asInt (opF addD [.b 2, .t (litF (.int 3))]))]), .t (opF (partD true true) [.b 0, .t (asInt (varF 2)), .t (asInt (opF addD [.b 2, .t (litF (.int 1))]))])])) (dropF (mutF 1 appD [.t (tupF [.t (litF (.str "neighbours")), .t (varF 2)])])) (passF))))
theorem eqvAll_nats : ∀ xs ys : List Nat, PyData.eqvAll (pyDs (xs.map natD)) (pyDs (ys.map natD)) = decide (xs = ys)
  | [], [] => rfl
  | [], y :: ys => by simp [pyDs, PyData.eqvAll]
  | x :: xs, [] => by simp [pyDs, PyData.eqvAll]
  | x :: xs, y :: ys => by
    simp only [List.map_cons, pyDs, PyData.eqvAll, eqvAll_nats xs ys, natD, pyD, PyData.eqv]
    by_cases h1 : x = y <;> by_cases h2 : xs = ys <;> simp [h1, h2]
    intro h; exact absurd (Int.ofNat.inj h) h1
/-! a move made -/
def madeW (w : List Nat) (m : Mv) : List Nat :=
  if m.1 = ("two" : Str) then w.take m.2.toNat ++ w.drop (m.2.toNat + 1)
  else if m.1 = ("neighbours" : Str) then w.take m.2.toNat ++ [w.getD m.2.toNat 0] ++ w.drop (m.2.toNat + 3)
  else w.take m.2.toNat ++ [w.getD (m.2.toNat + 1) 0, w.getD m.2.toNat 0] ++ w.drop (m.2.toNat + 2)
inductive PS : Nat → D → Prop
  | non {k : Nat} : PS k .non
  | int {k : Nat} (i : Int) : PS k (.int i)
  | bl {k : Nat} (i : Bool) : PS k (.bl i)
  | str {k : Nat} (s : Str) : PyData.strOk s = true → PS k (.str s)
  | tup {k : Nat} {xs : List D} : (∀ x ∈ xs, PS k x) → xs.length ≤ 1000 → PS (k + 1) (.tup xs)
theorem PS.own {k : Nat} {d : D} (h : PS k d) : noOwn d = true := by
  induction h with
  | non => simp
  | int i => simp
  | bl i => simp
  | str s => simp
  | tup _ _ ih => rw [noOwn_tup]; exact noOwns_all ih
/-! the words' check -/
def bodyCw1 : FS := (ifF (notF (bT (chainF (fun i j => decide (i ≤ j)) (fun i j => decide (i < j)) (.t (litF (.int 0))) (.b 3) (.t (opF subD [.b 0, .t (litF (.int 1))]))))) (neverF) (passF))
def bodyCw : FS := (forF (itSeq (varF 2)) (tgN 3) bodyCw1)
def WOk (n most : Nat) (v : List Nat) : Prop := v.length ≤ most ∧ ∀ x ∈ v, x + 1 < n
def stNear : FE := (ifE (bT (opF (neD) [.b 2, .t (tupF [])])) (lcF [10] (itSeq (lstF [.t (opF subD [.t (opF ixD [.b 2, .b 7]), .t (litF (.int 1))]), .t (opF addD [.t (opF ixD [.b 2, .b 7]), .t (litF (.int 1))])])) (tgN 10) (andF (bT (opF (leD) [.t (litF (.int 0)), .b 10])) (bT (opF (ltD) [.b 10, .t (opF subD [.b 1, .t (litF (.int 1))])]))) (varF 10)) (lstF []))
def nearOk (n : Nat) (ys : List Int) : Prop := ys.length ≤ 2 ∧ ∀ y ∈ ys, 0 ≤ y ∧ y + 1 < n
/-! ### the drawn moves -/
def valD (n : Nat) (s : Nat × List Nat) : D := .tup [.int (s.1 : Nat), matD n n s.2]
/-! what a move does to the value -/
def lessN (m : Mv) : Nat := if m.1 = ("two" : Str) then 1 else 0
theorem WOk.le {n a b : Nat} {v : List Nat} (h : WOk n a v) (hab : a ≤ b) : WOk n b v := ⟨Nat.le_trans h.1 hab, h.2⟩
theorem goWhile_succ (c : FB) (body : FS) (n : Nat) (ρ : Env) : goWhile c body (n + 1) ρ = (c ρ).bind fun p => if p.1 = true then (body p.2).bind fun o => match o with
    | .nx ρ2 => goWhile c body n ρ2
    | .ct ρ2 => goWhile c body n ρ2
    | .bk ρ2 => some (.nx ρ2)
    | .rt d ρ2 => some (.rt d ρ2)
    | .rz n d ρ2 => some (.rz n d ρ2) else some (.nx p.2) := rfl
theorem wh_t {c : FB} {b : FS} {n : Nat} {ρ ρ1 ρ2 : Env} (h1 : c ρ = some (true, ρ1)) (h2 : b ρ1 = some (.nx ρ2)) : goWhile c b (n + 1) ρ = goWhile c b n ρ2 := by
  rw [goWhile_succ, h1]
  simp only [Option.bind_some, if_true, h2]
theorem wh_r {c : FB} {b : FS} {n : Nat} {ρ ρ1 ρ2 : Env} {d : D} (h1 : c ρ = some (true, ρ1)) (h2 : b ρ1 = some (.rt d ρ2)) : goWhile c b (n + 1) ρ = some (.rt d ρ2) := by
  rw [goWhile_succ, h1]
  simp only [Option.bind_some, if_true, h2]
theorem wh_f {c : FB} {b : FS} {n : Nat} {ρ ρ1 : Env} (h1 : c ρ = some (false, ρ1)) : goWhile c b (n + 1) ρ = some (.nx ρ1) := by
  rw [goWhile_succ, h1]
  simp only [Option.bind_some, Bool.false_eq_true, if_false]
def blsD (ps : List Bool) : D := .lst true (ps.map D.bl)
theorem noOwns_bls (ps : List Bool) : noOwns (ps.map D.bl) = true := noOwns_map (fun _ => by simp) _
theorem own_bls (ps : List Bool) : noOwn (blsD ps) = false := by simp [blsD]
theorem set_bls (ps : List Bool) (j : Nat) : (ps.map D.bl).set j (.bl true) = (ps.set j true).map D.bl := by rw [List.map_set]
/-! ### an end of a string -/
def condFe : FB := (tstF (.t (litF (.bl true))))
def bodyFe : FS := (seqF (ifF (tstF (.b 6)) (seqF (ifF (bT (opF (ltD) [.b 7, .b 4])) (retF (movF 7)) (passF)) <|
  seqF (augF 7 isubD (.b 4)) <|
  seqF (asgF (litF (.bl true)) (tgSub 3 (.b 7))) <|
  asgF (opF ixD [.t (opF ixD [.b 1, .t (litF (.int 2))]), .b 7]) (tgN 7)) (seqF (ifF (bT (opF (geD) [.b 7, .b 5])) (retF (opF subD [.t (opF addD [.b 4, .b 7]), .b 5])) (passF)) <|
  seqF (asgF (litF (.bl true)) (tgSub 3 (.b 7))) <|
  asgF (opF ixD [.t (opF ixD [.b 0, .t (litF (.int 2))]), .t (opF addD [.b 4, .b 7])]) (tgN 7))) <|
  asgF (notV (varF 6)) (tgN 6))
theorem F_far_end_e : F_p_far_end = (seqF (parF [4, 5] [.t (opF ixD [.b 0, .t (litF (.int 0))]), .t (opF ixD [.b 0, .t (litF (.int 1))])]) <|
  seqF (asgF (opF (ltD) [.b 2, .b 4]) (tgN 6)) <|
  seqF (asgF (ifE (tstF (.b 6)) (opF ixD [.t (opF ixD [.b 0, .t (litF (.int 2))]), .b 2]) (opF ixD [.t (opF ixD [.b 1, .t (litF (.int 2))]), .t (opF subD [.t (opF addD [.b 5, .b 2]), .b 4])])) (tgN 7)) <|
  whF FUEL condFe bodyFe) := rfl
theorem condFe_e (ρ : Env) : condFe ρ = some (true, ρ) := by
  unfold condFe
  simp
section
variable {n m k : Nat} {ra rh : List Nat} {P : Option D}
def envW (n m k : Nat) (ra rh : List Nat) (P : Option D) (ps : List Bool) (b : Bool) (a : Nat) : Env := [some (matD n m ra), some (matD m k rh), P, some (blsD ps), some (.int (n : Nat)), some (.int (m : Nat)), some (.bl b), some (.int (a : Nat))]
theorem Fe_t1 {ps : List Bool} {a : Nat} (h : a < n) : bodyFe (envW n m k ra rh P ps true a) = some (.rt (.int (a : Nat)) [some (matD n m ra), some (matD m k rh), P, some (blsD ps), some (.int (n : Nat)), some (.int (m : Nat)), some (.bl true), none]) := by
  unfold bodyFe envW
  simp [h]
theorem Fe_t2 {ps : List Bool} {a : Nat} (h : ¬ a < n) (h2 : a - n < m) (hp : ps.length = m) (hl : rh.length = m + k) : bodyFe (envW n m k ra rh P ps true a) = some (.nx (envW n m k ra rh P (ps.set (a - n) true) false (rowF rh (a - n)))) := by
  have x1 : atI (rh.map natD) ((a : Int) - (n : Int)) = some (.int (rowF rh (a - n) : Nat)) := by
    rw [show (a : Int) - (n : Int) = ((a - n : Nat) : Int) by omega]
    exact atI_mapN (z := 0) (by omega)
  have i1 : ixN m ((a : Int) - (n : Int)) = some (a - n) := by
    rw [show (a : Int) - (n : Int) = ((a - n : Nat) : Int) by omega]
    exact ixN_nat h2
  have sb := set_bls ps (a - n)
  have ll : (ps.map D.bl).length = m := by rw [List.length_map]; exact hp
  have no := noOwns_natDs rh
  have nb := noOwns_bls ps
  have c1 : ¬ (a : Int) < (n : Int) := by omega
  unfold bodyFe envW blsD matD
  rw [← sb]
  generalize ps.map D.bl = B at *
  generalize rh.map natD = H at *
  generalize ra.map natD = A at *
  simp [h, c1, x1, i1, ll, no, nb]
theorem Fe_f1 {ps : List Bool} {a : Nat} (h : m ≤ a) : bodyFe (envW n m k ra rh P ps false a) = some (.rt (.int ((n + a - m : Nat) : Nat)) (envW n m k ra rh P ps false a)) := by
  have c1 : (m : Int) ≤ (a : Int) := by omega
  have c2 : ((n + a - m : Nat) : Int) = (n : Int) + (a : Int) - (m : Int) := by omega
  rw [c2]
  unfold bodyFe envW
  simp [h, c1]
theorem Fe_f2 {ps : List Bool} {a : Nat} (h : ¬ m ≤ a) (hp : ps.length = m) (hl : ra.length = n + m) : bodyFe (envW n m k ra rh P ps false a) = some (.nx (envW n m k ra rh P (ps.set a true) true (rowF ra (n + a)))) := by
  have x1 : atI (ra.map natD) ((n : Int) + (a : Int)) = some (.int (rowF ra (n + a) : Nat)) := atI_mapN (z := 0) (i := n + a) (by omega)
  have i1 : ixN m (a : Int) = some a := ixN_nat (by omega)
  have sb := set_bls ps a
  have ll : (ps.map D.bl).length = m := by rw [List.length_map]; exact hp
  have no := noOwns_natDs ra
  have nb := noOwns_bls ps
  have c1 : ¬ (m : Int) ≤ (a : Int) := by omega
  unfold bodyFe envW blsD matD
  rw [← sb]
  generalize ps.map D.bl = B at *
  generalize rh.map natD = H at *
  generalize ra.map natD = A at *
  simp [h, c1, x1, i1, ll, no, nb]
theorem Fe_loop (ha : ra.length = n + m) (hh : rh.length = m + k) (hA : ∀ p, p < n + m → rowF ra p < n + m) (hH : ∀ p, p < m + k → rowF rh p < m + k) : ∀ (f F : Nat) (b : Bool) (a : Nat) (ps : List Bool) (r : Nat) (ps' : List Bool), wk (rowF ra) (rowF rh) n m f b a ps = some (r, ps') → f ≤ F → ps.length = m → (if b = true then a < n + m else a < m + k) →
    ∃ B6 B7, goWhile condFe bodyFe F (envW n m k ra rh P ps b a) = some (.rt (.int (r : Nat)) [some (matD n m ra), some (matD m k rh), P, some (blsD ps'), some (.int (n : Nat)), some (.int (m : Nat)), B6, B7])
  | 0, F, b, a, ps, r, ps', h, _, _, _ => by cases h
  | f + 1, F, true, a, ps, r, ps', h, hF, hp, hb => by
    obtain ⟨F, rfl⟩ : ∃ G, F = G + 1 := ⟨F - 1, by omega⟩
    rw [if_pos rfl] at hb
    rw [wk_t] at h
    by_cases c : a < n
    · rw [if_pos c] at h
      cases h
      exact ⟨_, _, wh_r (condFe_e _) (Fe_t1 c)⟩
    · rw [if_neg c] at h
      obtain ⟨B6, B7, e⟩ := Fe_loop ha hh hA hH f F false (rowF rh (a - n)) (ps.set (a - n) true) r ps' h (by omega) (by rw [List.length_set]; exact hp) (by rw [if_neg (by simp)]; exact hH _ (by omega))
      exact ⟨B6, B7, (wh_t (condFe_e _) (Fe_t2 c (by omega) hp hh)).trans e⟩
  | f + 1, F, false, a, ps, r, ps', h, hF, hp, hb => by
    obtain ⟨F, rfl⟩ : ∃ G, F = G + 1 := ⟨F - 1, by omega⟩
    rw [wk_f] at h
    by_cases c : m ≤ a
    · rw [if_pos c] at h
      cases h
      exact ⟨_, _, wh_r (condFe_e _) (Fe_f1 c)⟩
    · rw [if_neg c] at h
      obtain ⟨B6, B7, e⟩ := Fe_loop ha hh hA hH f F true (rowF ra (n + a)) (ps.set a true) r ps' h (by omega) (by rw [List.length_set]; exact hp) (by rw [if_pos rfl]; exact hA _ (by omega))
      exact ⟨B6, B7, (wh_t (condFe_e _) (Fe_f2 c hp ha)).trans e⟩
theorem far_end_ok {p f r : Nat} {ps ps' : List Bool} (hn : n + m + k ≤ 100000) (ha : ra.length = n + m) (hh : rh.length = m + k) (hA : ∀ p, p < n + m → rowF ra p < n + m) (hH : ∀ p, p < m + k → rowF rh p < m + k) (hp : p < n + k) (hl : ps.length = m) (hf : f ≤ 1000000)
    (hw : wk (rowF ra) (rowF rh) n m f (wkS (rowF ra) (rowF rh) n m p).1 (wkS (rowF ra) (rowF rh) n m p).2 ps = some (r, ps')) :
    fn_p_far_end.sem [matD n m ra, matD m k rh, .int (p : Nat), blsD ps] = some (.int (r : Nat), [some (matD n m ra), some (matD m k rh), some (.int (p : Nat)), some (blsD ps')]) := by
  have noa := noOwns_natDs ra
  have noh := noOwns_natDs rh
  unfold wkS at hw
  by_cases c : p < n
  · rw [if_pos c] at hw
    obtain ⟨B6, B7, e⟩ := Fe_loop (P := some (.int (p : Nat))) ha hh hA hH f FUEL true (rowF ra p) ps r ps' hw hf hl (by rw [if_pos rfl]; exact hA _ (by omega))
    have x1 : atI (ra.map natD) (p : Int) = some (.int (rowF ra p : Nat)) := atI_mapN (z := 0) (by omega)
    have c1 : (p : Int) < (n : Int) := by omega
    unfold fn_p_far_end
    rw [bodyFn_sem, F_far_end_e]
    unfold envW matD at e
    unfold matD
    generalize blsD ps = PS at *
    generalize blsD ps' = PS' at *
    generalize rh.map natD = H at *
    generalize ra.map natD = A at *
    simp [c, c1, x1, noa, noh, e]
  · rw [if_neg c] at hw
    obtain ⟨B6, B7, e⟩ := Fe_loop (P := some (.int (p : Nat))) ha hh hA hH f FUEL false (rowF rh (m + p - n)) ps r ps' hw hf hl (by rw [if_neg (by simp)]; exact hH _ (by omega))
    have x1 : atI (rh.map natD) ((m : Int) + (p : Int) - (n : Int)) = some (.int (rowF rh (m + p - n) : Nat)) := by
      rw [show (m : Int) + (p : Int) - (n : Int) = ((m + p - n : Nat) : Int) by omega]
      exact atI_mapN (z := 0) (by omega)
    have c1 : ¬ (p : Int) < (n : Int) := by omega
    unfold fn_p_far_end
    rw [bodyFn_sem, F_far_end_e]
    unfold envW matD at e
    unfold matD
    generalize blsD ps = PS at *
    generalize blsD ps' = PS' at *
    generalize rh.map natD = H at *
    generalize ra.map natD = A at *
    simp [c, c1, x1, noa, noh, e]
end
theorem bl_at {ps : List Bool} {j : Nat} (h : j < ps.length) : atI (ps.map D.bl) (j : Int) = some (.bl (bt ps j)) := by
  refine atI_nat ?_
  unfold bt
  simp [List.getD_eq_getElem?_getD, h]
section
variable {n i : Nat} {row : List Nat}
def bodyPb : FS := (dropF (mutF 5 appD [.t (callF fn_p_far_end [.b 0, .b 1, .b 6, .b 4])]))
structure Pb (n i : Nat) (A : Nat → Nat) (j : Nat) (ps : List Bool) : Prop where
  len : ps.length = n
  dn : ∀ q, bt ps q = true → Tq A n i q
  up : ∀ p, p < j → n ≤ p → p ≠ n + i → p ≠ n + i + 1 → bt ps (p - n) = true
  ho : A (n + i) < j → A (n + i) ≠ n + i + 1 → bt ps i = true ∧ bt ps (i + 1) = true
theorem bt_rep (n q : Nat) : bt (List.replicate n false) q = false := by
  unfold bt
  rw [List.getD_eq_getElem?_getD, List.getElem?_replicate]
  split <;> rfl
/-! the rings between -/
def condLr : FB := (notF (tstF (.t (opF ixD [.b 2, .b 6]))))
def bodyLr : FS := (seqF (asgF (litF (.bl true)) (tgSub 2 (.b 6))) <|
  seqF (asgF (opF subD [.t (opF ixD [.t (opF ixD [.b 0, .t (litF (.int 2))]), .t (opF addD [.b 3, .b 6])]), .b 3]) (tgN 6)) <|
  seqF (asgF (litF (.bl true)) (tgSub 2 (.b 6))) <|
  asgF (opF ixD [.t (opF ixD [.b 1, .t (litF (.int 2))]), .b 6]) (tgN 6))
def bodyLo : FS := (ifF (notF (tstF (.t (opF ixD [.b 2, .b 5])))) (seqF (augF 4 iaddD (.t (litF (.int 1)))) <|
  seqF (asgF (varF 5) (tgN 6)) <| whF FUEL condLr bodyLr) (passF))
theorem F_loose_e : F_p_loose_rings = (seqF (asgF (opF ixD [.b 0, .t (litF (.int 0))]) (tgN 3)) <|
  seqF (asgF (litF (.int 0)) (tgN 4)) <|
  seqF (forF (itRg rng1D [.t (opF ixD [.b 0, .t (litF (.int 1))])]) (tgN 5) bodyLo) <| retF (movF 4)) := rfl
theorem Lo_pass {ps : List Bool} {s : Nat} {M O N R A5 A6 : Option D} (hs : s < ps.length) (hb : bt ps s = true) : turn (tgN 5) bodyLo (natD s) [M, O, some (blsD ps), N, R, A5, A6] = some (.nx [M, O, some (blsD ps), N, R, some (natD s), A6]) := by
  have x := bl_at hs
  rw [hb] at x
  rw [turn_e]
  unfold bodyLo blsD natD
  generalize ps.map D.bl = B at *
  simp [x]
theorem flat_rep : ∀ n : Nat, (List.replicate n [D.bl false]).flatten = (List.replicate n false).map D.bl
  | 0 => rfl
  | n + 1 => by
    rw [List.replicate_succ, List.flatten_cons, flat_rep n, List.replicate_succ, List.map_cons]; rfl
theorem F_put_e : F_p_put_behind = (seqF (parF [2, 3] [.t (opF ixD [.b 0, .t (litF (.int 0))]), .t (opF ixD [.b 1, .t (litF (.int 1))])]) <|
  seqF (asgF (opF mulD [.t (lstF [.t (litF (.bl false))]), .t (opF ixD [.b 0, .t (litF (.int 1))])]) (tgN 4)) <|
  seqF (asgF (lstF []) (tgN 5)) <|
  seqF (forF (itRg rng1D [.t (opF addD [.b 2, .b 3])]) (tgN 6) bodyPb) <|
  retF (tupF [.t (callF fn_p_loose_rings [.b 0, .b 1, .b 4]), .t (movF 2), .t (movF 3), .t (opF tupleD [.b 5])])) := rfl
end
def alk (n : Nat) (a b : List Nat) : Bool := decide ((valW n a).2 = (valW n b).2)
/-! ### any mat by draws (words' family) -/
def bodyVC : FS := ifF (orF (bT (opF (eqD) [.b 6, .t (lstF [])])) (andF (tstF (.b 8)) (bT (opF (ltD) [.t (opF lenD [.b 6]), .t (opF subD [.t (opF addD [.b 1, .b 2]), .b 7])])))) (dropF (mutF 6 appD [.t (opF ixD [.b 3, .b 7])])) (seqF (asgF (mutF 6 popD []) (tgN 9)) <|
  seqF (asgF (opF ixD [.b 3, .b 7]) (tgSub 5 (.b 9))) <|
  asgF (varF 9) (tgSub 5 (.t (opF ixD [.b 3, .b 7]))))
variable {n m k : Nat} {ra rh : List Nat}
/-! ### the program's joining, any two mats -/
theorem Pg_loop (ha : ra.length = n + m) (hh : rh.length = m + k) (hA : Pr (n + m) (rowF ra)) (hH : Pr (m + k) (rowF rh)) (hm : m ≤ 16) (hs : n + m + k ≤ 1000) {N K : Option D} :
    ∃ ps Q B6, goFor (tgN 6) bodyPb ((List.range (n + k)).map natD) [some (matD n m ra), some (matD m k rh), N, K, some (blsD (List.replicate m false)), some (.lst true []), none] = some (.nx [some (matD n m ra), some (matD m k rh), N, K, some (blsD ps), some (.lst true ((bhL ra rh n m k).2.map natD)), B6]) ∧ Md (rowF ra) (rowF rh) n m k Q ps ∧ (fQ (rowF ra) (rowF rh) n m k Q).1 = 0 ∧ ∀ x, Oue n m k x → Oue n m k ((fQ (rowF ra) (rowF rh) n m k Q).2 x) := by
  obtain ⟨ρ', g1, ps, Q, B6, rfl, i1, i2, i3⟩ := for_inv (tg := tgN 6) (body := bodyPb) (ds := (List.range (n + k)).map natD) (ρ := [some (matD n m ra), some (matD m k rh), N, K, some (blsD (List.replicate m false)), some (.lst true []), none])
    (fun j ρ => ∃ ps Q B6, ρ = [some (matD n m ra), some (matD m k rh), N, K, some (blsD ps), some (.lst true (((List.range j).map fun p => num n m ((bhF (rowF ra) (rowF rh) n m k).2 (xp n m p))).map natD)), B6] ∧ Md (rowF ra) (rowF rh) n m k Q ps ∧ (fQ (rowF ra) (rowF rh) n m k Q).1 = 0 ∧ ∀ p, p < j → Oue n m k ((fQ (rowF ra) (rowF rh) n m k Q).2 (xp n m p)))
    ⟨List.replicate m false, [], none, rfl, ⟨⟨List.nodup_nil, by simp, by simp, fun q => by simp [bt_rep]⟩, fun y ⟨p, hp, _⟩ => by cases hp⟩, rfl, fun p hp => by omega⟩ (by
      rintro j d ρ hd ⟨ps, Q, B6, rfl, i1, i2, i3⟩
      rw [List.getElem?_map] at hd
      obtain ⟨j', hj', rfl⟩ := Option.map_eq_some_iff.mp hd
      obtain ⟨hj, hjj⟩ := List.getElem?_eq_some_iff.mp hj'
      rw [List.length_range] at hj
      obtain rfl : j' = j := by simpa using hjj.symm
      obtain ⟨ps', R, w, q1, q2, q3⟩ := far_all hA hH i1 i2 hj
      have two : 2 ^ m ≤ 2 ^ 16 := Nat.pow_le_pow_right (by omega) hm
      have e' := far_end_ok (n := n) (m := m) (k := k) (p := j') (ps := ps) (f := 2 ^ m + 1) (by omega) ha hh (fun p hp => (hA p hp).1) (fun p hp => (hH p hp).1) hj i1.sd.len (by omega) w
      have er : ((List.range (j' + 1)).map fun p => num n m ((bhF (rowF ra) (rowF rh) n m k).2 (xp n m p))).map natD = ((List.range j').map fun p => num n m ((bhF (rowF ra) (rowF rh) n m k).2 (xp n m p))).map natD ++ [.int (num n m ((bhF (rowF ra) (rowF rh) n m k).2 (xp n m j')) : Nat)] := by
        rw [List.range_succ, List.map_append, List.map_append]; rfl
      have ap := appD_e (xs := ((List.range j').map fun p => num n m ((bhF (rowF ra) (rowF rh) n m k).2 (xp n m p))).map natD) (.int (num n m ((bhF (rowF ra) (rowF rh) n m k).2 (xp n m j')) : Nat)) (by rw [List.length_map, List.length_map, List.length_range]; omega)
      have p1 : fn_p_far_end.pins = [true, true, true, true] := rfl
      have o1 := own_bls ps
      have o2 := own_bls ps'
      have nm := noOwn_matD n m ra
      have nh := noOwn_matD m k rh
      refine ⟨[some (matD n m ra), some (matD m k rh), N, K, some (blsD ps'), some (.lst true (((List.range (j' + 1)).map fun p => num n m ((bhF (rowF ra) (rowF rh) n m k).2 (xp n m p))).map natD)), some (natD j')], .inl ?_, ps', Q ++ R, some (natD j'), rfl, q1, q2, fun p hp => ?_⟩
      · rw [er, turn_e]
        unfold bodyPb
        generalize blsD ps = PS at *
        generalize blsD ps' = PS' at *
        generalize matD m k rh = MH at *
        generalize matD n m ra = MR at *
        generalize ((List.range j').map fun p => num n m ((bhF (rowF ra) (rowF rh) n m k).2 (xp n m p))).map natD = L at *
        generalize num n m ((bhF (rowF ra) (rowF rh) n m k).2 (xp n m j')) = z at *
        rw [natD_i]
        simp [e', p1, o1, o2, nm, nh, ap]
      · by_cases c : p = j'
        · subst c; exact q3
        · have := i3 p (by omega)
          rw [fQ_keeps hA hH (xp_out (by omega)) R Q q1.sd.nd q1.sd.lt this]
          exact this)
  rw [List.length_map, List.length_range] at g1 i3
  refine ⟨ps, Q, B6, g1, i1, i2, fun x hx => ?_⟩
  have := num_xp hx
  rw [← this.2]
  exact i3 _ this.1
theorem Lrg_loop (ha : ra.length = n + m) (hh : rh.length = m + k) (hs : n + m + k ≤ 1000) {A4 A5 : Option D} : ∀ (f F a : Nat) (ps ps' : List Bool), lrW (rowF ra) (rowF rh) n m f a ps = some ps' → f ≤ F → ps.length = m → a < m → ∃ B6, goWhile condLr bodyLr F [some (matD n m ra), some (matD m k rh), some (blsD ps), some (.int (n : Nat)), A4, A5, some (natD a)] = some (.nx [some (matD n m ra), some (matD m k rh), some (blsD ps'), some (.int (n : Nat)), A4, A5, B6])
  | 0, F, a, ps, ps', h, _, _, _ => by cases h
  | f + 1, F, a, ps, ps', h, hF, hl, hav => by
    obtain ⟨F, rfl⟩ : ∃ F', F = F' + 1 := ⟨F - 1, by omega⟩
    rw [lrW_e] at h
    have b0 := bl_at (ps := ps) (j := a) (by omega)
    by_cases c : bt ps a = true
    · rw [if_pos c] at h
      cases h
      rw [c] at b0
      refine ⟨some (natD a), wh_f ?_⟩
      unfold condLr blsD natD
      generalize ps.map D.bl = B at *
      simp [b0]
    · rw [if_neg c] at h
      have c0 : bt ps a = false := by simpa using c
      rw [c0] at b0
      by_cases c2 : n ≤ rowF ra (n + a) ∧ rowF ra (n + a) < n + m ∧ rowF rh (rowF ra (n + a) - n) < m
      · rw [if_pos c2] at h
        obtain ⟨c3, c4, c5⟩ := c2
        obtain ⟨q, hq⟩ : ∃ q, q = rowF ra (n + a) - n := ⟨_, rfl⟩
        rw [← hq] at h c5
        have s1 : condLr [some (matD n m ra), some (matD m k rh), some (blsD ps), some (.int (n : Nat)), A4, A5, some (natD a)] = some (true, [some (matD n m ra), some (matD m k rh), some (blsD ps), some (.int (n : Nat)), A4, A5, some (natD a)]) := by
          unfold condLr blsD natD
          generalize ps.map D.bl = B at *
          simp [b0]
        have x1 : atI (ra.map natD) ((n : Int) + (a : Int)) = some (.int ((n : Int) + (q : Int))) := by
          have : atI (ra.map natD) ((n + a : Nat) : Int) = some (.int (rowF ra (n + a) : Nat)) := atI_mapN (z := 0) (by omega)
          rw [show rowF ra (n + a) = n + q by omega] at this
          exact this
        have x2 : atI (rh.map natD) (q : Int) = some (.int (rowF rh q : Nat)) := atI_mapN (z := 0) (by omega)
        have i1 : ixN m ((a : Nat) : Int) = some a := ixN_nat (by omega)
        have i2 : ixN m ((q : Nat) : Int) = some q := ixN_nat (by omega)
        have ll : (ps.map D.bl).length = m := by rw [List.length_map]; exact hl
        have nb := noOwns_bls ps
        have no := noOwns_natDs ra
        have nh := noOwns_natDs rh
        have ee : (n : Int) + (q : Int) - (n : Int) = (q : Int) := by omega
        have sb : ((ps.map D.bl).set a (.bl true)).set q (.bl true) = ((ps.set a true).set q true).map D.bl := by rw [set_bls, set_bls]
        have s2 : bodyLr [some (matD n m ra), some (matD m k rh), some (blsD ps), some (.int (n : Nat)), A4, A5, some (natD a)] = some (.nx [some (matD n m ra), some (matD m k rh), some (blsD ((ps.set a true).set q true)), some (.int (n : Nat)), A4, A5, some (natD (rowF rh q))]) := by
          unfold bodyLr blsD
          rw [← sb]
          unfold matD natD
          have e0 : ra.map natD = ra.map (fun i => D.int (i : Nat)) := rfl
          have e1 : rh.map natD = rh.map (fun i => D.int (i : Nat)) := rfl
          rw [← e0, ← e1]
          generalize ps.map D.bl = B at *
          generalize rh.map natD = H at *
          generalize ra.map natD = A at *
          generalize rowF rh q = z at *
          simp [no, nh, x1, x2, i1, i2, ll, ee]
        obtain ⟨B6, g⟩ := Lrg_loop ha hh hs (A4 := A4) (A5 := A5) f F _ _ ps' h (by omega) (by simp only [List.length_set]; exact hl) c5
        exact ⟨B6, (wh_t s1 s2).trans g⟩
      · rw [if_neg c2] at h; cases h
theorem loose_g (ha : ra.length = n + m) (hh : rh.length = m + k) (hA : Pr (n + m) (rowF ra)) (hH : Pr (m + k) (rowF rh)) (hs : n + m + k ≤ 1000) {ps : List Bool} {Q : List Nat} (h : Md (rowF ra) (rowF rh) n m k Q ps) (h0 : (fQ (rowF ra) (rowF rh) n m k Q).1 = 0) (no : ∀ x, Oue n m k x → Oue n m k ((fQ (rowF ra) (rowF rh) n m k Q).2 x)) :
    ∃ ps', fn_p_loose_rings.sem [matD n m ra, matD m k rh, blsD ps] = some (.int ((bhL ra rh n m k).1 : Nat), [some (matD n m ra), some (matD m k rh), some (blsD ps')]) := by
  obtain ⟨ρ', g1, ps', Q', B5, B6, rfl, i1, i2, i3⟩ := for_inv (tg := tgN 5) (body := bodyLo) (ds := (List.range m).map natD) (ρ := [some (matD n m ra), some (matD m k rh), some (blsD ps), some (.int (n : Nat)), some (.int 0), none, none])
    (fun j ρ => ∃ ps Q B5 B6, ρ = [some (matD n m ra), some (matD m k rh), some (blsD ps), some (.int (n : Nat)), some (.int ((fQ (rowF ra) (rowF rh) n m k Q).1 : Nat)), B5, B6] ∧ Md (rowF ra) (rowF rh) n m k Q ps ∧ (∀ x, Oue n m k x → Oue n m k ((fQ (rowF ra) (rowF rh) n m k Q).2 x)) ∧ ∀ p, p < j → p ∈ Q)
    ⟨ps, Q, none, none, by rw [h0]; rfl, h, no, fun p hp => by omega⟩ (by
      rintro j d ρ hd ⟨ps, Q, B5, B6, rfl, i1, i2, i3⟩
      rw [List.getElem?_map] at hd
      obtain ⟨j', hj', rfl⟩ := Option.map_eq_some_iff.mp hd
      obtain ⟨hj, hjj⟩ := List.getElem?_eq_some_iff.mp hj'
      rw [List.length_range] at hj
      obtain rfl : j' = j := by simpa using hjj.symm
      have hl := i1.sd.len
      by_cases c : bt ps j' = true
      · refine ⟨_, .inl (Lo_pass (by omega) c), ps, Q, _, _, rfl, i1, i2, fun p hp => ?_⟩
        by_cases e : p = j'
        · subst e; exact (i1.sd.fl p).mp c
        · exact i3 p (by omega)
      · have c0 : bt ps j' = false := by simpa using c
        obtain ⟨ps', R, w, q1, q2, q3, q4⟩ := lrW_ok hA hH i1 i2 hj c0
        obtain ⟨B6', g⟩ := Lrg_loop ha hh hs (A4 := some (.int ((fQ (rowF ra) (rowF rh) n m k Q).1 + 1 : Nat))) (A5 := some (natD j')) (m + 2) FUEL j' ps ps' w (Nat.le_trans (show m + 2 ≤ 1002 by omega) (by decide)) hl hj
        refine ⟨[some (matD n m ra), some (matD m k rh), some (blsD ps'), some (.int (n : Nat)), some (.int ((fQ (rowF ra) (rowF rh) n m k (Q ++ R)).1 : Nat)), some (natD j'), B6'], .inl ?_, ps', Q ++ R, _, _, rfl, q1, q3, fun p hp => ?_⟩
        · rw [q2, turn_e]
          have b0 := bl_at (ps := ps) (j := j') (by omega)
          rw [c0] at b0
          have c1 : (((fQ (rowF ra) (rowF rh) n m k Q).1 + 1 : Nat) : Int) = ((fQ (rowF ra) (rowF rh) n m k Q).1 : Int) + 1 := by omega
          rw [c1] at g ⊢
          unfold bodyLo
          rw [natD_i] at g ⊢
          unfold blsD at *
          generalize ps.map D.bl = B at *
          generalize ps'.map D.bl = B' at *
          generalize matD m k rh = MH at *
          generalize matD n m ra = MR at *
          generalize (fQ (rowF ra) (rowF rh) n m k Q).1 = z at *
          simp [b0, g]
        · by_cases e : p = j'
          · subst e; exact q4
          · exact List.mem_append_left _ (i3 p (by omega)))
  rw [List.length_map, List.length_range] at i3
  have pm : Q'.Perm (List.range m) := (List.perm_ext_iff_of_nodup i1.sd.nd List.nodup_range).mpr fun q => ⟨fun z => List.mem_range.mpr (i1.sd.lt q z), fun z => i3 q (List.mem_range.mp z)⟩
  have er : (fQ (rowF ra) (rowF rh) n m k Q').1 = (bhL ra rh n m k).1 := by
    rw [fQ_perm hA hH i1.sd.nd i1.sd.lt pm]; rfl
  rw [er] at g1
  refine ⟨ps', ?_⟩
  have r1 := rng1_nat (u := m) (by omega)
  have nm : noOwns (ra.map natD) = true := noOwns_natDs ra
  unfold fn_p_loose_rings
  rw [bodyFn_sem, F_loose_e]
  unfold matD at *
  generalize blsD ps = PS at *
  generalize blsD ps' = PS' at *
  generalize rh.map natD = H at *
  generalize ra.map natD = A at *
  generalize (List.range m).map natD = RG at *
  generalize (bhL ra rh n m k).1 = hk at *
  simp [nm, r1, g1]
theorem put_g (ha : ra.length = n + m) (hh : rh.length = m + k) (hA : Pr (n + m) (rowF ra)) (hH : Pr (m + k) (rowF rh)) (hm : m ≤ 16) (hs : n + m + k ≤ 1000) : fn_p_put_behind.sem [matD n m ra, matD m k rh] = some (.tup [.int ((bhL ra rh n m k).1 : Nat), .int (n : Nat), .int (k : Nat), .tup ((bhL ra rh n m k).2.map natD)], [some (matD n m ra), some (matD m k rh)]) := by
  obtain ⟨ps, Q, B6, g, q1, q2, q3⟩ := Pg_loop ha hh hA hH hm hs (N := some (.int (n : Nat))) (K := some (.int (k : Nat)))
  obtain ⟨ps', e⟩ := loose_g ha hh hA hH hs q1 q2 q3
  have ml : mulD [.lst true [.bl false], .int (m : Nat)] = some (blsD (List.replicate m false)) := by
    rw [mulD_n (by simp) (by omega) (by omega) (by simp; omega), Int.toNat_natCast]
    exact congrArg (fun z => some (D.lst true z)) (flat_rep m)
  have r1 : rng1D [.int ((n : Int) + (k : Int))] = some ((List.range (n + k)).map natD) := rng1_nat (u := n + k) (by omega)
  have p1 : fn_p_loose_rings.pins = [true, true, true] := rfl
  have o1 := own_bls ps
  have o2 := own_bls ps'
  have nr := noOwns_natDs ra
  have nh := noOwns_natDs rh
  have nl := noOwns_natDs (bhL ra rh n m k).2
  have tl := tupleD_l (o := true) nl
  unfold fn_p_put_behind
  rw [bodyFn_sem, F_put_e]
  unfold matD at *
  generalize blsD (List.replicate m false) = P0 at *
  generalize blsD ps = PS at *
  generalize blsD ps' = PS' at *
  generalize (bhL ra rh n m k).2.map natD = L at *
  generalize (bhL ra rh n m k).1 = RR at *
  generalize rh.map natD = H at *
  generalize ra.map natD = A at *
  generalize (List.range (n + k)).map natD = RG at *
  clear q1 q2 q3
  simp [nr, nh, nl, ml, r1, g, e, p1, o1, o2, tl, small_le (n := 0) (by omega), small_le (n := 1) (by omega), small_le (n := 4) (by omega)]
theorem row_at {r : List Nat} {p : Nat} (h : p < r.length) : atI (r.map natD) (p : Nat) = some (.int (rowF r p : Nat)) :=
  atI_mapN (f := natD) (z := 0) h
theorem mat_0 (n m : Nat) (r : List Nat) : ixD [matD n m r, .int 0] = some (.int (n : Nat)) := by
  show (bd (atI _ 0) ownK) = _
  simp [atI]
theorem mat_1 (n m : Nat) (r : List Nat) : ixD [matD n m r, .int 1] = some (.int (m : Nat)) := by
  show (bd (atI _ 1) ownK) = _
  simp [atI]
theorem mat_2 (n m : Nat) (r : List Nat) : ixD [matD n m r, .int 2] = some (.tup (r.map natD)) := by
  have no := noOwns_natDs r
  show (bd (atI _ 2) ownK) = _
  simp [atI, no]
def pr2 (p : Nat × Nat) : D := .tup [natD p.1, natD p.2]
theorem noOwn_pr2 (p : Nat × Nat) : noOwn (pr2 p) = true := by simp [pr2]
def strP (N : Nat) (e : Nat → Nat) : List (Nat × Nat) := ((List.range N).filter fun a => decide (a < e a)).map fun a => (a, e a)
theorem links_ok {n m : Nat} {row : List Nat} (hl : row.length = n + m) (hs : n + m ≤ 1000) : fn_links.sem [matD n m row, .int 0] = some (.lst true ((strP (n + m) (rowF row)).map pr2), [some (matD n m row), some (.int 0)]) := by
  have m2 := mat_2 n m row
  have no := noOwns_natDs row
  have ll : (row.map natD).length = n + m := by simp [hl]
  have r1 := rng1_nat (u := n + m) (by omega)
  rw [Int.natCast_add] at r1
  have lc : goLc [2] (tgN 2) (bT (opF (ltD) [.b 2, .t (opF ixD [.t (opF ixD [.b 0, .t (litF (.int 2))]), .b 2])])) (tupF [.t (opF addD [.b 1, .b 2]), .t (opF addD [.b 1, .t (opF ixD [.t (opF ixD [.b 0, .t (litF (.int 2))]), .b 2])])]) ((List.range (n + m)).map natD) [some (matD n m row), some (.int 0), none] = some ((((List.range (n + m)).filter fun a => decide (a < rowF row a)).map fun a => pr2 (a, rowF row a)), [some (matD n m row), some (.int 0), none]) := by
    refine goLc_filt natD (fun a => pr2 (a, rowF row a)) (fun a => decide (a < rowF row a)) _ fun a ha => ?_
    have ra := row_at (r := row) (p := a) (by rw [hl]; exact List.mem_range.mp ha)
    rw [lcTurnF_e]
    unfold pr2 natD
    simp only
    generalize rowF row a = q at *
    generalize row.map natD = R at *
    generalize matD n m row = M at *
    by_cases c : a < q
    · have c' : (a : Int) < (q : Int) := by omega
      simp [m2, ra, no, c, c']
    · have c' : ¬ (a : Int) < (q : Int) := by omega
      simp [m2, ra, no, c, c']
  have lz : decide (((strP (n + m) (rowF row)).map pr2).length ≤ smallL) = true := by
    refine small_le ?_
    unfold strP
    rw [List.length_map, List.length_map]
    exact Nat.le_trans (List.length_filter_le _ _) (by simp; omega)
  have e : (((List.range (n + m)).filter fun a => decide (a < rowF row a)).map fun a => pr2 (a, rowF row a)) = (strP (n + m) (rowF row)).map pr2 := by
    unfold strP
    rw [List.map_map]; rfl
  rw [e] at lc
  have nn : noOwns ((strP (n + m) (rowF row)).map pr2) = true := noOwns_map noOwn_pr2 _
  unfold fn_links F_links
  rw [bodyFn_sem]
  clear e
  generalize (strP (n + m) (rowF row)).map pr2 = S at *
  generalize row.map natD = R at *
  generalize matD n m row = M at *
  generalize (List.range (n + m)).map natD = N at *
  simp [m2, no, ll, r1, lc, lz, nn]
def labD (N : Nat) (L : Nat → Nat) : List D := (List.range N).map fun p => natD (L p)
theorem labD_len (N : Nat) (L : Nat → Nat) : (labD N L).length = N := by unfold labD; simp
theorem noOwns_labD (N : Nat) (L : Nat → Nat) : noOwns (labD N L) = true := noOwns_map (f := fun p => natD (L p)) (fun p => by simp) _
theorem labD_at {N : Nat} {L : Nat → Nat} {p : Nat} (h : p < N) : atI (labD N L) (p : Nat) = some (.int (L p : Nat)) := by
  have := atI_mapN (f := fun p => natD (L p)) (xs := List.range N) (i := p) (z := 0) (by simp; exact h)
  rw [show (List.range N).getD p 0 = p by simp [List.getD_eq_getElem?_getD, h]] at this
  exact this
def bodyLots : FS := (seqF (asgF (tupF [.t (opF ixD [.b 2, .b 3]), .t (opF ixD [.b 2, .b 4])]) (tgT 2 (tgCons (tgN 5) (tgCons (tgN 6) (tgNil))))) <|
  ifF (bT (opF (neD) [.b 5, .b 6])) (asgF (lcF [7] (itSeq (varF 2)) (tgN 7) (yesF) (ifE (bT (opF (eqD) [.b 7, .b 6])) (varF 5) (varF 7))) (tgN 2)) (passF))
theorem Lo_turn {N a b : Nat} {L : Nat → Nat} (ha : a < N) (hb : b < N) (hN : N ≤ 1000) {A0 A1 A3 A4 A5 A6 : Option D} : ∃ B3 B4 B5 B6, turn (tgT 2 (tgCons (tgN 3) (tgCons (tgN 4) (tgNil)))) bodyLots (pr2 (a, b)) [A0, A1, some (.lst true (labD N L)), A3, A4, A5, A6, none] = some (.nx [A0, A1, some (.lst true (labD N (lk L (a, b)))), B3, B4, B5, B6, none]) := by
  refine ⟨some (.int (a : Nat)), some (.int (b : Nat)), some (.int (L a : Nat)), some (.int (L b : Nat)), ?_⟩
  have xa := labD_at (L := L) ha
  have xb := labD_at (L := L) hb
  have no := noOwns_labD N L
  have fz := freezes_of no
  have lz : decide ((labD N L).length ≤ smallL) = true := small_le (by rw [labD_len]; omega)
  have no2 := noOwns_labD N (lk L (a, b))
  have lz2 : decide ((labD N (lk L (a, b))).length ≤ smallL) = true := small_le (by rw [labD_len]; omega)
  rw [turn_e]
  unfold pr2 natD
  simp only
  by_cases c : L a = L b
  · have e : lk L (a, b) = L := by
      funext x
      unfold lk
      by_cases z : L x = L b
      · simp only; rw [if_pos z, c, z]
      · simp only; rw [if_neg z]
    rw [e]
    rw [← c] at xb ⊢
    generalize labD N L = X at *
    generalize L a = la at *
    unfold bodyLots
    simp [xa, xb, no]
  · have lc : goLc [7] (tgN 7) yesF (ifE (bT (opF (eqD) [.b 7, .b 6])) (varF 5) (varF 7)) (labD N L) [A0, A1, some (.lst false (labD N L)), some (.int (a : Nat)), some (.int (b : Nat)), some (.int (L a : Nat)), some (.int (L b : Nat)), none] = some (labD N (lk L (a, b)), [A0, A1, some (.lst false (labD N L)), some (.int (a : Nat)), some (.int (b : Nat)), some (.int (L a : Nat)), some (.int (L b : Nat)), none]) := by
      conv => lhs; arg 5; unfold labD
      conv => rhs; unfold labD
      refine goLc_mapI (fun p => natD (L p)) (fun p => natD (lk L (a, b) p)) _ fun p hp => ?_
      rw [lcTurn_e]
      have hv : lk L (a, b) p = if L p = L b then L a else L p := rfl
      rw [hv]
      unfold natD
      clear hv
      generalize labD N L = X at *
      generalize L p = lp at *
      generalize L a = la at *
      generalize L b = lb at *
      by_cases z : lp = lb
      · have z' : (lp : Int) = (lb : Int) := by omega
        rw [if_pos z]
        simp [z, z']
      · have z' : ¬ (lp : Int) = (lb : Int) := by omega
        rw [if_neg z]
        simp [z, z']
    have c' : ¬ ((L a : Nat) : Int) = ((L b : Nat) : Int) := by omega
    generalize labD N (lk L (a, b)) = Y at *
    generalize labD N L = X at *
    generalize L a = la at *
    generalize L b = lb at *
    unfold bodyLots
    simp [xa, xb, no, c, c', fz, lz, lc, no2, lz2]
theorem Lo_loop {N : Nat} (hN : N ≤ 1000) {A0 A1 : Option D} : ∀ (ps : List (Nat × Nat)) (L : Nat → Nat) (A3 A4 A5 A6 : Option D), (∀ p ∈ ps, p.1 < N ∧ p.2 < N) → ∃ B3 B4 B5 B6, goFor (tgT 2 (tgCons (tgN 3) (tgCons (tgN 4) (tgNil)))) bodyLots (ps.map pr2) [A0, A1, some (.lst true (labD N L)), A3, A4, A5, A6, none] = some (.nx [A0, A1, some (.lst true (labD N (lkL L ps))), B3, B4, B5, B6, none])
  | [], L, A3, A4, A5, A6, _ => ⟨A3, A4, A5, A6, rfl⟩
  | (a, b) :: ps, L, A3, A4, A5, A6, h => by
    obtain ⟨h1, h2⟩ := h (a, b) (by simp)
    obtain ⟨B3, B4, B5, B6, t⟩ := Lo_turn (L := L) h1 h2 hN (A0 := A0) (A1 := A1) (A3 := A3) (A4 := A4) (A5 := A5) (A6 := A6)
    obtain ⟨C3, C4, C5, C6, g⟩ := Lo_loop hN (A0 := A0) (A1 := A1) ps (lk L (a, b)) B3 B4 B5 B6 (fun p hp => h p (by simp [hp]))
    refine ⟨C3, C4, C5, C6, ?_⟩
    rw [List.map_cons, goFor_cons, t, bd_some, loopK_nx]
    exact g
theorem lots_ok {N : Nat} {ps : List (Nat × Nat)} (hN : N ≤ 1000) (hp : ∀ p ∈ ps, p.1 < N ∧ p.2 < N) (hl : ps.length ≤ 5000) : fn_lots.sem [.int (N : Nat), .lst true (ps.map pr2)] = some (.lst true (labD N (lkL id ps)), [some (.int (N : Nat)), some (.lst false (ps.map pr2))]) := by
  obtain ⟨B3, B4, B5, B6, g⟩ := Lo_loop hN (A0 := some (.int (N : Nat))) (A1 := some (.lst false (ps.map pr2))) ps id none none none none hp
  have r1 := rng1_nat (u := N) (by omega)
  have e0 : labD N id = (List.range N).map natD := rfl
  rw [e0] at g
  have lr := lrgK_e (xs := (List.range N).map natD) (by simp; omega)
  have np : noOwns (ps.map pr2) = true := noOwns_map noOwn_pr2 _
  have fp := freezes_of np
  have lz : decide ((ps.map pr2).length ≤ smallL) = true := small_le (by simp; omega)
  have no := noOwns_labD N (lkL id ps)
  unfold bodyLots at g
  unfold fn_lots F_lots
  rw [bodyFn_sem]
  generalize labD N (lkL id ps) = Y at *
  generalize (List.range N).map natD = R at *
  generalize ps.map pr2 = P at *
  simp [r1, lr, np, fp, lz, g, no]
theorem rings_closed_ok {n : Nat} {row : List Nat} (hl : row.length = n + n) (hp : Pr (n + n) (rowF row)) (hn : n ≤ 8) : fn_p_rings_closed.sem [matD n n row] = some (.int ((clS n row 0 n).1 : Nat), [some (matD n n row)]) := by
  have g0 := mat_0 n n row
  have g2 := mat_2 n n row
  have r1 := rng1_nat (u := n) (by omega)
  have r2 : rng2D [.int (n : Nat), .int (2 * (n : Int))] = some ((List.range n).map fun i => natD (n + i)) := by
    rw [show 2 * (n : Int) = (n : Int) + (n : Int) by omega]
    exact rng2_nat (by omega) (by omega)
  have mk : mulOk 2 (n : Int) = true := mulOk_l (by omega) (by omega)
  have e1 : (strR n).map natD = ((List.range n).map fun i => natD (n + i)) ++ (List.range n).map natD := by
    unfold strR
    rw [List.map_append, List.map_map]; rfl
  have n1 : noOwns ((List.range n).map fun i => natD (n + i)) = true := noOwns_map (fun _ => by simp) _
  have n2 := noOwns_natDs (List.range n)
  have ad := addD_t (xs := (List.range n).map fun i => natD (n + i)) (ys := (List.range n).map natD) n1 n2 (by simp; omega)
  rw [← e1] at ad
  have t1 := trgK_e (xs := (List.range n).map fun i => natD (n + i)) (by simp; omega)
  have t2 := trgK_e (xs := (List.range n).map natD) (by simp; omega)
  have hS := (strR_pr n).2
  have pg := put_g (n := 0) (m := n + n) (k := 0) (ra := row) (rh := strR n) (by omega) (by rw [strR_len]; omega) (by rwa [Nat.zero_add]) (by rwa [show 2 * n = n + n + 0 by omega] at hS) (by omega) (by omega)
  rw [closed_all hp] at pg
  have no := noOwns_natDs row
  have nS := noOwns_natDs (strR n)
  have p1 : fn_p_put_behind.pins = [true, true] := rfl
  have m1 : matD 0 (n + n) row = .tup [.int 0, .int (2 * (n : Int)), .tup (row.map natD)] := by
    unfold matD
    rw [show ((n + n : Nat) : Int) = 2 * (n : Int) by omega]; rfl
  have m2 : matD (n + n) 0 (strR n) = .tup [.int (2 * (n : Int)), .int 0, .tup ((strR n).map natD)] := by
    unfold matD
    rw [show ((n + n : Nat) : Int) = 2 * (n : Int) by omega]; rfl
  rw [m1, m2] at pg
  have nb := noOwns_natDs (bhL row (strR n) 0 (n + n) 0).2
  unfold fn_p_rings_closed F_p_rings_closed
  rw [bodyFn_sem]
  generalize (bhL row (strR n) 0 (n + n) 0).2.map natD = B at *
  generalize (strR n).map natD = S at *
  generalize ((List.range n).map fun i => natD (n + i)) = R2 at *
  generalize (List.range n).map natD = R1 at *
  generalize row.map natD = R at *
  generalize (clS n row 0 n).1 = rr at *
  generalize matD n n row = M at *
  simp [g0, g2, r1, r2, mk, ad, t1, t2, pg, no, nS, nb, p1]
theorem filter_range_one {b : Nat → Bool} {j : Nat} : ∀ N, j < N → (∀ a, a < N → (b a = true ↔ a = j)) → (List.range N).filter b = [j]
  | 0, h, _ => absurd h (by omega)
  | N + 1, h, q => by
    rw [List.range_succ, List.filter_append]
    by_cases c : j = N
    · have e1 : (List.range N).filter b = [] := by
        rw [List.filter_eq_nil_iff]
        intro a ha
        have ha := List.mem_range.mp ha
        rw [q a (by omega)]; omega
      have e2 : [N].filter b = [N] := by
        have := (q N (by omega)).mpr c.symm
        simp [this]
      rw [e1, e2, c]; rfl
    · have e1 := filter_range_one N (show j < N by omega) fun a ha => q a (by omega)
      have e2 : [N].filter b = [] := by
        have : ¬ b N = true := fun z => c ((q N (by omega)).mp z).symm
        simp [this]
      rw [e1, e2]; rfl
def lwL (n : Nat) (row : List Nat) (l k : Nat) : Nat → Nat := lkL id (strP (n + n) (rowF row) ++ prsC n l k)
theorem lab_ints (N : Nat) (L : Nat → Nat) : labD N L = ((List.range N).map fun p => ((L p : Nat) : Int)).map D.int := by
  unfold labD
  rw [List.map_map]; rfl
def keptD (n l : Nat) : List D := (List.range (l + l)).map fun i => natD (xq n l i)
end VS
set_option Elab.async false
set_option linter.all false
set_option maxRecDepth 100000
namespace VS
open PySem PySem.Spec PyProof.Rows L2 RZ
def shP (s : Nat) (ps : List (Nat × Nat)) : List (Nat × Nat) := ps.map fun p => (s + p.1, s + p.2)
theorem strP_len (N : Nat) (e : Nat → Nat) : (strP N e).length ≤ N := by
  unfold strP
  rw [List.length_map]
  exact Nat.le_trans (List.length_filter_le _ _) (by simp)
theorem shP_len (s N : Nat) (e : Nat → Nat) : (shP s (strP N e)).length ≤ N := by
  unfold shP
  rw [List.length_map]
  exact strP_len N e
theorem links_sh {n m : Nat} {row : List Nat} (s : Nat) (hl : row.length = n + m) (hs : n + m ≤ 1000) : fn_links.sem [matD n m row, .int (s : Nat)] = some (.lst true ((shP s (strP (n + m) (rowF row))).map pr2), [some (matD n m row), some (.int (s : Nat))]) := by
  have m2 := mat_2 n m row
  have no := noOwns_natDs row
  have ll : (row.map natD).length = n + m := by simp [hl]
  have r1 := rng1_nat (u := n + m) (by omega)
  rw [Int.natCast_add] at r1
  have lc : goLc [2] (tgN 2) (bT (opF (ltD) [.b 2, .t (opF ixD [.t (opF ixD [.b 0, .t (litF (.int 2))]), .b 2])])) (tupF [.t (opF addD [.b 1, .b 2]), .t (opF addD [.b 1, .t (opF ixD [.t (opF ixD [.b 0, .t (litF (.int 2))]), .b 2])])]) ((List.range (n + m)).map natD) [some (matD n m row), some (.int (s : Nat)), none] = some ((((List.range (n + m)).filter fun a => decide (a < rowF row a)).map fun a => pr2 (s + a, s + rowF row a)), [some (matD n m row), some (.int (s : Nat)), none]) := by
    refine goLc_filt natD (fun a => pr2 (s + a, s + rowF row a)) (fun a => decide (a < rowF row a)) _ fun a ha => ?_
    have ra := row_at (r := row) (p := a) (by rw [hl]; exact List.mem_range.mp ha)
    rw [lcTurnF_e]
    unfold pr2 natD
    simp only [Int.natCast_add]
    generalize rowF row a = q at *
    generalize row.map natD = R at *
    generalize matD n m row = M at *
    by_cases c : a < q
    · have c' : (a : Int) < (q : Int) := by omega
      simp [m2, ra, no, c, c']
    · have c' : ¬ (a : Int) < (q : Int) := by omega
      simp [m2, ra, no, c, c']
  have lz : decide (((shP s (strP (n + m) (rowF row))).map pr2).length ≤ smallL) = true := by
    refine small_le ?_
    rw [List.length_map]
    exact Nat.le_trans (shP_len _ _ _) (by omega)
  have e : (((List.range (n + m)).filter fun a => decide (a < rowF row a)).map fun a => pr2 (s + a, s + rowF row a)) = (shP s (strP (n + m) (rowF row))).map pr2 := by
    unfold shP strP
    rw [List.map_map, List.map_map]; rfl
  rw [e] at lc
  have nn : noOwns ((shP s (strP (n + m) (rowF row))).map pr2) = true := noOwns_map noOwn_pr2 _
  unfold fn_links F_links
  rw [bodyFn_sem]
  clear e
  generalize (shP s (strP (n + m) (rowF row))).map pr2 = S at *
  generalize row.map natD = R at *
  generalize matD n m row = M at *
  generalize (List.range (n + m)).map natD = N at *
  simp [m2, no, ll, r1, lc, lz, nn]
theorem strP_add (a b : Nat) (e f : Nat → Nat) (g : Nat → Nat) (h1 : ∀ x, x < a → g x = e x) (h2 : ∀ x, x < b → g (a + x) = a + f x) : strP (a + b) g = strP a e ++ shP a (strP b f) := by
  unfold strP shP
  rw [List.range_add, List.filter_append, List.map_append]
  refine cat2' ?_ ?_
  · have : (List.range a).filter (fun x => decide (x < g x)) = (List.range a).filter (fun x => decide (x < e x)) := List.filter_congr fun x hx => by rw [h1 x (List.mem_range.mp hx)]
    rw [this]
    refine List.map_congr_left fun x hx => ?_
    rw [h1 x (List.mem_range.mp (List.mem_filter.mp hx).1)]
  · rw [List.filter_map, List.map_map, List.map_map]
    have : (List.range b).filter ((fun x => decide (x < g x)) ∘ fun x => a + x) = (List.range b).filter (fun x => decide (x < f x)) := List.filter_congr fun x hx => by
      show decide (a + x < g (a + x)) = _
      rw [h2 x (List.mem_range.mp hx)]
      exact decide_eq_decide.mpr (by omega)
    rw [this]
    refine List.map_congr_left fun x hx => ?_
    show (a + x, g (a + x)) = (a + x, a + f x)
    rw [h2 x (List.mem_range.mp (List.mem_filter.mp hx).1)]
where cat2' {α : Type} {a b c d : List α} (h1 : a = b) (h2 : c = d) : a ++ c = b ++ d := by rw [h1, h2]
section
variable {n m k : Nat} {ra rh : List Nat}
def lnkB (n m k : Nat) (ra rh : List Nat) : List (Nat × Nat) := strP (n + m) (rowF ra) ++ shP (n + m) (strP (m + k) (rowF rh)) ++ prs n m (List.range m)
def labB (n m k : Nat) (ra rh : List Nat) : Nat → Nat := lkL id (lnkB n m k ra rh)
theorem labB_lj (hA : Pr (n + m) (rowF ra)) (hH : Pr (m + k) (rowF rh)) : ∃ R, LJ (n + 2 * m + k) (labB n m k ra rh) (bhF (rowF ra) (rowF rh) n m k).1 (bhF (rowF ra) (rowF rh) n m k).2 (fun x => ¬ Pt (prs n m (List.range m)) x) R := by
  have pr : Pr (n + 2 * m + k) (e0 (rowF ra) (rowF rh) n m k) := fun x hx => ⟨e0_lt hA hH hx, e0_ne hA hH hx, e0_iv hA hH x⟩
  have s := LJ.start pr
  have e : (((List.range (n + 2 * m + k)).filter fun a => decide (a < e0 (rowF ra) (rowF rh) n m k a)).map fun a => (a, e0 (rowF ra) (rowF rh) n m k a)) = strP (n + m) (rowF ra) ++ shP (n + m) (strP (m + k) (rowF rh)) := by
    rw [show n + 2 * m + k = (n + m) + (m + k) by omega]
    refine strP_add (n + m) (m + k) _ _ _ (fun x hx => ?_) (fun x hx => ?_)
    · unfold e0
      rw [if_pos hx]
    · unfold e0
      rw [if_neg (by omega), if_pos (by omega), Nat.add_sub_cancel_left]
  rw [e] at s
  have ok := prs_ok hA hH (Q := List.range m) List.nodup_range (fun q hq => List.mem_range.mp hq)
  obtain ⟨R, t⟩ := LJ.all (prs n m (List.range m)) s (fun p hp => by
    obtain ⟨i, hi, rfl⟩ := prs_mem.mp hp
    have := List.mem_range.mp hi
    exact ⟨by simp only; omega, by simp only; omega, trivial, trivial, by simp only; omega⟩) ok.pw
  refine ⟨R, ?_⟩
  unfold labB lnkB
  rw [show lkL id (strP (n + m) (rowF ra) ++ shP (n + m) (strP (m + k) (rowF rh)) ++ prs n m (List.range m)) = lkL (lkL id (strP (n + m) (rowF ra) ++ shP (n + m) (strP (m + k) (rowF rh)))) (prs n m (List.range m)) by unfold lkL; rw [List.foldl_append]]
  exact t.cong fun x => ⟨fun z => z.2, fun z => ⟨trivial, z⟩⟩
theorem out_iff {x : Nat} : (x < n + 2 * m + k ∧ ¬ Pt (prs n m (List.range m)) x) ↔ Oue n m k x := by
  rw [pt_prs]
  unfold Oue
  constructor
  · rintro ⟨h1, h2⟩
    refine Classical.byContradiction fun h => h2 ?_
    by_cases c : x < n + m
    · exact ⟨x - n, List.mem_range.mpr (by omega), .inl (by omega)⟩
    · exact ⟨x - (n + m), List.mem_range.mpr (by omega), .inr (by omega)⟩
  · intro h
    refine ⟨by omega, ?_⟩
    rintro ⟨q, hq, h2⟩
    have := List.mem_range.mp hq
    omega
def outD (n m k : Nat) : List D := (List.range (n + k)).map fun i => natD (xp n m i)
def mrkD (n m k : Nat) (ra rh : List Nat) : List D := (List.range (n + k)).map fun i => natD (labB n m k ra rh (xp n m i))
theorem mrkD_at {i : Nat} (h : i < n + k) : atI (mrkD n m k ra rh) (i : Nat) = some (.int (labB n m k ra rh (xp n m i) : Nat)) := by
  have := atI_mapN (f := fun i => natD (labB n m k ra rh (xp n m i))) (xs := List.range (n + k)) (i := i) (z := 0) (by simp; exact h)
  rw [show (List.range (n + k)).getD i 0 = i by simp [List.getD_eq_getElem?_getD, h]] at this
  exact this
def bodyBh : FS := (asgF (opF addD [.b 9, .t (lcF [12] (itRg rng1D [.t (opF addD [.b 2, .b 4])]) (tgN 12) (andF (bT (opF (neD) [.b 12, .b 10])) (bT (opF (eqD) [.t (opF ixD [.b 8, .b 12]), .t (opF ixD [.b 8, .b 10])]))) (varF 12))]) (tgN 9))
theorem Bh_turn (hA : Pr (n + m) (rowF ra)) (hH : Pr (m + k) (rowF rh)) {i : Nat} (hi : i < n + k) (hs : n + k ≤ 1000) {A0 A1 A3 A5 A6 A7 A10 A11 : Option D} {Ms : List Nat} (hM : Ms.length ≤ 1000) :
    turn (tgN 10) bodyBh (natD i) [A0, A1, some (.int (n : Nat)), A3, some (.int (k : Nat)), A5, A6, A7, some (.lst true (mrkD n m k ra rh)), some (.lst true (Ms.map natD)), A10, A11, none] = some (.nx [A0, A1, some (.int (n : Nat)), A3, some (.int (k : Nat)), A5, A6, A7, some (.lst true (mrkD n m k ra rh)), some (.lst true ((Ms ++ [rowF (bhL ra rh n m k).2 i]).map natD)), some (natD i), A11, none]) := by
  obtain ⟨R, lj⟩ := labB_lj hA hH
  have nk : noOwns (mrkD n m k ra rh) = true := noOwns_map (f := fun i => natD (labB n m k ra rh (xp n m i))) (fun _ => by simp) _
  have r1 := rng1_nat (u := n + k) (by omega)
  have li := mrkD_at (n := n) (m := m) (k := k) (ra := ra) (rh := rh) hi
  obtain ⟨o1, o2, o3⟩ := bhF_out hA hH (xp_out (m := m) hi)
  obtain ⟨w1, w2⟩ := num_xp o1
  have lc : ∀ A : List (Option D), A = [A0, A1, some (.int (n : Nat)), A3, some (.int (k : Nat)), A5, A6, A7, some (.lst true (mrkD n m k ra rh)), some (.lst true (Ms.map natD)), some (natD i), A11, none] → goLc [12] (tgN 12) (andF (bT (opF (neD) [.b 12, .b 10])) (bT (opF (eqD) [.t (opF ixD [.b 8, .b 12]), .t (opF ixD [.b 8, .b 10])]))) (varF 12) ((List.range (n + k)).map natD) A = some ([rowF (bhL ra rh n m k).2 i].map natD, A) := fun A hA' => by
    have fl : (List.range (n + k)).filter (fun a => decide (a ≠ i ∧ labB n m k ra rh (xp n m a) = labB n m k ra rh (xp n m i))) = [rowF (bhL ra rh n m k).2 i] := by
      rw [bhL_get hi]
      refine filter_range_one _ w1 fun a ha => ?_
      have oa := out_iff.mpr (xp_out (m := m) ha)
      have oi := out_iff.mpr (xp_out (m := m) hi)
      have q := lj.iff_ _ _ oa.1 oi.1 oa.2 oi.2
      obtain ⟨a1, a2, a3⟩ := bhF_out hA hH (xp_out (m := m) ha)
      rw [decide_eq_true_eq, q]
      constructor
      · rintro ⟨z1, z2 | z2⟩
        · exact absurd (by rw [← xp_num (n := n) (m := m) (p := a), z2, xp_num]) z1
        · rw [z2, a3, xp_num]
      · intro z
        refine ⟨fun c => ?_, .inr ?_⟩
        · rw [c] at z
          have := w2
          rw [← z] at this
          exact o2 this.symm
        · rw [z, w2, o3]
    rw [← fl]
    refine goLc_filt natD natD _ _ fun a ha => ?_
    have ha := List.mem_range.mp ha
    have la := mrkD_at (n := n) (m := m) (k := k) (ra := ra) (rh := rh) ha
    subst hA'
    rw [lcTurnF_e]
    clear fl lj o1 o2 o3 w1 w2
    generalize labB n m k ra rh (xp n m a) = y1 at *
    generalize labB n m k ra rh (xp n m i) = y2 at *
    generalize mrkD n m k ra rh = LL at *
    generalize Ms.map natD = MM at *
    unfold natD at *
    by_cases w1 : a = i
    · simp [la, li, nk, w1]
    · have w1' : ¬ (a : Int) = (i : Int) := by omega
      by_cases w2 : y1 = y2
      · simp [la, li, nk, w1, w1', w2]
      · have w2' : ¬ (y1 : Int) = (y2 : Int) := by omega
        simp [la, li, nk, w1, w1', w2, w2']
  have lc := lc _ rfl
  have ad := addD_l (o := true) (o' := true) (xs := Ms.map natD) (ys := [rowF (bhL ra rh n m k).2 i].map natD) (noOwns_natDs _) (noOwns_natDs _) (by simp; omega)
  rw [← List.map_append] at ad
  rw [Int.natCast_add] at r1
  have n1 := noOwns_natDs (Ms ++ [rowF (bhL ra rh n m k).2 i])
  have n2 := noOwns_natDs Ms
  have n3 := noOwns_natDs [rowF (bhL ra rh n m k).2 i]
  have z1 : decide (([rowF (bhL ra rh n m k).2 i].map natD).length ≤ smallL) = true := small_le (by simp)
  rw [turn_e]
  clear lj o1 o2 o3 w1 w2
  generalize (Ms ++ [rowF (bhL ra rh n m k).2 i]).map natD = M2 at *
  generalize ([rowF (bhL ra rh n m k).2 i]).map natD = M1 at *
  generalize mrkD n m k ra rh = LL at *
  generalize Ms.map natD = MM at *
  generalize (List.range (n + k)).map natD = RR at *
  unfold bodyBh
  simp [r1, lc, ad, n1, n2, n3, z1, nk]
end
end VS
set_option Elab.async false
set_option linter.all false
set_option maxRecDepth 100000
namespace VS
open PySem PySem.Spec PyProof.Rows L2 RZ
theorem cat2 {α : Type} {a b c d : List α} (h1 : a = b) (h2 : c = d) : a ++ c = b ++ d := by rw [h1, h2]
variable {n m k : Nat} {ra rh : List Nat}
theorem lnkB_lt (hA : Pr (n + m) (rowF ra)) (hH : Pr (m + k) (rowF rh)) : ∀ p ∈ lnkB n m k ra rh, p.1 < n + 2 * m + k ∧ p.2 < n + 2 * m + k := fun p hp => by
  unfold lnkB at hp
  rcases List.mem_append.mp hp with hp | hp
  · rcases List.mem_append.mp hp with hp | hp
    · obtain ⟨a, ha, rfl⟩ := List.mem_map.mp (show p ∈ strP _ _ from hp)
      have := List.mem_range.mp (List.mem_filter.mp ha).1
      have := (hA a this).1
      exact ⟨by simp only; omega, by simp only; omega⟩
    · obtain ⟨q, hq, rfl⟩ := List.mem_map.mp (show p ∈ shP _ _ from hp)
      obtain ⟨a, ha, rfl⟩ := List.mem_map.mp (show q ∈ strP _ _ from hq)
      have := List.mem_range.mp (List.mem_filter.mp ha).1
      have := (hH a this).1
      exact ⟨by simp only; omega, by simp only; omega⟩
  · obtain ⟨q, hq, rfl⟩ := prs_mem.mp hp
    have := List.mem_range.mp hq
    exact ⟨by simp only; omega, by simp only; omega⟩
theorem prs_lcB {vs : List Nat} {fg : D → Env → Option Env} {fe : FE} {ρ : Env} (h : ∀ i, i < m → lcTurn vs fg fe (natD i) ρ = some (pr2 (n + i, n + m + i), ρ)) : goLc vs fg yesF fe ((List.range m).map natD) ρ = some ((prs n m (List.range m)).map pr2, ρ) := by
  unfold prs
  rw [List.map_map]
  exact goLc_mapI natD _ _ fun i hi => h i (List.mem_range.mp hi)
theorem behind_ok (ha : ra.length = n + m) (hh : rh.length = m + k) (hA : Pr (n + m) (rowF ra)) (hH : Pr (m + k) (rowF rh)) (hs : n + 2 * m + k ≤ 1000) : fn_behind.sem [matD n m ra, matD m k rh] = some (.tup [.int ((bhL ra rh n m k).1 : Nat), matD n k (bhL ra rh n m k).2], [some (matD n m ra), some (matD m k rh)]) := by
  have g0 := mat_0 n m ra
  have g1 := mat_1 n m ra
  have g2 := mat_1 m k rh
  have lk1 := links_ok (n := n) (m := m) (row := ra) ha (by omega)
  have lk2 := links_sh (n := m) (m := k) (row := rh) (n + m) hh (by omega)
  rw [Int.natCast_add] at lk2
  have n1 := noOwns_map noOwn_pr2 (strP (n + m) (rowF ra))
  have n2 := noOwns_map noOwn_pr2 (shP (n + m) (strP (m + k) (rowF rh)))
  have n3 := noOwns_map noOwn_pr2 (prs n m (List.range m))
  have pl1 := strP_len (n + m) (rowF ra)
  have pl2 := shP_len (n + m) (m + k) (rowF rh)
  have pl3 : (prs n m (List.range m)).length = m := by unfold prs; simp
  have ad := addD_l (o := true) (o' := true) (xs := (strP (n + m) (rowF ra)).map pr2) (ys := (shP (n + m) (strP (m + k) (rowF rh))).map pr2) n1 n2 (by simp; omega)
  have n12 : noOwns ((strP (n + m) (rowF ra)).map pr2 ++ (shP (n + m) (strP (m + k) (rowF rh))).map pr2) = true := by rw [noOwns_append, n1, n2]; rfl
  have ad2 := addD_l (o := true) (o' := true) (xs := (strP (n + m) (rowF ra)).map pr2 ++ (shP (n + m) (strP (m + k) (rowF rh))).map pr2) (ys := (prs n m (List.range m)).map pr2) n12 n3 (by simp; omega)
  have eS : (strP (n + m) (rowF ra)).map pr2 ++ (shP (n + m) (strP (m + k) (rowF rh))).map pr2 ++ (prs n m (List.range m)).map pr2 = (lnkB n m k ra rh).map pr2 := by
    unfold lnkB
    rw [List.map_append, List.map_append]
  rw [eS] at ad2
  have n4 := noOwns_map noOwn_pr2 (lnkB n m k ra rh)
  have lo := lots_ok (N := n + 2 * m + k) (ps := lnkB n m k ra rh) hs (lnkB_lt hA hH) (by unfold lnkB; simp; omega)
  have eN : ((n + 2 * m + k : Nat) : Int) = (n : Int) + 2 * (m : Int) + (k : Int) := by omega
  rw [eN] at lo
  have hlab : lkL id (lnkB n m k ra rh) = labB n m k ra rh := rfl
  rw [hlab] at lo
  have r0 := rng1_nat (u := m) (by omega)
  have r1 := rng1_nat (u := n) (by omega)
  have r2 := rng2_nat (lo := n + 2 * m) (n := k) (by omega) (by omega)
  rw [show ((n + 2 * m : Nat) : Int) = (n : Int) + 2 * (m : Int) by omega] at r2
  have mk : mulOk 2 (m : Int) = true := mulOk_l (by omega) (by omega)
  have r3 := rng1_nat (u := n + k) (by omega)
  rw [Int.natCast_add] at r3
  have lc : ∀ A : List (Option D), A = [some (matD n m ra), some (matD m k rh), some (.int (n : Nat)), some (.int (m : Nat)), some (.int (k : Nat)), none, none, none, none, none, none, none, none] → goLc [11] (tgN 11) yesF (tupF [.t (opF addD [.b 2, .b 11]), .t (opF addD [.t (opF addD [.b 2, .b 3]), .b 11])]) ((List.range m).map natD) A = some ((prs n m (List.range m)).map pr2, A) := fun A hA => prs_lcB fun i hi => by
    subst hA
    rw [lcTurn_e]
    unfold pr2 natD
    simp only [Int.natCast_add]
    generalize matD n m ra = M at *
    generalize matD m k rh = M2 at *
    simp
  have lc := lc _ rfl
  have l1 := lrgK_e (xs := (List.range n).map natD) (by simp; omega)
  have l2 := lrgK_e (xs := (List.range k).map fun i => natD (n + 2 * m + i)) (by simp; omega)
  have nk1 := noOwns_natDs (List.range n)
  have nk2 := noOwns_map (f := fun i => natD (n + 2 * m + i)) (fun _ => by simp) (List.range k)
  have ad3 := addD_l (o := true) (o' := true) (xs := (List.range n).map natD) (ys := (List.range k).map fun i => natD (n + 2 * m + i)) nk1 nk2 (by simp; omega)
  have ek : (List.range n).map natD ++ ((List.range k).map fun i => natD (n + 2 * m + i)) = outD n m k := by
    unfold outD
    rw [List.range_add, List.map_append, List.map_map]
    refine cat2 ?_ ?_
    · refine List.map_congr_left fun i hi => ?_
      have := List.mem_range.mp hi
      unfold xp; rw [if_pos this]
    · refine List.map_congr_left fun i hi => ?_
      show natD (n + 2 * m + i) = natD (xp n m (n + i))
      unfold xp; rw [if_neg (by omega), show n + 2 * m + i = n + i + 2 * m by omega]
  rw [ek] at ad3
  have nk : noOwns (outD n m k) = true := noOwns_map (f := fun i => natD (xp n m i)) (fun _ => by simp) _
  have fk := freezes_of nk
  have no := noOwns_labD (n + 2 * m + k) (labB n m k ra rh)
  have lc2 : ∀ A : List (Option D), A = [some (matD n m ra), some (matD m k rh), some (.int (n : Nat)), some (.int (m : Nat)), some (.int (k : Nat)), some (.lst false ((lnkB n m k ra rh).map pr2)), some (.lst true (labD (n + 2 * m + k) (labB n m k ra rh))), some (.lst false (outD n m k)), none, none, none, none, none] → goLc [11] (tgN 11) yesF (opF ixD [.b 6, .b 11]) (outD n m k) A = some (mrkD n m k ra rh, A) := fun A hA' => by
    refine goLc_mapI (fun i => natD (xp n m i)) _ _ fun i hi => ?_
    have hi := List.mem_range.mp hi
    have xl := (out_iff.mpr (xp_out (m := m) hi)).1
    have li := labD_at (L := labB n m k ra rh) xl
    subst hA'
    rw [lcTurn_e]
    clear lc lo ad2 eS ad3 ek
    generalize labB n m k ra rh (xp n m i) = y at *
    unfold natD
    generalize labD (n + 2 * m + k) (labB n m k ra rh) = LL at *
    generalize outD n m k = OO at *
    generalize (lnkB n m k ra rh).map pr2 = SS at *
    generalize xp n m i = x at *
    simp [li, no]
  have lc2 := lc2 _ rfl
  have nM : noOwns (mrkD n m k ra rh) = true := noOwns_map (f := fun i => natD (labB n m k ra rh (xp n m i))) (fun _ => by simp) _
  have zM : decide ((mrkD n m k ra rh).length ≤ smallL) = true := small_le (by unfold mrkD; simp; omega)
  have zP : decide (((prs n m (List.range m)).map pr2).length ≤ smallL) = true := small_le (by simp; omega)
  obtain ⟨ρ', g, a6, rfl⟩ := for_inv (tg := tgN 10) (body := bodyBh) (ds := (List.range (n + k)).map natD) (ρ := [some (matD n m ra), some (matD m k rh), some (.int (n : Nat)), some (.int (m : Nat)), some (.int (k : Nat)), some (.lst false ((lnkB n m k ra rh).map pr2)), some (.lst true (labD (n + 2 * m + k) (labB n m k ra rh))), some (.lst false (outD n m k)), some (.lst true (mrkD n m k ra rh)), some (.lst true []), none, none, none])
    (fun j ρ => ∃ a6, ρ = [some (matD n m ra), some (matD m k rh), some (.int (n : Nat)), some (.int (m : Nat)), some (.int (k : Nat)), some (.lst false ((lnkB n m k ra rh).map pr2)), some (.lst true (labD (n + 2 * m + k) (labB n m k ra rh))), some (.lst false (outD n m k)), some (.lst true (mrkD n m k ra rh)), some (.lst true (((bhL ra rh n m k).2.take j).map natD)), a6, none, none])
    ⟨none, rfl⟩ (by
      rintro j d ρ hd ⟨a6, rfl⟩
      rw [List.getElem?_map] at hd
      obtain ⟨j', hj', rfl⟩ := Option.map_eq_some_iff.mp hd
      obtain ⟨hj, e⟩ := List.getElem?_eq_some_iff.mp hj'
      rw [List.length_range] at hj
      obtain rfl : j' = j := by simpa using e.symm
      have t := Bh_turn (i := j') hA hH hj (by omega) (A0 := some (matD n m ra)) (A1 := some (matD m k rh)) (A3 := some (.int (m : Nat))) (A5 := some (.lst false ((lnkB n m k ra rh).map pr2))) (A6 := some (.lst true (labD (n + 2 * m + k) (labB n m k ra rh)))) (A7 := some (.lst false (outD n m k))) (A10 := a6) (A11 := none) (Ms := (bhL ra rh n m k).2.take j') (by rw [List.length_take, bhL_len]; omega)
      have e2 : (bhL ra rh n m k).2.take (j' + 1) = (bhL ra rh n m k).2.take j' ++ [rowF (bhL ra rh n m k).2 j'] := by
        rw [List.take_add_one]
        refine cat2 rfl ?_
        unfold rowF
        rw [List.getD_eq_getElem?_getD, List.getElem?_eq_getElem (by rw [bhL_len]; exact hj)]
        rfl
      rw [← e2] at t
      exact ⟨_, .inl t, _, rfl⟩)
  have kl : ((List.range (n + k)).map natD).length = n + k := by simp
  rw [kl, List.take_of_length_le (by rw [bhL_len]; omega)] at g
  have s1 := lenSetD_e (o := true) (ns := (List.range (n + 2 * m + k)).map fun p => (((labB n m k ra rh) p : Nat) : Int)) (by simp; omega)
  rw [← lab_ints] at s1
  have s2 := lenSetD_e (o := true) (ns := (List.range (n + k)).map fun i => (((labB n m k ra rh) (xp n m i) : Nat) : Int)) (by simp; omega)
  have eM : ((List.range (n + k)).map fun i => (((labB n m k ra rh) (xp n m i) : Nat) : Int)).map D.int = mrkD n m k ra rh := by
    unfold mrkD
    rw [List.map_map]
    rfl
  rw [eM] at s2
  have cnt : nMet ((List.range (n + 2 * m + k)).map fun p => (((labB n m k ra rh) p : Nat) : Int)) = nMet ((List.range (n + k)).map fun i => (((labB n m k ra rh) (xp n m i) : Nat) : Int)) + (bhL ra rh n m k).1 := by
    obtain ⟨R, lj⟩ := labB_lj hA hH
    obtain ⟨l1, n1, m1, q1⟩ := nMet_spec ((List.range (n + 2 * m + k)).map fun p => (((labB n m k ra rh) p : Nat) : Int))
    obtain ⟨l2, n2, m2, q2⟩ := nMet_spec ((List.range (n + k)).map fun i => (((labB n m k ra rh) (xp n m i) : Nat) : Int))
    rw [q1, q2]
    refine lj.count (K := (List.range (n + k)).map (xp n m)) (fun x => ?_) n1 n2 m1 (fun v => by rw [m2, List.map_map]; rfl)
    rw [out_iff, List.mem_map]
    constructor
    · rintro ⟨i, hi, rfl⟩
      exact xp_out (List.mem_range.mp hi)
    · intro hx
      exact ⟨num n m x, List.mem_range.mpr (num_xp hx).1, (num_xp hx).2⟩
  have cz : ((nMet ((List.range (n + 2 * m + k)).map fun p => (((labB n m k ra rh) p : Nat) : Int)) : Nat) : Int) - ((nMet ((List.range (n + k)).map fun i => (((labB n m k ra rh) (xp n m i) : Nat) : Int)) : Nat) : Int) = ((bhL ra rh n m k).1 : Nat) := by omega
  have nc := noOwns_natDs (bhL ra rh n m k).2
  have zc : decide (((bhL ra rh n m k).2.map natD).length ≤ smallL) = true := small_le (by rw [List.length_map, bhL_len]; omega)
  have p1 : fn_links.pins = [true, true] := rfl
  have p2 : fn_lots.pins = [true, true] := rfl
  have nm := noOwn_matD n m ra
  have nm2 := noOwn_matD m k rh
  clear cnt ek eM eS eN hlab
  unfold bodyBh at g
  rw [show matD n k (bhL ra rh n m k).2 = .tup [.int (n : Nat), .int (k : Nat), .tup ((bhL ra rh n m k).2.map natD)] from rfl]
  generalize nMet ((List.range (n + 2 * m + k)).map fun p => (((labB n m k ra rh) p : Nat) : Int)) = N1 at *
  generalize nMet ((List.range (n + k)).map fun i => (((labB n m k ra rh) (xp n m i) : Nat) : Int)) = N2 at *
  generalize mrkD n m k ra rh = ZZ at *
  generalize (bhL ra rh n m k).1 = rr at *
  generalize (bhL ra rh n m k).2.map natD = C at *
  generalize labD (n + 2 * m + k) (labB n m k ra rh) = LL at *
  generalize outD n m k = KK at *
  generalize (lnkB n m k ra rh).map pr2 = SS at *
  generalize (strP (n + m) (rowF ra)).map pr2 = P1 at *
  generalize (shP (n + m) (strP (m + k) (rowF rh))).map pr2 = P2 at *
  generalize (prs n m (List.range m)).map pr2 = P3 at *
  generalize ((List.range k).map fun i => natD (n + 2 * m + i)) = Q2 at *
  generalize (List.range n).map natD = Q1 at *
  generalize (List.range m).map natD = Q3 at *
  generalize (List.range (n + k)).map natD = Q4 at *
  generalize matD n m ra = M at *
  generalize matD m k rh = M2 at *
  unfold fn_behind F_behind
  rw [bodyFn_sem]
  simp [tupleD_l nc, g0, g1, g2, r0, r1, r2, r3, mk, lk1, lk2, lo, n1, n2, n3, n4, n12, ad, ad2, ad3, no, lc, l1, l2, nk1, nk2, nk, fk, g, lc2, s1, s2, cz, nM, zM, zP, nc, zc, p1, p2, nm, nm2]
end VS
set_option Elab.async false
set_option linter.all false
set_option maxRecDepth 100000
namespace VS
open PySem PySem.Spec PyProof.Rows L2 RZ
theorem p_straight_ok {n : Nat} (h1 : 1 ≤ n) (hn : n ≤ 1000) : fn_p_straight.sem [.int (n : Nat)] = some (matD n n (strR n), [some (.int (n : Nat))]) := by
  have c1 : ¬ ((n : Int) < 1) := by omega
  have cs : fn_p_check_size.sem [.int (n : Nat)] = some (.non, [some (.int (n : Nat))]) := by
    unfold fn_p_check_size F_p_check_size
    rw [bodyFn_sem]
    simp [c1]
  have p1 : fn_p_check_size.pins = [true] := rfl
  have r1 := rng1_nat (u := n) (by omega)
  have r2 : rng2D [.int (n : Nat), .int (2 * (n : Int))] = some ((List.range n).map fun i => natD (n + i)) := by
    rw [show 2 * (n : Int) = (n : Int) + (n : Int) by omega]
    exact rng2_nat (by omega) (by omega)
  have mk : mulOk 2 (n : Int) = true := mulOk_l (by omega) (by omega)
  have e1 : (strR n).map natD = ((List.range n).map fun i => natD (n + i)) ++ (List.range n).map natD := by
    unfold strR
    rw [List.map_append, List.map_map]; rfl
  have n1 : noOwns ((List.range n).map fun i => natD (n + i)) = true := noOwns_map (fun _ => by simp) _
  have n2 := noOwns_natDs (List.range n)
  have l1 : ((List.range n).map fun i => natD (n + i)).length = n := by simp
  have l2 : ((List.range n).map natD).length = n := by simp
  have ad := addD_l (o := true) (o' := true) n1 n2 (by rw [l1, l2]; omega)
  have g1 := lrgK_e (xs := (List.range n).map fun i => natD (n + i)) (by rw [l1]; omega)
  have g2 := lrgK_e (xs := (List.range n).map natD) (by rw [l2]; omega)
  have n3 : noOwns (((List.range n).map fun i => natD (n + i)) ++ (List.range n).map natD) = true := by rw [← e1]; exact noOwns_natDs _
  have t1 := tupleD_l (o := true) n3
  unfold fn_p_straight F_p_straight matD
  rw [bodyFn_sem, e1]
  generalize ((List.range n).map fun i => natD (n + i)) = X at *
  generalize (List.range n).map natD = Y at *
  generalize X ++ Y = Z at *
  simp [r1, r2, mk, ad, g1, g2, n3, t1, cs, p1, small_le (n := 3) (by omega)]
theorem deq_matG (n k : Nat) (r q : List Nat) : deq (matD n k r) (matD n k q) = decide (r = q) := by
  unfold deq matD
  simp only [pyD, pyDs, PyData.eqv, PyData.eqvAll, Bool.and_true]
  rw [eqvAll_nats]
  simp
theorem eqOk_matG (n k : Nat) (r : List Nat) : eqOk (matD n k r) = true := (EqB.tup (k := 1) fun x hx => by
  simp only [List.mem_cons, List.not_mem_nil, or_false] at hx
  rcases hx with rfl | rfl | rfl
  · exact EqB.int _
  · exact EqB.int _
  · exact EqB.tup (k := 0) (eqB_nats r)).ok (by omega)
theorem for_ret {tg : D → Env → Option Env} {body : FS} (I : Nat → Env → Prop) (R : D → Env → Prop) {ds : List D} {ρ : Env} (h0 : I 0 ρ)
    (hs : ∀ i d ρ, ds[i]? = some d → I i ρ → (∃ ρ2, turn tg body d ρ = some (.nx ρ2) ∧ I (i + 1) ρ2) ∨ ∃ v ρ2, turn tg body d ρ = some (.rt v ρ2) ∧ R v ρ2) :
    (∃ ρ', goFor tg body ds ρ = some (.nx ρ') ∧ I ds.length ρ') ∨ ∃ v ρ', goFor tg body ds ρ = some (.rt v ρ') ∧ R v ρ' := by
  induction ds generalizing ρ I with
  | nil => exact .inl ⟨ρ, rfl, h0⟩
  | cons d ds ih =>
    rcases hs 0 d ρ rfl h0 with ⟨ρ2, h, i2⟩ | ⟨v, ρ2, h, hR⟩
    · rcases ih (fun i => I (i + 1)) i2 fun i d ρ e j => hs (i + 1) d ρ e j with ⟨ρ', h', i'⟩ | ⟨v, ρ', h', hR⟩
      · exact .inl ⟨ρ', by rw [goFor_cons, h]; exact h', i'⟩
      · exact .inr ⟨v, ρ', by rw [goFor_cons, h]; exact h', hR⟩
    · exact .inr ⟨v, ρ2, by rw [goFor_cons, h]; rfl, hR⟩
end VS
set_option Elab.async false
set_option linter.all false
set_option maxRecDepth 100000
namespace VS
open PySem PySem.Spec PyProof.Rows L2 RZ
def putD (n k : Nat) (s : Nat × List Nat) : D := .tup [.int (s.1 : Nat), .int (n : Nat), .int (k : Nat), .tup (s.2.map natD)]
abbrev Mt := Nat × Nat × List Nat
def mtD (x : Mt) : D := matD x.1 x.2.1 x.2.2
def vlD (s : Nat × Mt) : D := .tup [.int (s.1 : Nat), mtD s.2]
structure MtP (x : Mt) : Prop where
  len : x.2.2.length = x.1 + x.2.1
  pr : Pr (x.1 + x.2.1) (rowF x.2.2)
  n : x.1 ≤ 16
  m : x.2.1 ≤ 16
def bhM (s : Nat × Mt) (x : Mt) : Nat × Mt := (s.1 + (bhL s.2.2.2 x.2.2 s.2.1 s.2.2.1 x.2.1).1, (s.2.1, x.2.1, (bhL s.2.2.2 x.2.2 s.2.1 s.2.2.1 x.2.1).2))
theorem bhM_ok {s : Nat × Mt} {x : Mt} (h : MtP s.2) (h2 : MtP x) (e : s.2.2.1 = x.1) : MtP (bhM s x).2 := by
  refine ⟨bhL_len _ _, ?_, h.n, h2.m⟩
  have q1 := h.pr
  have q2 := h2.pr
  rw [e] at q1
  unfold bhM
  rw [e]
  exact bhL_pr q1 q2
theorem noOwn_mtD (x : Mt) : noOwn (mtD x) = true := noOwn_matD _ _ _
theorem noOwn_vlD (s : Nat × Mt) : noOwn (vlD s) = true := by
  have := noOwn_mtD s.2
  unfold vlD; generalize mtD s.2 = M at *; simp [this]
theorem vlD_0 (s : Nat × Mt) : ixD [vlD s, .int 0] = some (.int (s.1 : Nat)) := by
  unfold vlD
  show (bd (atI _ 0) ownK) = _
  simp [atI]
theorem vlD_1 (s : Nat × Mt) : ixD [vlD s, .int 1] = some (mtD s.2) := by
  have no := noOwn_mtD s.2
  unfold vlD
  generalize mtD s.2 = M at *
  show (bd (atI _ 1) ownK) = _
  simp [no, atI]
theorem put_x {s x : Mt} (h : MtP s) (h2 : MtP x) (e : s.2.1 = x.1) : fn_p_put_behind.sem [mtD s, mtD x] = some (putD s.1 x.2.1 (bhL s.2.2 x.2.2 s.1 s.2.1 x.2.1), [some (mtD s), some (mtD x)]) := by
  obtain ⟨n, m, ra⟩ := s
  obtain ⟨m', k, rh⟩ := x
  simp only at e
  subst e
  exact put_g (n := n) (m := m) (k := k) h.len h2.len h.pr h2.pr h.m (by have := h.n; have := h.m; have := h2.m; simp only at *; omega)
theorem chained_g {s t : Nat × Mt} (h : MtP s.2) (h2 : MtP t.2) (e : s.2.2.1 = t.2.1) : fn_p_chained.sem [vlD s, vlD t] = some (vlD ((bhM s t.2).1 + t.1, (bhM s t.2).2), [some (vlD s), some (vlD t)]) := by
  have pu := put_x h h2 e
  have a0 := vlD_0 s
  have a1 := vlD_1 s
  have b0 := vlD_0 t
  have b1 := vlD_1 t
  have n1 := noOwn_vlD s
  have n2 := noOwn_vlD t
  have n3 := noOwn_mtD s.2
  have n4 := noOwn_mtD t.2
  have p1 : fn_p_put_behind.pins = [true, true] := rfl
  have nl := noOwns_natDs (bhL s.2.2.2 t.2.2.2 s.2.1 s.2.2.1 t.2.2.1).2
  have er : vlD ((bhM s t.2).1 + t.1, (bhM s t.2).2) = .tup [.int ((s.1 : Int) + (t.1 : Int) + ((bhL s.2.2.2 t.2.2.2 s.2.1 s.2.2.1 t.2.2.1).1 : Int)), .tup [.int (s.2.1 : Nat), .int (t.2.2.1 : Nat), .tup ((bhL s.2.2.2 t.2.2.2 s.2.1 s.2.2.1 t.2.2.1).2.map natD)]] := by
    unfold vlD bhM
    have : ((s.1 + (bhL s.2.2.2 t.2.2.2 s.2.1 s.2.2.1 t.2.2.1).1 + t.1 : Nat) : Int) = (s.1 : Int) + (t.1 : Int) + ((bhL s.2.2.2 t.2.2.2 s.2.1 s.2.2.1 t.2.2.1).1 : Int) := by omega
    rw [this]
    rfl
  rw [er]
  unfold putD at pu
  generalize (bhL s.2.2.2 t.2.2.2 s.2.1 s.2.2.1 t.2.2.1).1 = RR at *
  generalize (bhL s.2.2.2 t.2.2.2 s.2.1 s.2.2.1 t.2.2.1).2.map natD = LL at *
  clear er
  generalize vlD s = V1 at *
  generalize vlD t = V2 at *
  generalize mtD s.2 = M1 at *
  generalize mtD t.2 = M2 at *
  unfold fn_p_chained F_p_chained
  rw [bodyFn_sem]
  simp [a0, a1, b0, b1, pu, n1, n2, n3, n4, nl, p1]
theorem chained_0 {s : Nat × Mt} {x : Mt} (h : MtP s.2) (h2 : MtP x) (e : s.2.2.1 = x.1) : fn_p_chained.sem [vlD s, vlD (0, x)] = some (vlD (bhM s x), [some (vlD s), some (vlD (0, x))]) := chained_g (t := (0, x)) h h2 e
theorem mt_0 (x : Mt) : ixD [mtD x, .int 0] = some (.int (x.1 : Nat)) := mat_0 _ _ _
theorem mt_1 (x : Mt) : ixD [mtD x, .int 1] = some (.int (x.2.1 : Nat)) := mat_1 _ _ _
def IsM (x : Mt) : Prop := IsMat x.1 x.2.1 x.2.2
theorem IsM.p {x : Mt} (h : IsM x) (hn : x.1 ≤ 16) (hm : x.2.1 ≤ 16) : MtP x := ⟨h.len, h.pr, hn, hm⟩
theorem checked_m {x : Mt} (h : IsM x) (hn : x.1 ≤ 16) (hm : x.2.1 ≤ 16) : fn_p_checked_mat.sem [mtD x] = some (mtD x, [some (mtD x)]) := checked_ok h (by omega)
theorem pair_ok (k : Nat) : fn_p_check_pair.sem [.int (k : Nat), .int (k : Nat)] = some (.non, [some (.int (k : Nat)), some (.int (k : Nat))]) := by
  unfold fn_p_check_pair F_p_check_pair
  rw [bodyFn_sem]
  simp
theorem joined_g {a b : Mt} (h : IsM a) (h2 : IsM b) (e : a.2.1 = b.1) (l1 : a.1 ≤ 16) (l2 : a.2.1 ≤ 16) (l3 : b.2.1 ≤ 16) : fn_p_joined.sem [mtD a, mtD b] = some (vlD (bhM (0, a) b), [some (mtD a), some (mtD b)]) := by
  have c1 := checked_m h l1 l2
  have c2 := checked_m h2 (by omega) l3
  have ch := chained_0 (s := (0, a)) (x := b) (h.p l1 l2) (h2.p (by omega) l3) e
  have a1 := mt_1 a
  have b0 := mt_0 b
  rw [← e] at b0
  have pc := pair_ok a.2.1
  have n1 := noOwn_mtD a
  have n2 := noOwn_mtD b
  have n3 := noOwn_vlD (bhM (0, a) b)
  have p1 : fn_p_checked_mat.pins = [true] := rfl
  have p2 : fn_p_check_pair.pins = [true, true] := rfl
  have p3 : fn_p_chained.pins = [true, true] := rfl
  have v1 : vlD (0, a) = .tup [.int 0, mtD a] := rfl
  have v2 : vlD (0, b) = .tup [.int 0, mtD b] := rfl
  rw [v1, v2] at ch
  generalize vlD (bhM (0, a) b) = R at *
  generalize mtD a = A at *
  generalize mtD b = B at *
  unfold fn_p_joined F_p_joined
  rw [bodyFn_sem]
  simp [c1, c2, ch, a1, b0, pc, n1, n2, n3, p1, p2, p3]
def Chn : Nat → List Mt → Prop
  | _, [] => True
  | k, x :: xs => x.1 = k ∧ IsM x ∧ x.1 ≤ 16 ∧ x.2.1 ≤ 16 ∧ Chn x.2.1 xs
def foldM (s : Nat × Mt) (xs : List Mt) : Nat × Mt := xs.foldl bhM s
theorem fold_ok : ∀ {xs : List Mt} {s : Nat × Mt}, MtP s.2 → Chn s.2.2.1 xs → MtP (foldM s xs).2
  | [], s, h, _ => h
  | x :: xs, s, h, c => by
    have hx := c.2.1.p c.2.2.1 c.2.2.2.1
    exact fold_ok (s := bhM s x) (bhM_ok h hx c.1.symm) c.2.2.2.2
theorem chn_init : ∀ {xs ys : List Mt} {k : Nat}, Chn k (xs ++ ys) → Chn k xs
  | [], _, _, _ => trivial
  | x :: xs, ys, k, c => ⟨c.1, c.2.1, c.2.2.1, c.2.2.2.1, chn_init c.2.2.2.2⟩
theorem bhM_shift (c : Nat) (s : Nat × Mt) (x : Mt) : bhM (s.1 + c, s.2) x = ((bhM s x).1 + c, (bhM s x).2) := by
  unfold bhM
  refine Prod.ext ?_ rfl
  simp only []
  omega
theorem bhM_assoc {s : Nat × Mt} {a b : Mt} (hs : MtP s.2) (ha : MtP a) (hb : MtP b) (e1 : s.2.2.1 = a.1) (e2 : a.2.1 = b.1) : bhM (bhM s a) b = ((bhM s (bhM (0, a) b).2).1 + (bhM (0, a) b).1, (bhM s (bhM (0, a) b).2).2) := by
  obtain ⟨r, n, m, ra⟩ := s
  obtain ⟨m', k, rb⟩ := a
  obtain ⟨k', j, rc⟩ := b
  simp only at e1 e2
  subst e1
  subst e2
  obtain ⟨h1, h2⟩ := bh_assoc hs.pr ha.pr hb.pr
  simp only at h1 h2
  unfold bhM
  simp only []
  rw [h2]
  refine Prod.ext ?_ rfl
  simp only []
  omega
def tot : List Mt → Nat × Mt
  | [] => (0, 0, 0, [])
  | x :: xs => foldM (0, x) xs
theorem foldM_snoc (s : Nat × Mt) (xs : List Mt) (w : Mt) : foldM s (xs ++ [w]) = bhM (foldM s xs) w := by
  unfold foldM; rw [List.foldl_append]; rfl
theorem chn_app : ∀ {l r : List Mt} {k : Nat}, Chn k (l ++ r) → ∃ j, Chn j r ∧ ∀ s : Nat × Mt, s.2.2.1 = k → (foldM s l).2.2.1 = j
  | [], r, k, c => ⟨k, c, fun s h => h⟩
  | x :: l, r, k, c => by
    obtain ⟨j, c1, h⟩ := chn_app (l := l) c.2.2.2.2
    exact ⟨j, c1, fun s hs => h (bhM s x) rfl⟩
theorem fold_two {y : Mt} {s : Nat × Mt} (hs : MtP s.2) : ∀ ys : List Mt, Chn s.2.2.1 (y :: ys.reverse) → foldM s (y :: ys.reverse) = ((bhM s (foldM (0, y) ys.reverse).2).1 + (foldM (0, y) ys.reverse).1, (bhM s (foldM (0, y) ys.reverse).2).2)
  | [], c => rfl
  | w :: ys, c => by
    rw [List.reverse_cons] at c ⊢
    have c1 : Chn s.2.2.1 ((y :: ys.reverse) ++ [w]) := c
    have ih := fold_two hs ys (chn_init c1)
    obtain ⟨j, cw, hj⟩ := chn_app c1
    have hy := c.2.1.p c.2.2.1 c.2.2.2.1
    have cy : Chn y.2.1 ys.reverse := (chn_init c1).2.2.2.2
    have hR := fold_ok (s := (0, y)) hy cy
    have hw := cw.2.1.p cw.2.2.1 cw.2.2.2.1
    have e0 : ∀ t : Nat × Mt, (foldM t (y :: ys.reverse)).2.2.1 = (foldM (0, y) ys.reverse).2.2.1 := fun t => by
      have : ∀ (zs : List Mt) (p q : Nat × Mt), p.2.2.1 = q.2.2.1 → (foldM p zs).2.2.1 = (foldM q zs).2.2.1 := by
        intro zs
        induction zs with
        | nil => intro p q h; exact h
        | cons z zs ih => intro p q h; exact ih (bhM p z) (bhM q z) rfl
      exact this ys.reverse (bhM t y) (0, y) rfl
    have ew : (foldM (0, y) ys.reverse).2.2.1 = w.1 := by rw [← e0 s, hj s rfl, cw.1]
    have es : s.2.2.1 = (foldM (0, y) ys.reverse).2.1 := by
      have : ∀ (zs : List Mt) (p : Nat × Mt), (foldM p zs).2.1 = p.2.1 := by
        intro zs
        induction zs with
        | nil => intro p; rfl
        | cons z zs ih => intro p; exact ih (bhM p z)
      rw [this]
      exact c.1.symm
    show foldM s ((y :: ys.reverse) ++ [w]) = _
    rw [foldM_snoc, ih, foldM_snoc]
    obtain ⟨R, hRR⟩ : ∃ R, R = foldM (0, y) ys.reverse := ⟨_, rfl⟩
    simp only [← hRR] at hR es ew ⊢
    rw [bhM_shift, bhM_assoc hs hR hw es ew]
    have eR : bhM R w = ((bhM (0, R.2) w).1 + R.1, (bhM (0, R.2) w).2) := by
      have := bhM_shift R.1 (0, R.2) w
      rw [Nat.zero_add] at this
      exact this
    rw [eR]
    refine Prod.ext ?_ rfl
    simp only []
    omega
theorem bhM_isM {a b : Mt} (ha : IsM a) (hb : IsM b) (e : a.2.1 = b.1) (h0 : 0 < a.1 + b.2.1) : IsM (bhM (0, a) b).2 := by
  obtain ⟨m', k, rb⟩ := a
  obtain ⟨k', j, rc⟩ := b
  simp only at e
  subst e
  exact bh_mat ha hb h0
theorem tot_split {x y : Mt} {xs ys : List Mt} {k : Nat} (c : Chn k ((x :: xs) ++ (y :: ys))) : (tot (x :: xs)).2.2.1 = (tot (y :: ys)).2.1 ∧ tot ((x :: xs) ++ (y :: ys)) = ((tot (x :: xs)).1 + (tot (y :: ys)).1 + (bhM (0, (tot (x :: xs)).2) (tot (y :: ys)).2).1, (bhM (0, (tot (x :: xs)).2) (tot (y :: ys)).2).2) := by
  obtain ⟨j, c2, hj⟩ := chn_app (l := xs) (r := y :: ys) c.2.2.2.2
  have hx := c.2.1.p c.2.2.1 c.2.2.2.1
  have cx : Chn x.2.1 xs := chn_init c.2.2.2.2
  have hL := fold_ok (s := (0, x)) hx cx
  have eL : (foldM (0, x) xs).2.2.1 = j := hj (0, x) rfl
  have f1 : ∀ (zs : List Mt) (p : Nat × Mt), (foldM p zs).2.1 = p.2.1 := by
    intro zs
    induction zs with
    | nil => intro p; rfl
    | cons z zs ih => intro p; exact ih (bhM p z)
  refine ⟨?_, ?_⟩
  · show (foldM (0, x) xs).2.2.1 = (foldM (0, y) ys).2.1
    rw [eL, f1]; exact c2.1.symm
  · show foldM (0, x) (xs ++ y :: ys) = _
    have e1 : foldM (0, x) (xs ++ y :: ys) = foldM (foldM (0, x) xs) (y :: ys) := by unfold foldM; rw [List.foldl_append]
    have e2 := fold_two (y := y) (s := foldM (0, x) xs) hL ys.reverse (by rw [List.reverse_reverse, eL]; exact c2)
    rw [List.reverse_reverse] at e2
    rw [e1, e2]
    have e3 : bhM (foldM (0, x) xs) (foldM (0, y) ys).2 = ((bhM (0, (foldM (0, x) xs).2) (foldM (0, y) ys).2).1 + (foldM (0, x) xs).1, (bhM (0, (foldM (0, x) xs).2) (foldM (0, y) ys).2).2) := by
      have := bhM_shift (foldM (0, x) xs).1 (0, (foldM (0, x) xs).2) (foldM (0, y) ys).2
      rw [Nat.zero_add] at this
      exact this
    rw [e3]
    refine Prod.ext ?_ rfl
    simp only [tot]
    omega
def T (a : Mt) : Nat → Nat × Mt
  | 0 => (0, a)
  | k + 1 => bhM (T a k) a
def rw' (a : Mt) (k : Nat) : List Nat := (T a k).2.2.2
structure Sq (n : Nat) (a : Mt) : Prop where
  n1 : a.1 = n
  n2 : a.2.1 = n
  m : IsM a
  lo : 0 < n
  hi : n ≤ 8
theorem T_mt {n : Nat} {a : Mt} (h : Sq n a) : ∀ k, (T a k).2 = (n, n, rw' a k) ∧ IsMat n n (rw' a k)
  | 0 => by
    obtain ⟨x, y, r⟩ := a
    have h1 : x = n := h.n1
    have h2 : y = n := h.n2
    subst h1
    subst h2
    exact ⟨rfl, h.m⟩
  | k + 1 => by
    obtain ⟨e, i⟩ := T_mt h k
    have i2 : IsM (bhM (T a k) a).2 := by
      have := bhM_isM (a := (T a k).2) (b := a) (by rw [e]; exact i) h.m (by rw [e, h.n1]) (by rw [e]; have := h.lo; simp only; omega)
      exact this
    have e1 : (bhM (T a k) a).2.1 = n := by show (T a k).2.1 = n; rw [e]
    have e2 : (bhM (T a k) a).2.2.1 = n := h.n2
    have e3 : (T a (k + 1)).2 = (n, n, rw' a (k + 1)) := by
      show (bhM (T a k) a).2 = _
      refine Prod.ext e1 (Prod.ext e2 rfl)
    refine ⟨e3, ?_⟩
    have i2 : IsM (T a (k + 1)).2 := i2
    rw [e3] at i2
    exact i2
theorem T_p {n : Nat} {a : Mt} (h : Sq n a) (k : Nat) : MtP (T a k).2 := by
  obtain ⟨e, i⟩ := T_mt h k
  have : IsM (T a k).2 := by rw [e]; exact i
  exact this.p (by rw [e]; have := h.hi; simp only; omega) (by rw [e]; have := h.hi; simp only; omega)
theorem T_tot (a : Mt) : ∀ k, T a k = foldM (0, a) (List.replicate k a)
  | 0 => rfl
  | k + 1 => by
    rw [List.replicate_succ', foldM_snoc, ← T_tot a k]
    rfl
theorem chn_rep {n : Nat} {a : Mt} (h : Sq n a) : ∀ k, Chn n (List.replicate k a)
  | 0 => trivial
  | k + 1 => by
    have := h.hi
    refine ⟨h.n1, h.m, by rw [h.n1]; omega, by rw [h.n2]; omega, ?_⟩
    rw [h.n2]
    exact chn_rep h k
theorem T_add {n : Nat} {a : Mt} (h : Sq n a) (i j : Nat) : T a (i + j + 1) = ((T a i).1 + (T a j).1 + (bhM (0, (T a i).2) (T a j).2).1, (bhM (0, (T a i).2) (T a j).2).2) := by
  have c : Chn n ((a :: List.replicate i a) ++ (a :: List.replicate j a)) := by
    have : (a :: List.replicate i a) ++ (a :: List.replicate j a) = List.replicate ((i + 1) + (j + 1)) a := by
      rw [← List.replicate_succ, ← List.replicate_succ, List.replicate_append_replicate]
    rw [this]
    exact chn_rep h _
  have := (tot_split c).2
  have e1 : tot (a :: List.replicate i a) = T a i := (T_tot a i).symm
  have e2 : tot (a :: List.replicate j a) = T a j := (T_tot a j).symm
  have e3 : tot ((a :: List.replicate i a) ++ (a :: List.replicate j a)) = T a (i + j + 1) := by
    rw [T_tot a (i + j + 1)]
    show foldM (0, a) (List.replicate i a ++ a :: List.replicate j a) = _
    rw [← List.replicate_succ, List.replicate_append_replicate, Nat.add_assoc]
  rw [e1, e2, e3] at this
  exact this
theorem idL {n : Nat} {x : Mt} (h1 : x.1 = n) (h2 : x.2.1 = n) (hm : IsM x) : bhM (0, n, n, strR n) x = (0, x) := by
  obtain ⟨p, q, r⟩ := x
  have h1 : p = n := h1
  have h2 : q = n := h2
  subst h1
  subst h2
  have := bh_left (IsMat.prR hm)
  unfold bhM
  simp only
  rw [this]
  simp
theorem bhM_le (s x : Mt) : (bhM (0, s) x).1 ≤ s.2.1 := by
  have := bhL_le s.2.2 x.2.2 s.1 s.2.1 x.2.1
  unfold bhM
  simp only
  omega
def rowsT (a : Mt) (i : Nat) : List (List Nat) := (List.range (i + 1)).map (rw' a)
def Dst (a : Mt) (i : Nat) : Prop := (rowsT a i).Nodup
theorem Dst.inj {a : Mt} {J : Nat} (h : Dst a J) {i j : Nat} (hij : i < j) (hj : j ≤ J) : rw' a i ≠ rw' a j := by
  have nd := h
  unfold Dst rowsT List.Nodup at nd
  rw [List.pairwise_map, List.pairwise_iff_getElem] at nd
  have := nd i j (by simp; omega) (by simp; omega) hij
  simpa only [List.getElem_range] using this
theorem square_ok {n : Nat} {row : List Nat} : fn_p_check_square.sem [matD n n row] = some (.non, [some (matD n n row)]) := by
  have g0 := mat_0 n n row
  have g1 := mat_1 n n row
  unfold fn_p_check_square F_p_check_square
  rw [bodyFn_sem]
  generalize matD n n row = M at *
  simp [g0, g1]
def W (n : Nat) (a : Mt) : Nat → Nat × Mt
  | 0 => (0, n, n, strR n)
  | s + 1 => T a s
theorem str_mat {n : Nat} (h : 0 < n) : IsMat n n (strR n) := strR_mat h
theorem W_p {n : Nat} {a : Mt} (h : Sq n a) : ∀ s, MtP (W n a s).2 ∧ (W n a s).2.2.1 = n ∧ (W n a s).2.1 = n
  | 0 => by
    have hh := h.hi
    have i : IsM ((n, n, strR n) : Mt) := str_mat h.lo
    exact ⟨i.p (by simp only; omega) (by simp only; omega), rfl, rfl⟩
  | s + 1 => ⟨T_p h s, by show (T a s).2.2.1 = n; rw [(T_mt h s).1], by show (T a s).2.1 = n; rw [(T_mt h s).1]⟩
theorem chain_W {n : Nat} {a : Mt} (h : Sq n a) (s p : Nat) : fn_p_chained.sem [vlD (W n a s), vlD (T a p)] = some (vlD (W n a (s + (p + 1))), [some (vlD (W n a s)), some (vlD (T a p))]) := by
  obtain ⟨m1, m2, _⟩ := W_p h s
  obtain ⟨q1, q2⟩ := T_mt h p
  have c := chained_g m1 (T_p h p) (by rw [m2, q1])
  rw [c]
  congr 1
  congr 1
  congr 1
  cases s with
  | zero =>
    show ((bhM (0, n, n, strR n) (T a p).2).1 + (T a p).1, (bhM (0, n, n, strR n) (T a p).2).2) = T a (0 + p)
    have im : IsM (T a p).2 := by rw [q1]; exact q2
    rw [idL (by rw [q1]) (by rw [q1]) im]
    show (0 + (T a p).1, (T a p).2) = T a (0 + p)
    rw [Nat.zero_add, Nat.zero_add]
  | succ s =>
    show ((bhM (T a s) (T a p).2).1 + (T a p).1, (bhM (T a s) (T a p).2).2) = T a (s + 1 + p)
    rw [show s + 1 + p = s + p + 1 by omega, T_add h s p]
    have sh := bhM_shift (T a s).1 (0, (T a s).2) (T a p).2
    rw [Nat.zero_add] at sh
    have sh : bhM (T a s) (T a p).2 = _ := sh
    rw [sh]
    refine Prod.ext ?_ rfl
    simp only
    omega
def condP : FB := (bT (opF (gtD) [.b 1, .t (litF (.int 0))]))
def bodyPw : FS := (seqF (ifF (tstF (.t (opF bandD [.b 1, .t (litF (.int 1))]))) (asgF (callF fn_p_chained [.b 2, .b 3]) (tgN 2)) (passF)) <|
  seqF (asgF (callF fn_p_chained [.b 3, .b 3]) (tgN 3)) <|
  augF 1 ishrD (.t (litF (.int 1))))
theorem F_power_e : F_p_power = (
  seqF (dropF (callF fn_p_checked_mat [.b 0])) <|
  seqF (dropF (callF fn_p_check_square [.b 0])) <|
  seqF (ifF (bT (opF (ltD) [.b 1, .t (litF (.int 1))])) (neverF) (passF)) <|
  seqF (asgF (tupF [.t (litF (.int 0)), .t (callF fn_p_straight [.t (opF ixD [.b 0, .t (litF (.int 0))])])]) (tgN 2)) <|
  seqF (asgF (tupF [.t (litF (.int 0)), .t (varF 0)]) (tgN 3)) <|
  seqF (whF FUEL condP bodyPw) <|
  retF (movF 2)) := rfl
theorem P_loop {n : Nat} {a : Mt} (h : Sq n a) {A0 : Option D} : ∀ (k F r s p : Nat), r < 2 ^ k → k < F → ∃ z, goWhile condP bodyPw F [A0, some (.int (r : Nat)), some (vlD (W n a s)), some (vlD (T a p))] = some (.nx [A0, some (.int 0), some (vlD (W n a (s + r * (p + 1)))), z])
  | k, 0, _, _, _, _, hF => by omega
  | k, F + 1, r, s, p, hr, hF => by
    by_cases h0 : r = 0
    · subst h0
      refine ⟨some (vlD (T a p)), ?_⟩
      rw [Nat.zero_mul, Nat.add_zero]
      refine wh_f ?_
      unfold condP
      generalize vlD (W n a s) = V1 at *
      generalize vlD (T a p) = V2 at *
      simp
    · cases k with
      | zero => simp at hr; omega
      | succ k =>
        have hr2 : r / 2 < 2 ^ k := by rw [Nat.pow_succ] at hr; omega
        have c2 := chain_W h (p + 1) p
        have e2 : W n a (p + 1 + (p + 1)) = T a (2 * p + 1) := by
          show T a (p + 1 + p) = _
          rw [show p + 1 + p = 2 * p + 1 by omega]
        rw [e2] at c2
        have e1 : W n a (p + 1) = T a p := rfl
        rw [e1] at c2
        have pins : fn_p_chained.pins = [true, true] := rfl
        have n1 := noOwn_vlD (W n a s)
        have n2 := noOwn_vlD (T a p)
        have n4 := noOwn_vlD (T a (2 * p + 1))
        have gt : (0 : Int) < (r : Int) := by omega
        have gt' : 0 < r := by omega
        obtain ⟨r2, hr22⟩ : ∃ r2, r2 = r / 2 := ⟨_, rfl⟩
        have sh : ((r : Nat) : Int) / 2 = (r2 : Int) := by omega
        rw [← hr22] at hr2
        have cond : ∀ V1 V2 : D, condP [A0, some (.int (r : Nat)), some V1, some V2] = some (true, [A0, some (.int (r : Nat)), some V1, some V2]) := fun V1 V2 => by
          unfold condP
          simp [gt, gt']
        by_cases hb : r % 2 = 1
        · have c1 := chain_W h s p
          have n3 := noOwn_vlD (W n a (s + (p + 1)))
          obtain ⟨z, ih⟩ := P_loop h (A0 := A0) k F r2 (s + (p + 1)) (2 * p + 1) hr2 (by omega)
          refine ⟨z, ?_⟩
          have ar : s + (p + 1) + r2 * (2 * p + 1 + 1) = s + r * (p + 1) := by
            have : r = 2 * r2 + 1 := by omega
            conv => rhs; rw [this]
            rw [Nat.add_mul, Nat.one_mul, show 2 * p + 1 + 1 = 2 * (p + 1) by omega, ← Nat.mul_assoc, Nat.mul_comm r2 2]
            omega
          rw [ar] at ih
          rw [← ih]
          refine wh_t (cond _ _) ?_
          have bm : ((r : Nat) : Int) % 2 = 1 := by omega
          clear ih ar e1 e2 hr22
          unfold bodyPw
          generalize vlD (W n a (s + (p + 1))) = V3 at *
          generalize vlD (W n a s) = V1 at *
          generalize vlD (T a (2 * p + 1)) = V4 at *
          generalize vlD (T a p) = V2 at *
          simp [bm, c1, c2, sh, pins, n1, n2, n3, n4]
        · obtain ⟨z, ih⟩ := P_loop h (A0 := A0) k F r2 s (2 * p + 1) hr2 (by omega)
          refine ⟨z, ?_⟩
          have ar : s + r2 * (2 * p + 1 + 1) = s + r * (p + 1) := by
            have : r = 2 * r2 := by omega
            conv => rhs; rw [this]
            rw [show 2 * p + 1 + 1 = 2 * (p + 1) by omega, ← Nat.mul_assoc, Nat.mul_comm r2 2]
          rw [ar] at ih
          rw [← ih]
          refine wh_t (cond _ _) ?_
          have bm : ((r : Nat) : Int) % 2 = 0 := by omega
          clear ih ar e1 e2 hr22
          unfold bodyPw
          generalize vlD (W n a s) = V1 at *
          generalize vlD (T a (2 * p + 1)) = V4 at *
          generalize vlD (T a p) = V2 at *
          simp [bm, c2, sh, pins, n1, n2, n4]
theorem power_ok {n t : Nat} {a : Mt} (h : Sq n a) (ht : t < 2 ^ 40) : ∃ z, fn_p_power.sem [matD n n (rw' a 0), .int ((t + 1 : Nat) : Int)] = some (vlD (T a t), [some (matD n n (rw' a 0)), z]) := by
  have hh := h.hi
  have h1 := h.lo
  have ck := checked_ok (T_mt h 0).2 (by omega)
  have sq := square_ok (n := n) (row := rw' a 0)
  have ps := p_straight_ok (n := n) h1 (by omega)
  have g0 := mat_0 n n (rw' a 0)
  obtain ⟨z, lp⟩ := P_loop h (A0 := some (matD n n (rw' a 0))) 41 FUEL (t + 1) 0 0 (by
    have e : (2 : Nat) ^ 41 = 2 ^ 40 * 2 := by rw [← Nat.pow_succ]
    have : 0 < 2 ^ 40 := Nat.pow_pos (by omega)
    omega) (by unfold FUEL; omega)
  rw [show 0 + (t + 1) * (0 + 1) = t + 1 by omega] at lp
  have e1 : W n a (t + 1) = T a t := rfl
  have e2 : vlD (W n a 0) = .tup [.int 0, matD n n (strR n)] := rfl
  have e3 : vlD (T a 0) = .tup [.int 0, matD n n (rw' a 0)] := by
    have : T a 0 = (0, n, n, rw' a 0) := Prod.ext rfl (T_mt h 0).1
    rw [this]; rfl
  rw [e1, e2, e3] at lp
  refine ⟨none, ?_⟩
  have ge : ¬ ((t + 1 : Nat) : Int) < 1 := by omega
  have n1 := noOwn_matD n n (rw' a 0)
  have n2 := noOwn_matD n n (strR n)
  have n3 := noOwn_vlD (T a t)
  have p1 : fn_p_checked_mat.pins = [true] := rfl
  have p2 : fn_p_check_square.pins = [true] := rfl
  have p3 : fn_p_straight.pins = [true] := rfl
  unfold fn_p_power
  rw [bodyFn_sem, F_power_e]
  clear e1 e2 e3
  obtain ⟨ti, hti⟩ : ∃ ti : Int, ti = ((t + 1 : Nat) : Int) := ⟨_, rfl⟩
  rw [← hti] at lp ge ⊢
  clear hti
  generalize vlD (T a t) = V at *
  generalize matD n n (strR n) = M2 at *
  generalize matD n n (rw' a 0) = M1 at *
  simp [ck, sq, ps, g0, lp, ge, n1, n2, n3, p1, p2, p3]
end VS
set_option Elab.async false
set_option linter.all false
set_option maxRecDepth 100000
namespace VS
open PySem PySem.Spec PyProof.Rows L2 RZ
def bodyRR : FS := (seqF (asgF (opF addD [.b 2, .t (callF fn_links [.t (opF ixD [.b 0, .b 3]), .t (opF mulD [.t (opF mulD [.t (litF (.int 2)), .b 1]), .b 3])])]) (tgN 2)) <|
  seqF (asgF (opF mulD [.t (opF mulD [.t (litF (.int 2)), .b 1]), .t (opF modD [.t (opF intD [.t (opF addD [.b 3, .t (litF (.int 1))])]), .t (opF lenD [.b 0])])]) (tgN 4)) <|
  asgF (opF addD [.b 2, .t (lcF [5] (itRg rng1D [.b 1]) (tgN 5) (yesF) (tupF [.t (opF addD [.t (opF addD [.t (opF mulD [.t (opF mulD [.t (litF (.int 2)), .b 1]), .b 3]), .b 1]), .b 5]), .t (opF addD [.b 4, .b 5])]))]) (tgN 2))
theorem mul2_e (n b : Nat) : 2 * (n : Int) * (b : Int) = ((b * (n + n) : Nat) : Int) := by
  rw [Int.natCast_mul, Int.natCast_add, Int.mul_add, Int.mul_assoc, Int.mul_comm (n : Int) (b : Int)]
  omega
theorem RR_turn {n T a : Nat} {r : List Nat} {X : List D} {S : List (Nat × Nat)} (hl : r.length = n + n) (hn : n ≤ 8) (ha : a < T) (hT : T ≤ 10) (hx : atI X (a : Nat) = some (matD n n r)) (hX : X.length = T) (nX : noOwns X = true) (hS : S.length ≤ 1000) {A3 A4 : Option D} :
    ∃ B4, turn (tgN 3) bodyRR (natD a) [some (.lst true X), some (.int (n : Nat)), some (.lst true (S.map pr2)), A3, A4, none] = some (.nx [some (.lst true X), some (.int (n : Nat)), some (.lst true ((S ++ (shQ (a * (n + n)) (strQ (n + n) (rowF r)) ++ jnA n T a)).map pr2)), some (natD a), B4, none]) := by
  have mul_e := mul2_e n
  have hA := mul_e a
  have hB := mul_e ((a + 1) % T)
  have hm : ((a : Int) + 1).fmod (T : Int) = (((a + 1) % T : Nat) : Int) := by
    rw [Int.fmod_eq_emod_of_nonneg _ (by omega)]; rfl
  have hT0 : ¬ T = 0 := by omega
  have hb : (a + 1) % T < T := Nat.mod_lt _ (by omega)
  have mk1 : mulOk 2 (n : Int) = true := mulOk_l (by omega) (by omega)
  have mk2 : mulOk (2 * (n : Int)) (a : Int) = true := mulOk_l (by omega) (by omega)
  have mk3 : mulOk (2 * (n : Int)) (((a + 1) % T : Nat) : Int) = true := mulOk_l (by omega) (by omega)
  have lk := links_sh (n := n) (m := n) (row := r) (a * (n + n)) hl (by omega)
  have eshp : shP (a * (n + n)) (strP (n + n) (rowF r)) = shQ (a * (n + n)) (strQ (n + n) (rowF r)) := rfl
  rw [eshp] at lk
  have l1 : (shQ (a * (n + n)) (strQ (n + n) (rowF r))).length ≤ n + n := shP_len _ _ _
  have l2 : (jnA n T a).length = n := by unfold jnA; simp
  obtain ⟨P, hP⟩ : ∃ P, P = shQ (a * (n + n)) (strQ (n + n) (rowF r)) := ⟨_, rfl⟩
  rw [← hP] at lk l1 ⊢
  have n0 := noOwns_map noOwn_pr2 S
  have n1 := noOwns_map noOwn_pr2 P
  have n2 := noOwns_map noOwn_pr2 (jnA n T a)
  have n01 := noOwns_map noOwn_pr2 (S ++ P)
  have ad := addD_l (o := true) (o' := true) (xs := S.map pr2) (ys := P.map pr2) n0 n1 (by simp; omega)
  rw [← List.map_append] at ad
  have ad2 := addD_l (o := true) (o' := true) (xs := (S ++ P).map pr2) (ys := (jnA n T a).map pr2) n01 n2 (by simp; omega)
  rw [← List.map_append, List.append_assoc] at ad2
  have n3 := noOwns_map noOwn_pr2 (S ++ (P ++ jnA n T a))
  have r1 := rng1_nat (u := n) (by omega)
  have zJ : decide (((jnA n T a).map pr2).length ≤ smallL) = true := small_le (by simp; omega)
  obtain ⟨Aa, hAa⟩ : ∃ Aa : Nat, Aa = a * (n + n) := ⟨_, rfl⟩
  obtain ⟨Ba, hBa⟩ : ∃ Ba : Nat, Ba = (a + 1) % T * (n + n) := ⟨_, rfl⟩
  rw [← hAa] at hA lk
  rw [← hBa] at hB
  have nm := noOwn_matD n n r
  have lc : ∀ A : List (Option D), A = [some (.lst true X), some (.int (n : Nat)), some (.lst true ((S ++ P).map pr2)), some (.int (a : Nat)), some (.int (Ba : Nat)), none] → goLc [5] (tgN 5) yesF (tupF [.t (opF addD [.t (opF addD [.t (opF mulD [.t (opF mulD [.t (litF (.int 2)), .b 1]), .b 3]), .b 1]), .b 5]), .t (opF addD [.b 4, .b 5])]) ((List.range n).map natD) A = some ((jnA n T a).map pr2, A) := fun A hA' => by
    unfold jnA
    rw [List.map_map]
    refine goLc_mapI natD _ _ fun p hp => ?_
    subst hA'
    rw [lcTurn_e]
    show _ = some (pr2 (a * (n + n) + n + p, (a + 1) % T * (n + n) + p), _)
    rw [← hAa, ← hBa]
    unfold pr2 natD
    simp only [Int.natCast_add]
    clear ad ad2 lk n0 n1 n2 n01 n3 zJ
    generalize (S ++ P).map pr2 = Y at *
    simp [mk1, mk2, hA]
  have lc := lc _ rfl
  refine ⟨some (.int (Ba : Nat)), ?_⟩
  rw [turn_e]
  clear eshp hP hAa hBa l1 l2 mul_e
  generalize (a + 1) % T = b at *
  generalize (S ++ (P ++ jnA n T a)).map pr2 = Z at *
  generalize (S ++ P).map pr2 = Y at *
  generalize (jnA n T a).map pr2 = J at *
  generalize P.map pr2 = P' at *
  generalize S.map pr2 = S' at *
  generalize (List.range n).map natD = R at *
  generalize matD n n r = M at *
  have p1 : fn_links.pins = [true, true] := rfl
  unfold natD bodyRR
  simp [mk1, mk2, mk3, hA, hB, hm, hT0, hx, hX, nX, lk, ad, ad2, n0, n1, n2, n01, n3, r1, zJ, nm, lc, p1]
theorem F_row_rings_e : F_row_rings = (
  seqF (asgF (opF ixD [.t (opF ixD [.b 0, .t (litF (.int 0))]), .t (litF (.int 0))]) (tgN 1)) <|
  seqF (asgF (lstF []) (tgN 2)) <|
  seqF (forF (itRg rng1D [.t (opF lenD [.b 0])]) (tgN 3) bodyRR) <|
  retF (opF lenSetD [.t (callF fn_lots [.t (opF mulD [.t (opF mulD [.t (litF (.int 2)), .b 1]), .t (opF lenD [.b 0])]), .b 2])])) := rfl
theorem row_rings_ok {n u : Nat} {rs : List (List Nat)} (hp : PrL (n + n) rs) (hl : ∀ r ∈ rs, r.length = n + n) (hn : n ≤ 8) (hu : rs.length = u + 1) (hu2 : u < 8) : fn_row_rings.sem [.lst true (rs.map (matD n n))] = some (.int (rowM n rs : Nat), [some (.lst true (rs.map (matD n n)))]) := by
  have nX := noOwns_map (f := matD n n) (noOwn_matD n n) rs
  have lX : (rs.map (matD n n)).length = u + 1 := by rw [List.length_map, hu]
  have at_ : ∀ a : Nat, (h : a < rs.length) → atI (rs.map (matD n n)) (a : Nat) = some (matD n n rs[a]) := fun a h => by
    have := atI_mapN (f := matD n n) (xs := rs) (i := a) (z := []) h
    rw [List.getD_eq_getElem?_getD, List.getElem?_eq_getElem h] at this
    exact this
  obtain ⟨r0, a0, z0, nm⟩ : ∃ r0, atI (rs.map (matD n n)) ((0 : Nat) : Int) = some (matD n n r0) ∧ ixD [matD n n r0, .int 0] = some (.int (n : Nat)) ∧ noOwn (matD n n r0) = true := ⟨rs[0], at_ 0 (by omega), mat_0 n n _, noOwn_matD n n _⟩
  obtain ⟨ρ', g, a3, a4, rfl⟩ := for_inv (tg := tgN 3) (body := bodyRR) (ds := (List.range (u + 1)).map natD) (ρ := [some (.lst true (rs.map (matD n n))), some (.int (n : Nat)), some (.lst true []), none, none, none])
    (fun j ρ => ∃ a3 a4, ρ = [some (.lst true (rs.map (matD n n))), some (.int (n : Nat)), some (.lst true ((lnkR n (u + 1) 0 (rs.take j)).map pr2)), a3, a4, none])
    ⟨none, none, rfl⟩ (by
      rintro j d ρ hd ⟨a3, a4, rfl⟩
      rw [List.getElem?_map] at hd
      obtain ⟨j', hj', rfl⟩ := Option.map_eq_some_iff.mp hd
      obtain ⟨hj, e⟩ := List.getElem?_eq_some_iff.mp hj'
      rw [List.length_range] at hj
      obtain rfl : j' = j := by simpa using e.symm
      have lS : (lnkR n (u + 1) 0 (rs.take j')).length ≤ 1000 := by
        have h1 := lnkR_len n (u + 1) (rs.take j') 0
        have h2 : (rs.take j').length ≤ 8 := by rw [List.length_take]; omega
        have h3 : (rs.take j').length * (n + n + n) ≤ 8 * 24 := Nat.mul_le_mul h2 (by omega)
        omega
      obtain ⟨B4, t⟩ := RR_turn (n := n) (T := u + 1) (a := j') (r := rs[j']) (X := rs.map (matD n n)) (S := lnkR n (u + 1) 0 (rs.take j')) (hl _ (List.getElem_mem _)) hn hj (by omega) (at_ j' (by omega)) lX nX lS (A3 := a3) (A4 := a4)
      have e2 : lnkR n (u + 1) 0 (rs.take (j' + 1)) = lnkR n (u + 1) 0 (rs.take j') ++ (shQ (j' * (n + n)) (strQ (n + n) (rowF rs[j'])) ++ jnA n (u + 1) j') := by
        rw [List.take_add_one, List.getElem?_eq_getElem (by omega)]
        show lnkR n (u + 1) 0 (rs.take j' ++ [rs[j']]) = _
        rw [lnkR_snoc, List.length_take, Nat.min_eq_left (by omega), Nat.zero_add]
      rw [← e2] at t
      exact ⟨_, .inl t, _, _, rfl⟩)
  have kl : ((List.range (u + 1)).map natD).length = u + 1 := by simp
  rw [kl, List.take_of_length_le (by omega)] at g
  have lo := lots_ok (N := (u + 1) * (n + n)) (ps := lnkR n (u + 1) 0 rs) (by
    have : (u + 1) * (n + n) ≤ 8 * 16 := Nat.mul_le_mul (by omega) (by omega)
    omega) (lnkR_lt hp hu) (by
    have h1 := lnkR_len n (u + 1) rs 0
    have h3 : rs.length * (n + n + n) ≤ 8 * 24 := Nat.mul_le_mul (by omega) (by omega)
    omega)
  have s1 := lenSetD_e (o := true) (ns := (List.range ((u + 1) * (n + n))).map fun p => (((lkL id (lnkR n (u + 1) 0 rs)) p : Nat) : Int)) (by
    have : (u + 1) * (n + n) ≤ 8 * 16 := Nat.mul_le_mul (by omega) (by omega)
    simp
    omega)
  rw [← lab_ints] at s1
  have cnt : nMet ((List.range ((u + 1) * (n + n))).map fun p => (((lkL id (lnkR n (u + 1) 0 rs)) p : Nat) : Int)) = rowM n rs := by
    obtain ⟨l1, n1, m1, q1⟩ := nMet_spec ((List.range ((u + 1) * (n + n))).map fun p => (((lkL id (lnkR n (u + 1) 0 rs)) p : Nat) : Int))
    rw [q1]
    exact row_labels hp hu (lnkR_all hp hu) n1 m1
  rw [cnt] at s1
  have r1 := rng1_nat (u := u + 1) (by omega)
  have mk1 : mulOk 2 (n : Int) = true := mulOk_l (by omega) (by omega)
  have mk2 : mulOk (2 * (n : Int)) ((u : Int) + 1) = true := mulOk_l (by omega) (by omega)
  have hN : 2 * (n : Int) * ((u : Int) + 1) = (((u + 1) * (n + n) : Nat) : Int) := by
    have := mul2_e n (u + 1)
    rwa [Int.natCast_succ] at this
  obtain ⟨N, hNN⟩ : ∃ N : Nat, N = (u + 1) * (n + n) := ⟨_, rfl⟩
  rw [← hNN] at hN lo s1
  have n1 := noOwns_map noOwn_pr2 (lnkR n (u + 1) 0 rs)
  have no := noOwns_labD N (lkL id (lnkR n (u + 1) 0 rs))
  have p2 : fn_lots.pins = [true, true] := rfl
  unfold fn_row_rings
  rw [F_row_rings_e, bodyFn_sem]
  clear cnt at_ kl
  rw [Int.natCast_succ] at r1
  generalize rowM n rs = RM at *
  generalize labD N (lkL id (lnkR n (u + 1) 0 rs)) = LL at *
  generalize (lnkR n (u + 1) 0 rs).map pr2 = SS at *
  generalize (List.range (u + 1)).map natD = RR at *
  generalize rs.map (matD n n) = X at *
  generalize matD n n r0 = M at *
  have a0 : atI X 0 = some M := a0
  generalize bodyRR = BB at *
  simp [nX, lX, a0, z0, nm, r1, g, lo, s1, mk1, mk2, hN, n1, no, p2]
end VS
set_option Elab.async false
set_option linter.all false
set_option maxRecDepth 100000
namespace VS
open PySem PySem.Spec PyProof.Rows L2 RZ
variable {n : Nat} {a : List Nat}
theorem sq_of (h : IsMat n n a) (h0 : 0 < n) (h8 : n ≤ 8) : Sq n (n, n, a) := ⟨rfl, rfl, h, h0, h8⟩
theorem rw_pw (n : Nat) (a : List Nat) : ∀ k, (T (n, n, a) k).2 = (n, n, pwR n a k)
  | 0 => rfl
  | k + 1 => by
    show (bhM (T (n, n, a) k) (n, n, a)).2 = _
    unfold bhM
    rw [rw_pw n a k]
    rfl
/-- the rings of the power -/
def pwN (n : Nat) (a : List Nat) (k : Nat) : Nat := (T (n, n, a) k).1
theorem pwN_succ (n : Nat) (a : List Nat) (k : Nat) : pwN n a (k + 1) = pwN n a k + (bhL (pwR n a k) a n n n).1 := by
  show (bhM (T (n, n, a) k) (n, n, a)).1 = _
  unfold bhM pwN
  rw [rw_pw n a k]
/-- the power, closed -/
def cpw (n : Nat) (a : List Nat) (t : Nat) : Nat := pwN n a t + (clS n (pwR n a t) 0 n).1
theorem row_cpw (h : Pr (n + n) (rowF a)) (t : Nat) : rowM n (List.replicate (t + 1) a) = cpw n a t := by
  obtain ⟨r, e1, e2⟩ := rowM_rest h t 0
  have := e2 (pwN n a) (fun i => pwN_succ n a i)
  rw [Nat.zero_add] at e1 this
  have z : pwN n a 0 = 0 := rfl
  rw [z, Nat.zero_add] at this
  unfold cpw
  rw [this]
  exact e1
theorem stay_all {s : Nat} (hs : pwR n a (s + 1) = pwR n a s) : ∀ k, pwR n a (s + k) = pwR n a s
  | 0 => rfl
  | k + 1 => by
    show (bhL (pwR n a (s + k)) a n n n).2 = _
    rw [stay_all hs k]
    exact hs
theorem stay_cpw {s : Nat} (hs : pwR n a (s + 1) = pwR n a s) (k : Nat) : cpw n a (s + k) = pwN n a s + (bhL (pwR n a s) a n n n).1 * k + (clS n (pwR n a s) 0 n).1 := by
  unfold cpw
  rw [stay_all hs k]
  congr 1
  induction k with
  | zero => simp
  | succ k ih =>
    show pwN n a (s + k + 1) = _
    rw [pwN_succ, ih, stay_all hs k, Nat.mul_succ]
    omega
theorem closed_power_ok (h : IsMat n n a) (h0 : 0 < n) (h8 : n ≤ 8) {t : Nat} (ht : t < 2 ^ 30) : fn_p_closed_power.sem [matD n n a, .int ((t + 1 : Nat) : Int)] = some (.int (cpw n a t : Nat), [some (matD n n a), some (.int ((t + 1 : Nat) : Int))]) := by
  have sq := sq_of h h0 h8
  obtain ⟨z, pw⟩ := power_ok (t := t) sq (Nat.lt_of_lt_of_le ht (by decide))
  rw [show rw' (n, n, a) 0 = a from rfl] at pw
  have e1 : vlD (T (n, n, a) t) = .tup [.int (pwN n a t : Nat), matD n n (pwR n a t)] := by
    unfold vlD mtD
    rw [rw_pw]
    rfl
  rw [e1] at pw
  have mp := pwR_mat h h0 t
  have rc := rings_closed_ok (n := n) (row := pwR n a t) mp.len mp.pr h8
  have nm := noOwn_matD n n (pwR n a t)
  have nm0 := noOwn_matD n n a
  have p1 : fn_p_power.pins = [true, false] := rfl
  have p2 : fn_p_rings_closed.pins = [true] := rfl
  unfold cpw
  rw [Int.natCast_add (pwN n a t)]
  unfold fn_p_closed_power F_p_closed_power
  rw [bodyFn_sem]
  generalize (clS n (pwR n a t) 0 n).1 = c at *
  generalize pwN n a t = q at *
  generalize matD n n (pwR n a t) = M at *
  generalize matD n n a = M0 at *
  generalize ((t + 1 : Nat) : Int) = tt at *
  simp [pw, rc, nm, nm0, p1, p2]
def bodyPR : FS := (seqF (asgF (callF fn_behind [.b 2, .b 0]) (tgT 2 (tgCons (tgN 5) (tgCons (tgN 6) (tgNil))))) <|
  seqF (ifF (bT (opF (eqD) [.b 6, .b 2])) (retF (opF addD [.t (opF addD [.b 3, .t (opF mulD [.b 5, .t (opF subD [.b 1, .b 4])])]), .t (callF fn_row_rings [.t (lstF [.t (varF 2)])])])) (passF)) <|
  parF [2, 3] [.t (varF 6), .t (opF addD [.b 3, .b 5])])
theorem F_power_rings_e : F_power_rings = (
  seqF (parF [2, 3] [.t (varF 0), .t (litF (.int 0))]) <|
  seqF (forF (itRg rng2D [.t (litF (.int 1)), .t (opF min2D [.b 1, .t (litF (.int 12))])]) (tgN 4) bodyPR) <|
  retF (opF addD [.b 3, .t (callF fn_row_rings [.t (lstF [.t (varF 2)])])])) := rfl
theorem one_rings (h : IsMat n n a) (h8 : n ≤ 8) : fn_row_rings.sem [.lst true [matD n n a]] = some (.int ((clS n a 0 n).1 : Nat), [some (.lst true [matD n n a])]) := by
  have hp : PrL (n + n) [a] := fun r hr => by
    obtain rfl := List.mem_singleton.mp hr
    exact h.pr
  have := row_rings_ok (n := n) (u := 0) (rs := [a]) hp (fun r hr => by
    obtain rfl := List.mem_singleton.mp hr
    exact h.len) h8 rfl (by omega)
  rw [rowM_one h.pr] at this
  exact this
theorem PR_turn (h : IsMat n n a) (h0 : 0 < n) (h8 : n ≤ 8) {j t : Nat} (hj : j < t) (ht : t < 2 ^ 30) (hj2 : j < 20) {A4 A5 A6 : Option D} :
    ∃ B5 B6, turn (tgN 4) bodyPR (natD (1 + j)) [some (matD n n a), some (.int ((t + 1 : Nat) : Int)), some (matD n n (pwR n a j)), some (.int (pwN n a j : Nat)), A4, A5, A6] = some (if pwR n a (j + 1) = pwR n a j then .rt (.int (cpw n a t : Nat)) [some (matD n n a), some (.int ((t + 1 : Nat) : Int)), some (matD n n (pwR n a j)), some (.int (pwN n a j : Nat)), some (natD (1 + j)), B5, B6] else .nx [some (matD n n a), some (.int ((t + 1 : Nat) : Int)), some (matD n n (pwR n a (j + 1))), some (.int (pwN n a (j + 1) : Nat)), some (natD (1 + j)), B5, B6]) := by
  have mp := pwR_mat h h0 j
  have mp1 := pwR_mat h h0 (j + 1)
  have bk := behind_ok (n := n) (m := n) (k := n) (ra := pwR n a j) (rh := a) mp.len h.len mp.pr h.pr (by omega)
  rw [show (bhL (pwR n a j) a n n n).2 = pwR n a (j + 1) from rfl] at bk
  have rc := one_rings mp h8
  have nm := noOwn_matD n n (pwR n a j)
  have nm1 := noOwn_matD n n (pwR n a (j + 1))
  have nm0 := noOwn_matD n n a
  have dq := deq_matG n n (pwR n a (j + 1)) (pwR n a j)
  have q1 := eqOk_matG n n (pwR n a j)
  have q2 := eqOk_matG n n (pwR n a (j + 1))
  have p1 : fn_behind.pins = [true, true] := rfl
  have p2 : fn_row_rings.pins = [true] := rfl
  have ps := pwN_succ n a j
  have hg : (bhL (pwR n a j) a n n n).1 ≤ n := by
    have := bhM_le (n, n, pwR n a j) (n, n, a)
    unfold bhM at this
    rw [Nat.zero_add] at this
    exact this
  rw [turn_e]
  by_cases c : pwR n a (j + 1) = pwR n a j
  · have cc := stay_cpw c (t - j)
    rw [show j + (t - j) = t by omega] at cc
    obtain ⟨k, hk⟩ : ∃ k : Nat, k = t - j := ⟨_, rfl⟩
    have ek : ((t + 1 : Nat) : Int) - (1 + (j : Int)) = (k : Nat) := by omega
    have mk : mulOk (((bhL (pwR n a j) a n n n).1 : Nat) : Int) ((k : Nat) : Int) = true := mulOk_l (by omega) (by
      have : t < 2 ^ 30 := ht
      omega)
    rw [← hk] at cc
    have ev : ((cpw n a t : Nat) : Int) = (pwN n a j : Int) + ((bhL (pwR n a j) a n n n).1 : Int) * (k : Int) + ((clS n (pwR n a j) 0 n).1 : Int) := by
      rw [cc, Int.natCast_add, Int.natCast_add, Int.natCast_mul]
    refine ⟨some (.int ((bhL (pwR n a j) a n n n).1 : Nat)), some (matD n n (pwR n a (j + 1))), ?_⟩
    rw [if_pos c, ev]
    rw [c] at bk dq ⊢
    have dq : deq (matD n n (pwR n a j)) (matD n n (pwR n a j)) = true := by rw [dq]; exact decide_eq_true rfl
    clear cc ev ps nm1 q2
    generalize (bhL (pwR n a j) a n n n).1 = g at *
    generalize (clS n (pwR n a j) 0 n).1 = cl at *
    generalize pwN n a j = q at *
    generalize matD n n (pwR n a j) = M at *
    generalize matD n n a = M0 at *
    unfold natD bodyPR
    rw [Int.natCast_add 1 j]
    generalize ((t + 1 : Nat) : Int) = tt at *
    have ek : tt - (1 + (j : Int)) = (k : Nat) := ek
    simp [bk, rc, nm, nm0, dq, q1, p1, p2, mk, ek]
  · refine ⟨some (.int ((bhL (pwR n a j) a n n n).1 : Nat)), some (matD n n (pwR n a (j + 1))), ?_⟩
    rw [if_neg c, ps, Int.natCast_add]
    have dq : deq (matD n n (pwR n a (j + 1))) (matD n n (pwR n a j)) = false := by rw [dq]; exact decide_eq_false c
    clear ps
    generalize (bhL (pwR n a j) a n n n).1 = g at *
    generalize pwN n a j = q at *
    generalize matD n n (pwR n a (j + 1)) = M1 at *
    generalize matD n n (pwR n a j) = M at *
    generalize matD n n a = M0 at *
    unfold natD bodyPR
    generalize ((t + 1 : Nat) : Int) = tt at *
    simp [bk, rc, nm, nm1, nm0, dq, q1, q2, p1, p2]
theorem power_rings_ok (h : IsMat n n a) (h0 : 0 < n) (h8 : n ≤ 8) {t : Nat} (ht : t < 2 ^ 30) : fn_power_rings.sem [matD n n a, .int ((t + 1 : Nat) : Int)] = some (.int (cpw n a t : Nat), [some (matD n n a), some (.int ((t + 1 : Nat) : Int))]) := by
  obtain ⟨m, hm⟩ : ∃ m : Nat, m = min t 11 := ⟨_, rfl⟩
  have hm1 : m ≤ t := by omega
  have hm2 : m ≤ 11 := by omega
  have key := for_ret (tg := tgN 4) (body := bodyPR) (ds := (List.range m).map fun i => natD (1 + i)) (ρ := [some (matD n n a), some (.int ((t + 1 : Nat) : Int)), some (matD n n a), some (.int 0), none, none, none])
    (fun j ρ => (∀ i, i < j → pwR n a (i + 1) ≠ pwR n a i) ∧ ∃ a4 a5 a6, ρ = [some (matD n n a), some (.int ((t + 1 : Nat) : Int)), some (matD n n (pwR n a j)), some (.int (pwN n a j : Nat)), a4, a5, a6])
    (fun v ρ => v = .int (cpw n a t : Nat) ∧ ∃ a2 a3 a4 a5 a6, ρ = [some (matD n n a), some (.int ((t + 1 : Nat) : Int)), a2, a3, a4, a5, a6])
    ⟨fun i hi => by omega, none, none, none, rfl⟩ (by
      rintro j d ρ hd ⟨hne, a4, a5, a6, rfl⟩
      rw [List.getElem?_map] at hd
      obtain ⟨j', hj', rfl⟩ := Option.map_eq_some_iff.mp hd
      obtain ⟨hj, e⟩ := List.getElem?_eq_some_iff.mp hj'
      rw [List.length_range] at hj
      obtain rfl : j' = j := by simpa using e.symm
      obtain ⟨B5, B6, tn⟩ := PR_turn h h0 h8 (j := j') (t := t) (by omega) ht (by omega) (A4 := a4) (A5 := a5) (A6 := a6)
      by_cases c : pwR n a (j' + 1) = pwR n a j'
      · rw [if_pos c] at tn
        exact .inr ⟨_, _, tn, rfl, _, _, _, _, _, rfl⟩
      · rw [if_neg c] at tn
        refine .inl ⟨_, tn, fun i hi => ?_, _, _, _, rfl⟩
        by_cases ci : i = j'
        · rw [ci]; exact c
        · exact hne i (by omega))
  have r2 : rng2D [.int 1, .int ((m : Int) + 1)] = some ((List.range m).map fun i => natD (1 + i)) := by
    have := rng2_nat (lo := 1) (n := m) (by omega) (by omega)
    rw [show ((1 : Nat) : Int) + (m : Int) = (m : Int) + 1 by omega] at this
    exact this
  have mn : min2D [.int ((t + 1 : Nat) : Int), .int 12] = some (.int ((m : Int) + 1)) := by
    have : ((m : Int) + 1) = if (12 : Int) < ((t + 1 : Nat) : Int) then 12 else ((t + 1 : Nat) : Int) := by split <;> omega
    rw [this]
    simp
  have nm0 := noOwn_matD n n a
  unfold fn_power_rings
  rw [F_power_rings_e, bodyFn_sem]
  rcases key with ⟨ρ', g, hne, a4, a5, a6, rfl⟩ | ⟨v, ρ', g, rfl, a2, a3, a4, a5, a6, rfl⟩
  · have kl : ((List.range m).map fun i => natD (1 + i)).length = m := by simp
    rw [kl] at g hne
    have et : m = t := by
      obtain ⟨s, hs, e⟩ := pwR_stays h h0 h8
      refine Classical.byContradiction fun c => hne s (by omega) e
    subst et
    have mp := pwR_mat h h0 m
    have rc := one_rings mp h8
    have nm := noOwn_matD n n (pwR n a m)
    have p2 : fn_row_rings.pins = [true] := rfl
    unfold cpw
    rw [Int.natCast_add (pwN n a m)]
    generalize (List.range m).map (fun i => natD (1 + i)) = R at *
    generalize (clS n (pwR n a m) 0 n).1 = cl at *
    generalize pwN n a m = q at *
    generalize matD n n (pwR n a m) = M at *
    generalize matD n n a = M0 at *
    generalize ((m + 1 : Nat) : Int) = tt at *
    generalize bodyPR = BB at *
    simp [r2, mn, nm0, nm, g, rc, p2, small_le (n := 1) (by omega)]
  · generalize (List.range m).map (fun i => natD (1 + i)) = R at *
    generalize cpw n a t = q at *
    generalize matD n n a = M0 at *
    generalize ((t + 1 : Nat) : Int) = tt at *
    generalize bodyPR = BB at *
    simp [r2, mn, nm0, g, small_le (n := 1) (by omega)]
end VS
set_option Elab.async false
set_option linter.all false
set_option maxRecDepth 100000
namespace VS
open PySem PySem.Spec PyProof.Rows L2 RZ
theorem nat_lt {i : Int} {k : Nat} (h : 0 ≤ i) (h2 : i < k) : ∃ s : Nat, i = (s : Nat) ∧ s < k := ⟨i.toNat, by omega, by omega⟩
theorem same_int (i : Int) : fn_same.sem [.int i, .int i] = some (.bl true, [some (.int i), some (.int i)]) := same_ok19 (k := 0) (.int i) (by omega)
theorem pw6 : powOk 10 6 = true := by decide +kernel
theorem two_mat (h : IsMat n n a) (h0 : 0 < n) {b : List Nat} (h2 : IsMat n n b) : IsMat n n (bhL a b n n n).2 := bh_mat h h2 (by omega)
/-- both ways as many -/
theorem both_ways {n : Nat} {a b : List Nat} (ha : Pr (n + n) (rowF a)) (hb : Pr (n + n) (rowF b)) (t : Nat) : cpw n (bhL a b n n n).2 t + (bhL a b n n n).1 * (t + 1) = cpw n (bhL b a n n n).2 t + (bhL b a n n n).1 * (t + 1) := by
  have e1 := rowM_two ha hb (t + 1)
  have e2 := rowM_two hb ha (t + 1)
  rw [row_cpw (bhL_pr ha hb)] at e1
  rw [row_cpw (bhL_pr hb ha)] at e2
  have e3 := rowM_swap ha hb (t + 1)
  rw [Nat.mul_comm (bhL a b n n n).1, Nat.mul_comm (bhL b a n n n).1]
  omega
theorem twoL_len (a b : List Nat) : ∀ k, (twoL a b k).length = 2 * k
  | 0 => rfl
  | k + 1 => by
    show (twoL a b k).length + 1 + 1 = _
    rw [twoL_len a b k]; omega
theorem two_flat (x y : D) (a b : List Nat) (f : List Nat → D) (hx : f a = x) (hy : f b = y) : ∀ k, (List.replicate k [x, y]).flatten = (twoL a b k).map f
  | 0 => rfl
  | k + 1 => by
    rw [List.replicate_succ, List.flatten_cons, two_flat x y a b f hx hy k]
    show x :: y :: _ = f a :: f b :: _
    rw [hx, hy]
    rfl
theorem one_flat (x : D) (a : List Nat) (f : List Nat → D) (hx : f a = x) : ∀ k, (List.replicate k [x]).flatten = (List.replicate k a).map f
  | 0 => rfl
  | k + 1 => by
    rw [List.replicate_succ, List.flatten_cons, one_flat x a f hx k, List.replicate_succ, List.map_cons, hx]
    rfl
variable {n : Nat} {a b : List Nat}
theorem lrow_ok (h : IsMat n n a) (h8 : n ≤ 8) {s : Nat} (hs : s < 6) : mulD [.lst true [matD n n a], .int ((s + 1 : Nat) : Int)] = some (.lst true ((List.replicate (s + 1) a).map (matD n n))) ∧ fn_row_rings.sem [.lst true ((List.replicate (s + 1) a).map (matD n n))] = some (.int (cpw n a s : Nat), [some (.lst true ((List.replicate (s + 1) a).map (matD n n)))]) := by
  constructor
  · rw [mulD_n (by simp [noOwn_matD]) (by omega) (by omega) (by simp; omega), Int.toNat_natCast, one_flat _ a (matD n n) rfl]
  · have hp : PrL (n + n) (List.replicate (s + 1) a) := fun r hr => by
      obtain rfl := List.eq_of_mem_replicate hr
      exact h.pr
    have := row_rings_ok (n := n) (u := s) hp (fun r hr => by
      obtain rfl := List.eq_of_mem_replicate hr
      exact h.len) h8 (by simp) (by omega)
    rw [row_cpw h.pr] at this
    exact this
theorem ltwo_ok (h : IsMat n n a) (h2 : IsMat n n b) (h8 : n ≤ 8) {s : Nat} (hs : s < 3) : mulD [.lst true [matD n n a, matD n n b], .int ((s + 1 : Nat) : Int)] = some (.lst true ((twoL a b (s + 1)).map (matD n n))) ∧ fn_row_rings.sem [.lst true ((twoL a b (s + 1)).map (matD n n))] = some (.int (((s + 1) * (bhL a b n n n).1 + cpw n (bhL a b n n n).2 s : Nat) : Int), [some (.lst true ((twoL a b (s + 1)).map (matD n n)))]) := by
  constructor
  · rw [mulD_n (by simp [noOwn_matD]) (by omega) (by omega) (by simp; omega), Int.toNat_natCast, two_flat _ _ a b (matD n n) rfl rfl]
  · have hl : ∀ k, ∀ r ∈ twoL a b k, r.length = n + n := by
      intro k
      induction k with
      | zero => intro r hr; cases hr
      | succ k ih =>
        intro r hr
        rcases List.mem_cons.mp hr with rfl | hr
        · exact h.len
        · rcases List.mem_cons.mp hr with rfl | hr
          · exact h2.len
          · exact ih r hr
    have := row_rings_ok (n := n) (u := 2 * s + 1) (twoL_pr h.pr h2.pr (s + 1)) (hl _) h8 (by rw [twoL_len]; omega) (by omega)
    rw [rowM_two h.pr h2.pr, row_cpw (bhL_pr h.pr h2.pr)] at this
    exact this
/-! the law's head -/
theorem head_A {w : D} (hw : Wok 1000 w) : ∃ (n s : Nat) (a b : List Nat) (w' : D), IsMat n n a ∧ IsMat n n b ∧ n ≤ 8 ∧ 0 < n ∧ s < 6 ∧ Wok 500 w' ∧ ∀ C : FS, (seqF (asgF (opF addD [.t (litF (.int 1)), .t (callF fn_next [.b 0, .t (litF (.int 8))])]) (tgN 1)) <|
  seqF (parF [2, 3] [.t (callF fn_mat [.b 0, .b 1, .b 1]), .t (callF fn_mat [.b 0, .b 1, .b 1])]) <|
  seqF (asgF (opF addD [.t (litF (.int 1)), .t (callF fn_next [.b 0, .t (litF (.int 6))])]) (tgN 4)) <| C) [some w, none, none, none, none, none, none, none, none, none, none, none] = C [some w', some (.int (n : Nat)), some (matD n n a), some (matD n n b), some (.int ((s + 1 : Nat) : Int)), none, none, none, none, none, none, none] := by
  obtain ⟨v, w1, e1, a1, b1, k1⟩ := next_ok (N := 999) (lim := 8) hw (by omega) (by omega)
  obtain ⟨n', rfl, hn⟩ := nat_lt (k := 8) a1 (by omega)
  have e0 : 1 + (n' : Int) = ((1 + n' : Nat) : Int) := by omega
  obtain ⟨n, hn2⟩ : ∃ n, n = 1 + n' := ⟨_, rfl⟩
  rw [← hn2] at e0
  obtain ⟨qs, w2, e2, k2, nc⟩ := lmat_ok (K := 800) (n := n) (m := n) (k1.le (by omega)) ⟨n, by omega⟩ (by omega)
  have m1 : IsMat n n (M n n (spotP n n qs)) := Mq_mat nc (by omega)
  generalize M n n (spotP n n qs) = a at *
  obtain ⟨qs2, w3, e3, k3, nc2⟩ := lmat_ok (K := 600) (n := n) (m := n) (k2.le (by omega)) ⟨n, by omega⟩ (by omega)
  have m2 : IsMat n n (M n n (spotP n n qs2)) := Mq_mat nc2 (by omega)
  generalize M n n (spotP n n qs2) = b at *
  obtain ⟨v4, w4, e4, a4, b4, k4⟩ := next_ok (N := 599) (lim := 6) k3 (by omega) (by omega)
  obtain ⟨s, rfl, hs⟩ := nat_lt (k := 6) a4 (by omega)
  have es : 1 + (s : Int) = ((s + 1 : Nat) : Int) := by omega
  have o0 := hw.own
  have o1 := k1.own
  have o2 := k2.own
  have o3 := k3.own
  have o4 := k4.own
  have nA := noOwn_matD n n a
  have nB := noOwn_matD n n b
  have p1 : fn_next.pins = [true, true] := rfl
  have p2 : fn_mat.pins = [true, true, true] := rfl
  refine ⟨n, s, a, b, w4, m1, m2, by omega, by omega, hs, k4.le (by omega), fun C => ?_⟩
  generalize matD n n a = MA at *
  generalize matD n n b = MB at *
  generalize ((s + 1 : Nat) : Int) = ss at *
  simp [e0, e1, e2, e3, e4, es, o0, o1, o2, o3, o4, nA, nB, p1, p2, putB_t1]
theorem head_B {w : D} (ow : noOwn w = false) (ha : IsMat n n a) (hb : IsMat n n b) (h0 : 0 < n) (h8 : n ≤ 8) {s : Nat} (hs : s < 6) (C : FS) : (seqF (asgF (callF fn_row_rings [.t (opF mulD [.t (lstF [.t (varF 2)]), .b 4])]) (tgN 5)) <|
  seqF (ifF (orF (notF (tstF (.t (callF fn_same [.t (callF fn_p_closed_power [.b 2, .b 4]), .b 5])))) (notF (tstF (.t (callF fn_same [.t (callKF fn_p_closed_power [1, 0] [.b 4, .b 2]), .b 5]))))) (retF (litF (.bl false))) (passF)) <| C) [some w, some (.int (n : Nat)), some (matD n n a), some (matD n n b), some (.int ((s + 1 : Nat) : Int)), none, none, none, none, none, none, none] = C [some w, some (.int (n : Nat)), some (matD n n a), some (matD n n b), some (.int ((s + 1 : Nat) : Int)), some (.int (cpw n a s : Nat)), none, none, none, none, none, none] := by
  obtain ⟨m1, m2⟩ := lrow_ok ha h8 hs
  have cp := closed_power_ok ha h0 h8 (t := s) (by omega)
  have sm := same_int (cpw n a s : Nat)
  have nA := noOwn_matD n n a
  have nB := noOwn_matD n n b
  have nL : noOwns ((List.replicate (s + 1) a).map (matD n n)) = true := noOwns_map (noOwn_matD n n) _
  have p1 : fn_row_rings.pins = [true] := rfl
  have p2 : fn_p_closed_power.pins = [true, true] := rfl
  have p3 : fn_same.pins = [true, true] := rfl
  generalize (List.replicate (s + 1) a).map (matD n n) = LL at *
  generalize matD n n a = MA at *
  generalize matD n n b = MB at *
  generalize ((s + 1 : Nat) : Int) = ss at *
  generalize ((cpw n a s : Nat) : Int) = cc at *
  simp [m1, m2, cp, sm, nA, nB, nL, p1, p2, p3, ow, putB_t1, small_le (n := 1) (by omega)]
theorem head_C {w : D} (hw : Wok 500 w) (ha : IsMat n n a) (hb : IsMat n n b) {A4 A5 : Option D} : ∃ (t : Nat) (w' : D), t < 2 ^ 30 ∧ Wok 400 w' ∧ ∀ C : FS, (seqF (asgF (opF ixD [.t (lstF [.t (opF powD [.t (litF (.int 10)), .t (litF (.int 6))]), .t (opF addD [.t (litF (.int 1)), .t (callF fn_next [.b 0, .t (opF powD [.t (litF (.int 10)), .t (litF (.int 6))])])]), .t (opF addD [.t (litF (.int 1)), .t (callF fn_next [.b 0, .t (litF (.int 40))])])]), .t (callF fn_next [.b 0, .t (litF (.int 3))])]) (tgN 4)) <| C) [some w, some (.int (n : Nat)), some (matD n n a), some (matD n n b), A4, A5, none, none, none, none, none, none] = C [some w', some (.int (n : Nat)), some (matD n n a), some (matD n n b), some (.int ((t + 1 : Nat) : Int)), A5, none, none, none, none, none, none] := by
  obtain ⟨v1, w1, e1, a1, b1, k1⟩ := next_ok (N := 499) (lim := 1000000) hw (by omega) (by omega)
  obtain ⟨v2, w2, e2, a2, b2, k2⟩ := next_ok (N := 498) (lim := 40) k1 (by omega) (by omega)
  obtain ⟨v3, w3, e3, a3, b3, k3⟩ := next_ok (N := 497) (lim := 3) k2 (by omega) (by omega)
  have key : ∃ t : Nat, t < 2 ^ 30 ∧ atI [D.int 1000000, D.int (1 + v1), D.int (1 + v2)] v3 = some (.int ((t + 1 : Nat) : Int)) := by
    have : v3 = 0 ∨ v3 = 1 ∨ v3 = 2 := by omega
    rcases this with rfl | rfl | rfl
    · exact ⟨999999, by decide, by simp [atI]⟩
    · obtain ⟨t, rfl⟩ : ∃ t : Nat, v1 = (t : Nat) := ⟨v1.toNat, by omega⟩
      exact ⟨t, by omega, by simp [atI]; omega⟩
    · obtain ⟨t, rfl⟩ : ∃ t : Nat, v2 = (t : Nat) := ⟨v2.toNat, by omega⟩
      exact ⟨t, by omega, by simp [atI]; omega⟩
  obtain ⟨t, ht, key⟩ := key
  have o0 := hw.own
  have o1 := k1.own
  have o2 := k2.own
  have o3 := k3.own
  have nA := noOwn_matD n n a
  have nB := noOwn_matD n n b
  have p1 : fn_next.pins = [true, true] := rfl
  have pw := pw6
  refine ⟨t, w3, ht, k3.le (by omega), fun C => ?_⟩
  generalize matD n n a = MA at *
  generalize matD n n b = MB at *
  generalize ((t + 1 : Nat) : Int) = tt at *
  simp [e1, e2, e3, key, o0, o1, o2, o3, nA, nB, p1, pw, putB_t1, small_le (n := 3) (by omega)]
theorem head_D {w : D} (hw : Wok 400 w) (ha : IsMat n n a) (hb : IsMat n n b) (h0 : 0 < n) (h8 : n ≤ 8) {t : Nat} (ht : t < 2 ^ 30) {A5 : Option D} : ∃ (b' : List Nat) (w' : D), IsMat n n b' ∧ Wok 300 w' ∧ ∀ C : FS, (seqF (ifF (notF (tstF (.t (callF fn_same [.t (callF fn_p_closed_power [.b 3, .b 4]), .t (callF fn_power_rings [.b 3, .b 4])])))) (retF (litF (.bl false))) (passF)) <|
  seqF (ifF (bT (opF (eqD) [.t (callF fn_next [.b 0, .t (litF (.int 6))]), .t (litF (.int 5))])) (asgF (varF 2) (tgN 3)) (passF)) <| C) [some w, some (.int (n : Nat)), some (matD n n a), some (matD n n b), some (.int ((t + 1 : Nat) : Int)), A5, none, none, none, none, none, none] = C [some w', some (.int (n : Nat)), some (matD n n a), some (matD n n b'), some (.int ((t + 1 : Nat) : Int)), A5, none, none, none, none, none, none] := by
  obtain ⟨v1, w1, e1, a1, b1, k1⟩ := next_ok (N := 399) (lim := 6) hw (by omega) (by omega)
  have cp := closed_power_ok hb h0 h8 ht
  have pr := power_rings_ok hb h0 h8 ht
  have sm := same_int (cpw n b t : Nat)
  have o0 := hw.own
  have o1 := k1.own
  have nA := noOwn_matD n n a
  have nB := noOwn_matD n n b
  have p1 : fn_next.pins = [true, true] := rfl
  have p2 : fn_p_closed_power.pins = [true, true] := rfl
  have p3 : fn_same.pins = [true, true] := rfl
  have p4 : fn_power_rings.pins = [true, true] := rfl
  by_cases c : v1 = 5
  · refine ⟨a, w1, ha, k1.le (by omega), fun C => ?_⟩
    generalize matD n n a = MA at *
    generalize matD n n b = MB at *
    generalize ((t + 1 : Nat) : Int) = tt at *
    generalize ((cpw n b t : Nat) : Int) = cc at *
    simp [e1, cp, pr, sm, c, o0, o1, nA, nB, p1, p2, p3, p4, putB_t1]
  · refine ⟨b, w1, hb, k1.le (by omega), fun C => ?_⟩
    generalize matD n n a = MA at *
    generalize matD n n b = MB at *
    generalize ((t + 1 : Nat) : Int) = tt at *
    generalize ((cpw n b t : Nat) : Int) = cc at *
    simp [e1, cp, pr, sm, c, o0, o1, nA, nB, p1, p2, p3, p4, putB_t1]
end VS
set_option Elab.async false
set_option linter.all false
set_option maxRecDepth 100000
namespace VS
open PySem PySem.Spec PyProof.Rows L2 RZ
variable {n : Nat} {a b : List Nat}
def bodyBo : FS := (seqF (asgF (callF fn_p_joined [.b 7, .b 8]) (tgT 2 (tgCons (tgN 9) (tgCons (tgN 10) (tgNil))))) <|
  seqF (ifF (notF (tstF (.t (callF fn_same [.t (tupF [.t (varF 9), .t (varF 10)]), .t (callF fn_behind [.b 7, .b 8])])))) (retF (litF (.bl false))) (passF)) <|
  seqF (dropF (mutF 6 appD [.t (callF fn_p_closed_power [.b 10, .b 4])])) <|
  seqF (ifF (notF (tstF (.t (callF fn_same [.t (opF ixD [.b 6, .t (opF negD [.t (litF (.int 1))])]), .t (callF fn_power_rings [.b 10, .b 4])])))) (retF (litF (.bl false))) (passF)) <|
  asgF (opF addD [.t (opF ixD [.b 6, .t (opF negD [.t (litF (.int 1))])]), .t (opF mulD [.b 9, .b 4])]) (tgSub 6 (.t (opF negD [.t (litF (.int 1))]))))
theorem joined_m (h : IsMat n n a) (h2 : IsMat n n b) (h8 : n ≤ 8) : fn_p_joined.sem [matD n n a, matD n n b] = some (.tup [.int ((bhL a b n n n).1 : Nat), matD n n (bhL a b n n n).2], [some (matD n n a), some (matD n n b)]) := by
  have := joined_g (a := (n, n, a)) (b := (n, n, b)) h h2 rfl (by show n ≤ 16; omega) (by show n ≤ 16; omega) (by show n ≤ 16; omega)
  unfold vlD mtD bhM at this
  rw [Nat.zero_add] at this
  exact this
theorem same_res (r : Nat) {l : Nat} {row : List Nat} (h : row.length ≤ 1000) : fn_same.sem [.tup [.int (r : Nat), matD l l row], .tup [.int (r : Nat), matD l l row]] = some (.bl true, [some (.tup [.int (r : Nat), matD l l row]), some (.tup [.int (r : Nat), matD l l row])]) := by
  refine same_ok19 (k := 3) (.tup (by simp) fun x hx => ?_) (by omega)
  simp only [List.mem_cons, List.not_mem_nil, or_false] at hx
  rcases hx with rfl | rfl
  · exact .int _
  · exact plainB_mat (by omega)
theorem last_set (xs : List Int) (v z : Int) : (xs.map D.int ++ [D.int v]).set (xs.map D.int).length (D.int z) = (xs ++ [z]).map D.int := by
  rw [List.set_append_right _ _ (Nat.le_refl _), Nat.sub_self, List.map_append]
  rfl
theorem bh_le (h : IsMat n n a) (h2 : IsMat n n b) : (bhL a b n n n).1 ≤ n := by
  have := bhM_le (n, n, a) (n, n, b)
  unfold bhM at this
  rw [Nat.zero_add] at this
  exact this
theorem Bo_turn (h : IsMat n n a) (h2 : IsMat n n b) (h0 : 0 < n) (h8 : n ≤ 8) {t : Nat} (ht : t < 2 ^ 30) {xs : List Int} (hx : xs.length ≤ 10) {A0 A1 A2 A3 A5 A7 A8 A9 A10 A11 : Option D} :
    ∃ B9 B10, turn (tgT 2 (tgCons (tgN 7) (tgCons (tgN 8) (tgNil)))) bodyBo (.tup [matD n n a, matD n n b]) [A0, A1, A2, A3, some (.int ((t + 1 : Nat) : Int)), A5, some (.lst true (xs.map D.int)), A7, A8, A9, A10, A11] = some (.nx [A0, A1, A2, A3, some (.int ((t + 1 : Nat) : Int)), A5, some (.lst true ((xs ++ [((cpw n (bhL a b n n n).2 t + (bhL a b n n n).1 * (t + 1) : Nat) : Int)]).map D.int)), some (matD n n a), some (matD n n b), B9, B10, A11]) := by
  have mp := two_mat h h0 h2
  have jo := joined_m h h2 h8
  have bk := behind_ok (n := n) (m := n) (k := n) h.len h2.len h.pr h2.pr (by omega)
  have sr := same_res (bhL a b n n n).1 (l := n) (row := (bhL a b n n n).2) (by rw [mp.len]; omega)
  have cp := closed_power_ok mp h0 h8 ht
  have pr := power_rings_ok mp h0 h8 ht
  have sm := same_int (cpw n (bhL a b n n n).2 t : Nat)
  have hg := bh_le h h2
  have mk : mulOk ((bhL a b n n n).1 : Nat) ((t + 1 : Nat) : Int) = true := mulOk_l (by omega) (by
    have : t < 2 ^ 30 := ht
    omega)
  have nA := noOwn_matD n n a
  have nB := noOwn_matD n n b
  have nM := noOwn_matD n n (bhL a b n n n).2
  have p2 : fn_p_closed_power.pins = [true, true] := rfl
  have p3 : fn_same.pins = [true, true] := rfl
  have p4 : fn_power_rings.pins = [true, true] := rfl
  have p5 : fn_p_joined.pins = [true, true] := rfl
  have p6 : fn_behind.pins = [true, true] := rfl
  have ev : ((cpw n (bhL a b n n n).2 t + (bhL a b n n n).1 * (t + 1) : Nat) : Int) = (cpw n (bhL a b n n n).2 t : Nat) + ((bhL a b n n n).1 : Nat) * ((t + 1 : Nat) : Int) := by
    rw [Int.natCast_add, Int.natCast_mul]
  refine ⟨some (.int ((bhL a b n n n).1 : Nat)), some (matD n n (bhL a b n n n).2), ?_⟩
  rw [ev, turn_e]
  clear ev hg
  generalize ((cpw n (bhL a b n n n).2 t : Nat) : Int) = cc at *
  generalize (bhL a b n n n).1 = g at *
  generalize matD n n (bhL a b n n n).2 = MM at *
  generalize matD n n a = MA at *
  generalize matD n n b = MB at *
  generalize ((t + 1 : Nat) : Int) = tt at *
  have n0 : noOwns (xs.map D.int) = true := noOwns_ints xs
  have n1 : noOwns (xs.map D.int ++ [D.int cc]) = true := by rw [noOwns_append, n0]; rfl
  have zl := small_le (n := (xs.map D.int).length + 1) (by simp; omega)
  have al := atI_last (xs.map D.int) (D.int cc)
  have st := last_set xs cc (cc + (g : Int) * tt)
  have ix : ixN ((xs.map D.int).length + 1) (-1) = some (xs.map D.int).length := by
    unfold ixN
    simp
    omega
  have ap := appD_e (xs := xs.map D.int) (.int cc) (by simp; omega)
  generalize (xs ++ [cc + (g : Int) * tt]).map D.int = ZZ at *
  generalize xs.map D.int = XX at *
  unfold bodyBo
  simp [jo, bk, sr, cp, pr, sm, mk, nA, nB, nM, p2, p3, p4, p5, p6, n0, n1, zl, al, st, ap, ix, putB_t1, small_le (n := 2) (by omega)]
end VS
set_option Elab.async false
set_option linter.all false
set_option maxRecDepth 100000
namespace VS
open PySem PySem.Spec PyProof.Rows L2 RZ
theorem F_right_e : F_right = (
  seqF (asgF (opF addD [.t (litF (.int 1)), .t (callF fn_next [.b 0, .t (litF (.int 8))])]) (tgN 1)) <|
  seqF (parF [2, 3] [.t (callF fn_mat [.b 0, .b 1, .b 1]), .t (callF fn_mat [.b 0, .b 1, .b 1])]) <|
  seqF (asgF (opF addD [.t (litF (.int 1)), .t (callF fn_next [.b 0, .t (litF (.int 6))])]) (tgN 4)) <|
  seqF (asgF (callF fn_row_rings [.t (opF mulD [.t (lstF [.t (varF 2)]), .b 4])]) (tgN 5)) <|
  seqF (ifF (orF (notF (tstF (.t (callF fn_same [.t (callF fn_p_closed_power [.b 2, .b 4]), .b 5])))) (notF (tstF (.t (callF fn_same [.t (callKF fn_p_closed_power [1, 0] [.b 4, .b 2]), .b 5]))))) (retF (litF (.bl false))) (passF)) <|
  seqF (asgF (opF ixD [.t (lstF [.t (opF powD [.t (litF (.int 10)), .t (litF (.int 6))]), .t (opF addD [.t (litF (.int 1)), .t (callF fn_next [.b 0, .t (opF powD [.t (litF (.int 10)), .t (litF (.int 6))])])]), .t (opF addD [.t (litF (.int 1)), .t (callF fn_next [.b 0, .t (litF (.int 40))])])]), .t (callF fn_next [.b 0, .t (litF (.int 3))])]) (tgN 4)) <|
  seqF (ifF (notF (tstF (.t (callF fn_same [.t (callF fn_p_closed_power [.b 3, .b 4]), .t (callF fn_power_rings [.b 3, .b 4])])))) (retF (litF (.bl false))) (passF)) <|
  seqF (ifF (bT (opF (eqD) [.t (callF fn_next [.b 0, .t (litF (.int 6))]), .t (litF (.int 5))])) (asgF (varF 2) (tgN 3)) (passF)) <|
  seqF (asgF (lstF []) (tgN 6)) <|
  seqF (forF (itSeq (lstF [.t (tupF [.t (varF 2), .t (varF 3)]), .t (tupF [.t (varF 3), .t (varF 2)])])) (tgT 2 (tgCons (tgN 7) (tgCons (tgN 8) (tgNil)))) bodyBo) <|
  seqF (asgF (opF addD [.t (litF (.int 1)), .t (callF fn_next [.b 0, .t (litF (.int 3))])]) (tgN 11)) <|
  seqF (asgF (callF fn_p_joined [.b 2, .b 3]) (tgT 2 (tgCons (tgN 9) (tgCons (tgN 10) (tgNil))))) <|
  seqF (ifF (notF (tstF (.t (callF fn_same [.t (opF addD [.t (callF fn_p_closed_power [.b 10, .b 11]), .t (opF mulD [.b 11, .b 9])]), .t (callF fn_row_rings [.t (opF mulD [.t (lstF [.t (varF 2), .t (varF 3)]), .b 11])])])))) (retF (litF (.bl false))) (passF)) <|
  retF (opF (eqD) [.t (opF ixD [.b 6, .t (litF (.int 0))]), .t (opF ixD [.b 6, .t (litF (.int 1))])])) := rfl
theorem right_ok {w : D} (hw : Wok 1000 w) : ∃ os, fn_right.sem [w] = some (.bl true, os) := by
  obtain ⟨n, s, a, b0, w1, ha, hb0, h8, h0, hs, k1, hA⟩ := head_A hw
  obtain ⟨t, w2, ht, k2, hC⟩ := head_C k1 ha hb0 (A4 := some (.int ((s + 1 : Nat) : Int))) (A5 := some (.int (cpw n a s : Nat)))
  obtain ⟨b, w3, hb, k3, hD⟩ := head_D k2 ha hb0 h0 h8 ht (A5 := some (.int (cpw n a s : Nat)))
  obtain ⟨v, w4, e4, a4, b4, k4⟩ := next_ok (N := 299) (lim := 3) k3 (by omega) (by omega)
  obtain ⟨f, rfl, hf⟩ := nat_lt (k := 3) a4 (by omega)
  have ef : 1 + (f : Int) = ((f + 1 : Nat) : Int) := by omega
  obtain ⟨c9, c10, t1⟩ := Bo_turn ha hb h0 h8 ht (xs := []) (by simp) (A0 := some w3) (A1 := some (.int (n : Nat))) (A2 := some (matD n n a)) (A3 := some (matD n n b)) (A5 := some (.int (cpw n a s : Nat))) (A7 := none) (A8 := none) (A9 := none) (A10 := none) (A11 := none)
  obtain ⟨d9, d10, t2⟩ := Bo_turn hb ha h0 h8 ht (xs := [((cpw n (bhL a b n n n).2 t + (bhL a b n n n).1 * (t + 1) : Nat) : Int)]) (by simp) (A0 := some w3) (A1 := some (.int (n : Nat))) (A2 := some (matD n n a)) (A3 := some (matD n n b)) (A5 := some (.int (cpw n a s : Nat))) (A7 := some (matD n n a)) (A8 := some (matD n n b)) (A9 := c9) (A10 := c10) (A11 := none)
  have ew := both_ways ha.pr hb.pr t
  rw [← ew] at t2
  obtain ⟨V, hV⟩ : ∃ V : Int, V = ((cpw n (bhL a b n n n).2 t + (bhL a b n n n).1 * (t + 1) : Nat) : Int) := ⟨_, rfl⟩
  rw [← hV] at t1 t2
  simp only [List.map_nil, List.nil_append, List.map_cons, List.cons_append] at t1 t2
  have g : goFor (tgT 2 (tgCons (tgN 7) (tgCons (tgN 8) (tgNil)))) bodyBo [.tup [matD n n a, matD n n b], .tup [matD n n b, matD n n a]] [some w3, some (.int (n : Nat)), some (matD n n a), some (matD n n b), some (.int ((t + 1 : Nat) : Int)), some (.int (cpw n a s : Nat)), some (.lst true []), none, none, none, none, none] = some (.nx [some w3, some (.int (n : Nat)), some (matD n n a), some (matD n n b), some (.int ((t + 1 : Nat) : Int)), some (.int (cpw n a s : Nat)), some (.lst true [.int V, .int V]), some (matD n n b), some (matD n n a), d9, d10, none]) := by
    rw [goFor_cons, t1]
    show goFor _ _ _ _ = _
    rw [goFor_cons, t2]
    rfl
  have mp := two_mat ha h0 hb
  have jo := joined_m ha hb h8
  have cp := closed_power_ok mp h0 h8 (t := f) (by omega)
  obtain ⟨m1, m2⟩ := ltwo_ok ha hb h8 (s := f) hf
  have hg := bh_le ha hb
  have mk : mulOk ((f + 1 : Nat) : Int) ((bhL a b n n n).1 : Nat) = true := mulOk_l (by omega) (by omega)
  have ev : ((cpw n (bhL a b n n n).2 f : Nat) : Int) + ((f + 1 : Nat) : Int) * ((bhL a b n n n).1 : Nat) = (((f + 1) * (bhL a b n n n).1 + cpw n (bhL a b n n n).2 f : Nat) : Int) := by
    rw [Int.natCast_add ((f + 1) * _), Int.natCast_mul, Int.add_comm]
  have sm := same_int ((((f + 1) * (bhL a b n n n).1 + cpw n (bhL a b n n n).2 f : Nat) : Int))
  have o3 := k3.own
  have o4 := k4.own
  have nA := noOwn_matD n n a
  have nB := noOwn_matD n n b
  have f1 : freeze (.tup [matD n n a, matD n n b]) = .tup [matD n n a, matD n n b] := freeze_of (by simp [nA, nB])
  have f2 : freeze (.tup [matD n n b, matD n n a]) = .tup [matD n n b, matD n n a] := freeze_of (by simp [nA, nB])
  have nM := noOwn_matD n n (bhL a b n n n).2
  have nL : noOwns ((twoL a b (f + 1)).map (matD n n)) = true := noOwns_map (noOwn_matD n n) _
  have p1 : fn_next.pins = [true, true] := rfl
  have p2 : fn_p_closed_power.pins = [true, true] := rfl
  have p3 : fn_same.pins = [true, true] := rfl
  have p5 : fn_p_joined.pins = [true, true] := rfl
  have p6 : fn_row_rings.pins = [true] := rfl
  have hd : ([some w, none, none, none, none, none, none, none, none, none, none, none] : Env) = [w].map some ++ List.replicate (12 - 1) none := rfl
  unfold fn_right
  rw [F_right_e, bodyFn_sem, ← hd, hA, head_B k1.own ha hb0 h0 h8 hs, hC, hD]
  clear hA hC hD hd t1 t2 ew hV hg
  generalize (((f + 1) * (bhL a b n n n).1 + cpw n (bhL a b n n n).2 f : Nat) : Int) = EV at *
  generalize ((cpw n (bhL a b n n n).2 f : Nat) : Int) = c1 at *
  generalize ((cpw n a s : Nat) : Int) = c2 at *
  generalize (bhL a b n n n).1 = gg at *
  generalize matD n n (bhL a b n n n).2 = MM at *
  generalize (twoL a b (f + 1)).map (matD n n) = TT at *
  generalize matD n n a = MA at *
  generalize matD n n b = MB at *
  generalize ((t + 1 : Nat) : Int) = tt at *
  generalize ((f + 1 : Nat) : Int) = ff at *
  generalize bodyBo = BB at *
  simp [f1, f2, g, e4, ef, jo, cp, m1, m2, mk, ev, sm, o3, o4, nA, nB, nM, nL, p1, p2, p3, p5, p6, putB_t1, small_le (n := 2) (by omega)]
theorem turns6 {len : Nat} : ∃ k : Nat, (k : Int) = (if (if (6 : Int) < (len : Int) then 6 else (len : Int)) > 3 then (if (6 : Int) < (len : Int) then 6 else (len : Int)) else 3) ∧ k ≤ 100 := by
  refine ⟨if (if 6 < len then 6 else len) > 3 then (if 6 < len then 6 else len) else 3, ?_, ?_⟩
  · split <;> split <;> split <;> omega
  · split <;> split <;> omega
def bodyL : FS := ifF (notF (tstF (.t (callF fn_right [.t (callF fn_spring [.b 0, .b 1])])))) (retF (litF (.bl false))) (passF)
theorem law_holds : ∀ ns : List Int, ns.length ≤ 63 → ∃ os, fn_law.sem [.scr ns] = some (.bl true, os) := by
  intro ns hns
  obtain ⟨k, hk, hk2⟩ := turns6 (len := ns.length)
  obtain ⟨ρ', h1, a, rfl⟩ := for_inv (tg := tgN 1) (body := bodyL) (ds := (List.range k).map natD) (ρ := [some (.scr ns), none]) (fun _ ρ => ∃ a, ρ = [some (.scr ns), a]) ⟨none, rfl⟩ (by
    rintro i d ρ hd ⟨a, rfl⟩
    rw [List.getElem?_map] at hd
    obtain ⟨p, hp, rfl⟩ := Option.map_eq_some_iff.mp hd
    have hp2 := List.mem_range.mp (List.mem_of_getElem? hp)
    obtain ⟨w, os1, e1, rfl, kw⟩ := spring_ok (ns := ns) (p := p) (by omega)
    obtain ⟨os, e2⟩ := right_ok (kw.le (by omega))
    refine ⟨_, .inl ?_, some (.int (p : Nat)), rfl⟩
    have q1 : fn_right.pins = [true] := rfl
    have q2 : fn_spring.pins = [true, true] := rfl
    have ow := kw.own
    rw [turn_e, natD_i]
    unfold bodyL
    simp [e1, e2, q1, q2, ow, putB_t1])
  have r1 := rng1_nat (u := k) (by omega)
  rw [hk] at r1
  unfold bodyL at h1
  unfold fn_law F_law
  rw [bodyFn_sem]
  simp [-gt_iff_lt, r1, h1]
end VS
set_option Elab.async false
set_option linter.all false
set_option maxRecDepth 100000
set_option maxHeartbeats 0
namespace VS
open PySem PySem.Spec PyProof.Rows L2 RZ
/-! what the top has written -/
structure Tx (K : PySem.W.Frag) (mg : Str → Option Value) where
  f_links : Addr
  fd_links : FuncData
  F_links : Fun K "_law_links" "_law_links" s_links f_links fd_links
  b_links : Binds K fd_links ["_law_mat_here", "_law_shift"] []
  g_links : mg "_law_links" = some (.ref f_links)
  f_lots : Addr
  fd_lots : FuncData
  F_lots : Fun K "_law_lots" "_law_lots" s_lots f_lots fd_lots
  b_lots : Binds K fd_lots ["_law_size", "_law_links_here"] []
  g_lots : mg "_law_lots" = some (.ref f_lots)
  f_behind : Addr
  fd_behind : FuncData
  F_behind : Fun K "_law_behind" "_law_behind" s_behind f_behind fd_behind
  b_behind : Binds K fd_behind ["_law_one", "_law_other"] []
  g_behind : mg "_law_behind" = some (.ref f_behind)
  f_next : Addr
  fd_next : FuncData
  F_next : Fun K "_law_next" "_law_next" s_next f_next fd_next
  b_next : Binds K fd_next ["_law_spring_here", "_law_limit"] []
  g_next : mg "_law_next" = some (.ref f_next)
  f_round : Addr
  fd_round : FuncData
  F_round : Fun K "_law_round" "_law_round" s_round f_round fd_round
  b_round : Binds K fd_round ["_law_n", "_law_m"] []
  g_round : mg "_law_round" = some (.ref f_round)
  f_mat : Addr
  fd_mat : FuncData
  F_mat : Fun K "_law_mat" "_law_mat" s_mat f_mat fd_mat
  b_mat : Binds K fd_mat ["_law_spring_here", "_law_n", "_law_m"] []
  g_mat : mg "_law_mat" = some (.ref f_mat)
  f_row_rings : Addr
  fd_row_rings : FuncData
  F_row_rings : Fun K "_law_row_rings" "_law_row_rings" s_row_rings f_row_rings fd_row_rings
  b_row_rings : Binds K fd_row_rings ["_law_mats"] []
  g_row_rings : mg "_law_row_rings" = some (.ref f_row_rings)
  f_power_rings : Addr
  fd_power_rings : FuncData
  F_power_rings : Fun K "_law_power_rings" "_law_power_rings" s_power_rings f_power_rings fd_power_rings
  b_power_rings : Binds K fd_power_rings ["_law_mat_here", "_law_times"] []
  g_power_rings : mg "_law_power_rings" = some (.ref f_power_rings)
  f_same : Addr
  fd_same : FuncData
  F_same : Fun K "_law_same" "_law_same" s_same f_same fd_same
  b_same : Binds K fd_same ["_law_found", "_law_due"] []
  g_same : mg "_law_same" = some (.ref f_same)
  f_p_far_end : Addr
  fd_p_far_end : FuncData
  F_p_far_end : Fun K "far_end" "far_end" s_p_far_end f_p_far_end fd_p_far_end
  b_p_far_end : Binds K fd_p_far_end ["one", "other", "peg", "passed"] []
  g_p_far_end : mg "far_end" = some (.ref f_p_far_end)
  f_p_loose_rings : Addr
  fd_p_loose_rings : FuncData
  F_p_loose_rings : Fun K "loose_rings" "loose_rings" s_p_loose_rings f_p_loose_rings fd_p_loose_rings
  b_p_loose_rings : Binds K fd_p_loose_rings ["one", "other", "passed"] []
  g_p_loose_rings : mg "loose_rings" = some (.ref f_p_loose_rings)
  f_p_put_behind : Addr
  fd_p_put_behind : FuncData
  F_p_put_behind : Fun K "put_behind" "put_behind" s_p_put_behind f_p_put_behind fd_p_put_behind
  b_p_put_behind : Binds K fd_p_put_behind ["one", "other"] []
  g_p_put_behind : mg "put_behind" = some (.ref f_p_put_behind)
  f_p_chained : Addr
  fd_p_chained : FuncData
  F_p_chained : Fun K "chained" "chained" s_p_chained f_p_chained fd_p_chained
  b_p_chained : Binds K fd_p_chained ["one", "other"] []
  g_p_chained : mg "chained" = some (.ref f_p_chained)
  f_p_check_square : Addr
  fd_p_check_square : FuncData
  F_p_check_square : Fun K "check_square" "check_square" s_p_check_square f_p_check_square fd_p_check_square
  b_p_check_square : Binds K fd_p_check_square ["mat"] []
  g_p_check_square : mg "check_square" = some (.ref f_p_check_square)
  f_p_round_of : Addr
  fd_p_round_of : FuncData
  F_p_round_of : Fun K "round_of" "round_of" s_p_round_of f_p_round_of fd_p_round_of
  b_p_round_of : Binds K fd_p_round_of ["n", "m"] []
  g_p_round_of : mg "round_of" = some (.ref f_p_round_of)
  f_p_is_mat : Addr
  fd_p_is_mat : FuncData
  F_p_is_mat : Fun K "is_mat" "is_mat" s_p_is_mat f_p_is_mat fd_p_is_mat
  b_p_is_mat : Binds K fd_p_is_mat ["told"] []
  g_p_is_mat : mg "is_mat" = some (.ref f_p_is_mat)
  f_p_checked_mat : Addr
  fd_p_checked_mat : FuncData
  F_p_checked_mat : Fun K "checked_mat" "checked_mat" s_p_checked_mat f_p_checked_mat fd_p_checked_mat
  b_p_checked_mat : Binds K fd_p_checked_mat ["mat"] []
  g_p_checked_mat : mg "checked_mat" = some (.ref f_p_checked_mat)
  f_p_check_size : Addr
  fd_p_check_size : FuncData
  F_p_check_size : Fun K "check_size" "check_size" s_p_check_size f_p_check_size fd_p_check_size
  b_p_check_size : Binds K fd_p_check_size ["n"] []
  g_p_check_size : mg "check_size" = some (.ref f_p_check_size)
  f_p_straight : Addr
  fd_p_straight : FuncData
  F_p_straight : Fun K "straight" "straight" s_p_straight f_p_straight fd_p_straight
  b_p_straight : Binds K fd_p_straight ["n"] []
  g_p_straight : mg "straight" = some (.ref f_p_straight)
  f_p_power : Addr
  fd_p_power : FuncData
  F_p_power : Fun K "power" "power" s_p_power f_p_power fd_p_power
  b_p_power : Binds K fd_p_power ["mat", "times"] []
  g_p_power : mg "power" = some (.ref f_p_power)
  f_p_rings_closed : Addr
  fd_p_rings_closed : FuncData
  F_p_rings_closed : Fun K "rings_closed" "rings_closed" s_p_rings_closed f_p_rings_closed fd_p_rings_closed
  b_p_rings_closed : Binds K fd_p_rings_closed ["mat"] []
  g_p_rings_closed : mg "rings_closed" = some (.ref f_p_rings_closed)
  f_p_closed_power : Addr
  fd_p_closed_power : FuncData
  F_p_closed_power : Fun K "closed_power" "closed_power" s_p_closed_power f_p_closed_power fd_p_closed_power
  b_p_closed_power : Binds K fd_p_closed_power ["mat", "times"] []
  g_p_closed_power : mg "closed_power" = some (.ref f_p_closed_power)
  f_p_check_pair : Addr
  fd_p_check_pair : FuncData
  F_p_check_pair : Fun K "check_pair" "check_pair" s_p_check_pair f_p_check_pair fd_p_check_pair
  b_p_check_pair : Binds K fd_p_check_pair ["above", "below"] []
  g_p_check_pair : mg "check_pair" = some (.ref f_p_check_pair)
  f_p_joined : Addr
  fd_p_joined : FuncData
  F_p_joined : Fun K "joined" "joined" s_p_joined f_p_joined fd_p_joined
  b_p_joined : Binds K fd_p_joined ["one", "other"] []
  g_p_joined : mg "joined" = some (.ref f_p_joined)
  f_right : Addr
  fd_right : FuncData
  F_right : Fun K "_law_right" "_law_right" s_right f_right fd_right
  b_right : Binds K fd_right ["_law_spring_here"] []
  g_right : mg "_law_right" = some (.ref f_right)
  f_spring : Addr
  fd_spring : FuncData
  F_spring : Fun K "_law_spring" "_law_spring" s_spring f_spring fd_spring
  b_spring : Binds K fd_spring ["_law_script", "_law_place"] []
  g_spring : mg "_law_spring" = some (.ref f_spring)
  f_law : Addr
  fd_law : FuncData
  F_law : Fun K "law" "law" s_law f_law fd_law
  b_law : Binds K fd_law ["_law_script"] []
  g_law : mg "law" = some (.ref f_law)
  kb0_p_closed_power : KB K fd_p_closed_power ["mat", "times"] 0 ["times", "mat"] [1, 0]
  z_bool : mg "bool" = none
  z_enumerate : mg "enumerate" = none
  z_int : mg "int" = none
  z_isinstance : mg "isinstance" = none
  z_len : mg "len" = none
  z_list : mg "list" = none
  z_max : mg "max" = none
  z_min : mg "min" = none
  z_range : mg "range" = none
  z_set : mg "set" = none
  z_str : mg "str" = none
  z_tuple : mg "tuple" = none
section
variable {P : Program} {w : World} {K : PySem.W.Frag} {mg : Str → Option Value} {base : Heap}
theorem ok_links (T : Tx K mg) : FnOk P w K mg base CX0 1 T.f_links T.fd_links ["_law_mat_here", "_law_shift"] (spOf K fn_links) := by
  unfold fn_links
  refine fn_ok (k := 0) (x := "_law_links") (qual := "_law_links") (st := s_links) (N := ["_law_mat_here", "_law_shift", "_law_peg"]) (ps := ["_law_mat_here", "_law_shift"]) (pins := [true, true]) (fb := F_links) T.F_links sc_links rfl (by decide) ?_
  intro cdv A outer s H E hr
  unfold F_links
  exact psf_one (psf_ret (pf_lc (own := [("_law_peg", 2)]) (fi := itRg rng1D [.t (opF lenD [.t (opF ixD [.b 0, .t (litF (.int 2))])])]) (fg := tgN 2) (ft := bT (opF (ltD) [.b 2, .t (opF ixD [.t (opF ixD [.b 0, .t (litF (.int 2))]), .b 2])])) (fe := tupF [.t (opF addD [.b 1, .b 2]), .t (opF addD [.b 1, .t (opF ixD [.t (opF ixD [.b 0, .t (litF (.int 2))]), .b 2])])]) rfl sc_links.nd (pif_rng1 (by rfl) T.z_range (paf_cons (o := .t (opF lenD [.t (opF ixD [.b 0, .t (litF (.int 2))])])) (po_t (pf_callB call_len_seq vok_len (by rfl) T.z_len PySem.boot_len (paf_cons (o := .t (opF ixD [.b 0, .t (litF (.int 2))])) (po_t (pf_ix ix_seq vok_ix (po_b (pv 0)) (po_t (pf_int)) (fun _ _ => rfl))) paf_nil))) paf_nil)) (blkOk_by (own := [("_law_peg", 2)]) (by rfl)) (fun _ _ _ _ _ => pgf_name (i := 2) sc_links.nd rfl (by first | exact .inl rfl | exact .inr rfl) (by decide)) (fun _ _ _ _ _ => ptsf_one (pt_cmpf op_lt vok_lt (po_b (pv 2)) (po_t (pf_ix ix_seq vok_ix (po_t (pf_ix ix_seq vok_ix (po_b (pv 0)) (po_t (pf_int)) (fun _ _ => rfl))) (po_b (pv 2)) (fun _ _ => rfl))) (nomark _))) (fun _ _ _ _ _ => pf_tup (paf_cons (o := .t (opF addD [.b 1, .b 2])) (po_t (pf_bin op_addA vok_add (po_b (pv 1)) (po_b (pv 2)))) (paf_cons (o := .t (opF addD [.b 1, .t (opF ixD [.t (opF ixD [.b 0, .t (litF (.int 2))]), .b 2])])) (po_t (pf_bin op_addA vok_add (po_b (pv 1)) (po_t (pf_ix ix_seq vok_ix (po_t (pf_ix ix_seq vok_ix (po_b (pv 0)) (po_t (pf_int)) (fun _ _ => rfl))) (po_b (pv 2)) (fun _ _ => rfl))))) paf_nil)))))
theorem ok_lots (T : Tx K mg) : FnOk P w K mg base CX0 1 T.f_lots T.fd_lots ["_law_size", "_law_links_here"] (spOf K fn_lots) := by
  unfold fn_lots
  refine fn_ok (k := 0) (x := "_law_lots") (qual := "_law_lots") (st := s_lots) (N := ["_law_size", "_law_links_here", "_law_label", "_law_one", "_law_other", "_law_here", "_law_there", "_law_mark"]) (ps := ["_law_size", "_law_links_here"]) (pins := [true, true]) (fb := F_lots) T.F_lots sc_lots rfl (by decide) ?_
  intro cdv A outer s H E hr
  unfold F_lots
  exact psf_cons (f := asgF (opF (lrgD rng1D) [.b 0]) (tgN 2)) (psf_set (i := 2) sc_lots.nd rfl (by first | exact .inl rfl | exact .inr rfl) (by decide) (pf_lrg1 rfl (by rfl) T.z_list (by rfl) T.z_range (paf_cons (o := .b 0) (po_b (pv 0)) paf_nil)))
      (psf_cons (f := forF (itSeq (varF 1)) (tgT 2 (tgCons (tgN 3) (tgCons (tgN 4) (tgNil)))) (seqF (asgF (tupF [.t (opF ixD [.b 2, .b 3]), .t (opF ixD [.b 2, .b 4])]) (tgT 2 (tgCons (tgN 5) (tgCons (tgN 6) (tgNil))))) <|
      ifF (bT (opF (neD) [.b 5, .b 6])) (asgF (lcF [7] (itSeq (varF 2)) (tgN 7) (yesF) (ifE (bT (opF (eqD) [.b 7, .b 6])) (varF 5) (varF 7))) (tgN 2)) (passF))) (psf_for (fi := itSeq (varF 1)) (g := tgT 2 (tgCons (tgN 3) (tgCons (tgN 4) (tgNil)))) PassesOwn.never rfl (pif_seq (pf_var (pv 1))) (pgf_tup rfl (pgsf_cons (pgf_name (i := 3) sc_lots.nd rfl (by first | exact .inl rfl | exact .inr rfl) (by decide)) (pgsf_cons (pgf_name (i := 4) sc_lots.nd rfl (by first | exact .inl rfl | exact .inr rfl) (by decide)) (pgsf_nil)))) (psf_cons (f := asgF (tupF [.t (opF ixD [.b 2, .b 3]), .t (opF ixD [.b 2, .b 4])]) (tgT 2 (tgCons (tgN 5) (tgCons (tgN 6) (tgNil))))) (psf_asg (f := tupF [.t (opF ixD [.b 2, .b 3]), .t (opF ixD [.b 2, .b 4])]) (g := tgT 2 (tgCons (tgN 5) (tgCons (tgN 6) (tgNil)))) (pf_tup (paf_cons (o := .t (opF ixD [.b 2, .b 3])) (po_t (pf_ix ix_seq vok_ix (po_b (pv 2)) (po_b (pv 3)) (fun _ _ => rfl))) (paf_cons (o := .t (opF ixD [.b 2, .b 4])) (po_t (pf_ix ix_seq vok_ix (po_b (pv 2)) (po_b (pv 4)) (fun _ _ => rfl))) paf_nil))) (pgf_tup rfl (pgsf_cons (pgf_name (i := 5) sc_lots.nd rfl (by first | exact .inl rfl | exact .inr rfl) (by decide)) (pgsf_cons (pgf_name (i := 6) sc_lots.nd rfl (by first | exact .inl rfl | exact .inr rfl) (by decide)) (pgsf_nil)))))
      (psf_one (psf_if (fc := bT (opF (neD) [.b 5, .b 6])) (pt_cmpf (op_neD hr.units) vok_ne (po_b (pv 5)) (po_b (pv 6)) (nomark _)) (psf_one (psf_setLc (own := [("_law_mark", 7)]) (fi := itSeq (varF 2)) (fg := tgN 7) (ft := yesF) (fe := ifE (bT (opF (eqD) [.b 7, .b 6])) (varF 5) (varF 7)) (i := 2) (by decide) rfl sc_lots.nd rfl rfl (sw_true rfl rfl rfl (by decide +kernel)) (pif_seq (pf_var (pv 2))) (blkOk_by (own := [("_law_mark", 7)]) (by rfl)) (fun _ _ _ _ _ => pgf_name (i := 7) sc_lots.nd rfl (by first | exact .inl rfl | exact .inr rfl) (by decide)) (fun _ _ _ _ _ => ptsf_nil) (fun _ _ _ _ _ => pf_if (pt_cmpf (op_eqD hr.units) vok_eq (po_b (pv 7)) (po_b (pv 6)) (nomark _)) (pf_var (pv 5)) (pf_var (pv 7))))) (psf_nil)))))
      (psf_one (psf_ret (pf_mov (pv 2)))))
theorem ok_behind (T : Tx K mg) : FnOk P w K mg base CX0 2 T.f_behind T.fd_behind ["_law_one", "_law_other"] (spOf K fn_behind) := by
  unfold fn_behind
  refine fn_ok (k := 1) (x := "_law_behind") (qual := "_law_behind") (st := s_behind) (N := ["_law_one", "_law_other", "_law_n", "_law_m", "_law_k", "_law_links_here", "_law_label", "_law_outer", "_law_marks", "_law_mates", "_law_at", "_law_peg", "_law_far"]) (ps := ["_law_one", "_law_other"]) (pins := [true, true]) (fb := F_behind) T.F_behind sc_behind rfl (by decide) ?_
  intro cdv A outer s H E hr
  unfold F_behind
  exact psf_cons (f := asgF (tupF [.t (opF ixD [.b 0, .t (litF (.int 0))]), .t (opF ixD [.b 0, .t (litF (.int 1))]), .t (opF ixD [.b 1, .t (litF (.int 1))])]) (tgT 3 (tgCons (tgN 2) (tgCons (tgN 3) (tgCons (tgN 4) (tgNil)))))) (psf_asg (f := tupF [.t (opF ixD [.b 0, .t (litF (.int 0))]), .t (opF ixD [.b 0, .t (litF (.int 1))]), .t (opF ixD [.b 1, .t (litF (.int 1))])]) (g := tgT 3 (tgCons (tgN 2) (tgCons (tgN 3) (tgCons (tgN 4) (tgNil))))) (pf_tup (paf_cons (o := .t (opF ixD [.b 0, .t (litF (.int 0))])) (po_t (pf_ix ix_seq vok_ix (po_b (pv 0)) (po_t (pf_int)) (fun _ _ => rfl))) (paf_cons (o := .t (opF ixD [.b 0, .t (litF (.int 1))])) (po_t (pf_ix ix_seq vok_ix (po_b (pv 0)) (po_t (pf_int)) (fun _ _ => rfl))) (paf_cons (o := .t (opF ixD [.b 1, .t (litF (.int 1))])) (po_t (pf_ix ix_seq vok_ix (po_b (pv 1)) (po_t (pf_int)) (fun _ _ => rfl))) paf_nil)))) (pgf_tup rfl (pgsf_cons (pgf_name (i := 2) sc_behind.nd rfl (by first | exact .inl rfl | exact .inr rfl) (by decide)) (pgsf_cons (pgf_name (i := 3) sc_behind.nd rfl (by first | exact .inl rfl | exact .inr rfl) (by decide)) (pgsf_cons (pgf_name (i := 4) sc_behind.nd rfl (by first | exact .inl rfl | exact .inr rfl) (by decide)) (pgsf_nil))))))
      (psf_cons (f := asgF (opF addD [.t (opF addD [.t (callF fn_links [.b 0, .t (litF (.int 0))]), .t (callF fn_links [.b 1, .t (opF addD [.b 2, .b 3])])]), .t (lcF [11] (itRg rng1D [.b 3]) (tgN 11) (yesF) (tupF [.t (opF addD [.b 2, .b 11]), .t (opF addD [.t (opF addD [.b 2, .b 3]), .b 11])]))]) (tgN 5)) (psf_set (i := 5) sc_behind.nd rfl (by first | exact .inl rfl | exact .inr rfl) (by decide) (pf_bin op_addA vok_add (po_t (pf_bin op_addA vok_add (po_t (pf_call (ok_links T) (hr.mono (by decide)) (by rfl) T.g_links T.F_links.kp T.b_links (paf_cons (o := .b 0) (po_b (pv 0)) (paf_cons (o := .t (litF (.int 0))) (po_t (pf_int)) paf_nil)))) (po_t (pf_call (ok_links T) (hr.mono (by decide)) (by rfl) T.g_links T.F_links.kp T.b_links (paf_cons (o := .b 1) (po_b (pv 1)) (paf_cons (o := .t (opF addD [.b 2, .b 3])) (po_t (pf_bin op_addA vok_add (po_b (pv 2)) (po_b (pv 3)))) paf_nil)))))) (po_t (pf_lc (own := [("_law_peg", 11)]) (fi := itRg rng1D [.b 3]) (fg := tgN 11) (ft := yesF) (fe := tupF [.t (opF addD [.b 2, .b 11]), .t (opF addD [.t (opF addD [.b 2, .b 3]), .b 11])]) rfl sc_behind.nd (pif_rng1 (by rfl) T.z_range (paf_cons (o := .b 3) (po_b (pv 3)) paf_nil)) (blkOk_by (own := [("_law_peg", 11)]) (by rfl)) (fun _ _ _ _ _ => pgf_name (i := 11) sc_behind.nd rfl (by first | exact .inl rfl | exact .inr rfl) (by decide)) (fun _ _ _ _ _ => ptsf_nil) (fun _ _ _ _ _ => pf_tup (paf_cons (o := .t (opF addD [.b 2, .b 11])) (po_t (pf_bin op_addA vok_add (po_b (pv 2)) (po_b (pv 11)))) (paf_cons (o := .t (opF addD [.t (opF addD [.b 2, .b 3]), .b 11])) (po_t (pf_bin op_addA vok_add (po_t (pf_bin op_addA vok_add (po_b (pv 2)) (po_b (pv 3)))) (po_b (pv 11)))) paf_nil)))))))
      (psf_cons (f := asgF (callF fn_lots [.t (opF addD [.t (opF addD [.b 2, .t (opF mulD [.t (litF (.int 2)), .b 3])]), .b 4]), .b 5]) (tgN 6)) (psf_set (i := 6) sc_behind.nd rfl (by first | exact .inl rfl | exact .inr rfl) (by decide) (pf_call (ok_lots T) (hr.mono (by decide)) (by rfl) T.g_lots T.F_lots.kp T.b_lots (paf_cons (o := .t (opF addD [.t (opF addD [.b 2, .t (opF mulD [.t (litF (.int 2)), .b 3])]), .b 4])) (po_t (pf_bin op_addA vok_add (po_t (pf_bin op_addA vok_add (po_b (pv 2)) (po_t (pf_bin op_mulA vok_mul (po_t (pf_int)) (po_b (pv 3)))))) (po_b (pv 4)))) (paf_cons (o := .b 5) (po_b (pv 5)) paf_nil))))
      (psf_cons (f := asgF (opF addD [.t (opF (lrgD rng1D) [.b 2]), .t (opF (lrgD rng2D) [.t (opF addD [.b 2, .t (opF mulD [.t (litF (.int 2)), .b 3])]), .t (opF addD [.t (opF addD [.b 2, .t (opF mulD [.t (litF (.int 2)), .b 3])]), .b 4])])]) (tgN 7)) (psf_set (i := 7) sc_behind.nd rfl (by first | exact .inl rfl | exact .inr rfl) (by decide) (pf_bin op_addA vok_add (po_t (pf_lrg1 rfl (by rfl) T.z_list (by rfl) T.z_range (paf_cons (o := .b 2) (po_b (pv 2)) paf_nil))) (po_t (pf_lrg2 rfl (by rfl) T.z_list (by rfl) T.z_range (paf_cons (o := .t (opF addD [.b 2, .t (opF mulD [.t (litF (.int 2)), .b 3])])) (po_t (pf_bin op_addA vok_add (po_b (pv 2)) (po_t (pf_bin op_mulA vok_mul (po_t (pf_int)) (po_b (pv 3)))))) (paf_cons (o := .t (opF addD [.t (opF addD [.b 2, .t (opF mulD [.t (litF (.int 2)), .b 3])]), .b 4])) (po_t (pf_bin op_addA vok_add (po_t (pf_bin op_addA vok_add (po_b (pv 2)) (po_t (pf_bin op_mulA vok_mul (po_t (pf_int)) (po_b (pv 3)))))) (po_b (pv 4)))) paf_nil))))))
      (psf_cons (f := asgF (lcF [11] (itSeq (varF 7)) (tgN 11) (yesF) (opF ixD [.b 6, .b 11])) (tgN 8)) (psf_set (i := 8) sc_behind.nd rfl (by first | exact .inl rfl | exact .inr rfl) (by decide) (pf_lc (own := [("_law_peg", 11)]) (fi := itSeq (varF 7)) (fg := tgN 11) (ft := yesF) (fe := opF ixD [.b 6, .b 11]) rfl sc_behind.nd (pif_seq (pf_var (pv 7))) (blkOk_by (own := [("_law_peg", 11)]) (by rfl)) (fun _ _ _ _ _ => pgf_name (i := 11) sc_behind.nd rfl (by first | exact .inl rfl | exact .inr rfl) (by decide)) (fun _ _ _ _ _ => ptsf_nil) (fun _ _ _ _ _ => pf_ix ix_seq vok_ix (po_b (pv 6)) (po_b (pv 11)) (fun _ _ => rfl))))
      (psf_cons (f := asgF (lstF []) (tgN 9)) (psf_set (i := 9) sc_behind.nd rfl (by first | exact .inl rfl | exact .inr rfl) (by decide) (pf_lst paf_nil))
      (psf_cons (f := forF (itRg rng1D [.t (opF addD [.b 2, .b 4])]) (tgN 10) (asgF (opF addD [.b 9, .t (lcF [12] (itRg rng1D [.t (opF addD [.b 2, .b 4])]) (tgN 12) (andF (bT (opF (neD) [.b 12, .b 10])) (bT (opF (eqD) [.t (opF ixD [.b 8, .b 12]), .t (opF ixD [.b 8, .b 10])]))) (varF 12))]) (tgN 9))) (psf_for (fi := itRg rng1D [.t (opF addD [.b 2, .b 4])]) (g := tgN 10) PassesOwn.never rfl (pif_rng1 (by rfl) T.z_range (paf_cons (o := .t (opF addD [.b 2, .b 4])) (po_t (pf_bin op_addA vok_add (po_b (pv 2)) (po_b (pv 4)))) paf_nil)) (pgf_name (i := 10) sc_behind.nd rfl (by first | exact .inl rfl | exact .inr rfl) (by decide)) (psf_one (psf_set (i := 9) sc_behind.nd rfl (by first | exact .inl rfl | exact .inr rfl) (by decide) (pf_bin op_addA vok_add (po_b (pv 9)) (po_t (pf_lc (own := [("_law_far", 12)]) (fi := itRg rng1D [.t (opF addD [.b 2, .b 4])]) (fg := tgN 12) (ft := andF (bT (opF (neD) [.b 12, .b 10])) (bT (opF (eqD) [.t (opF ixD [.b 8, .b 12]), .t (opF ixD [.b 8, .b 10])]))) (fe := varF 12) rfl sc_behind.nd (pif_rng1 (by rfl) T.z_range (paf_cons (o := .t (opF addD [.b 2, .b 4])) (po_t (pf_bin op_addA vok_add (po_b (pv 2)) (po_b (pv 4)))) paf_nil)) (blkOk_by (own := [("_law_far", 12)]) (by rfl)) (fun _ _ _ _ _ => pgf_name (i := 12) sc_behind.nd rfl (by first | exact .inl rfl | exact .inr rfl) (by decide)) (fun _ _ _ _ _ => ptsf_one ((pwf_and (pt_cmpf (op_neD hr.units) vok_ne (po_b (pv 12)) (po_b (pv 10)) (nomark _)) (pwf_and1 (pt_cmpf (op_eqD hr.units) vok_eq (po_t (pf_ix ix_seq vok_ix (po_b (pv 8)) (po_b (pv 12)) (fun _ _ => rfl))) (po_t (pf_ix ix_seq vok_ix (po_b (pv 8)) (po_b (pv 10)) (fun _ _ => rfl))) (nomark _)))).pt)) (fun _ _ _ _ _ => pf_var (pv 12))))))))
      (psf_one (psf_ret (pf_tup (paf_cons (o := .t (opF subD [.t (opF lenSetD [.b 6]), .t (opF lenSetD [.b 8])])) (po_t (pf_bin op_sub vok_sub (po_t (pf_lenSet rfl (by rfl) T.z_len (by rfl) T.z_set (paf_cons (o := .b 6) (po_b (pv 6)) paf_nil))) (po_t (pf_lenSet rfl (by rfl) T.z_len (by rfl) T.z_set (paf_cons (o := .b 8) (po_b (pv 8)) paf_nil))))) (paf_cons (o := .t (tupF [.t (movF 2), .t (movF 4), .t (opF tupleD [.b 9])])) (po_t (pf_tup (paf_cons (o := .t (movF 2)) (po_t (pf_mov (pv 2))) (paf_cons (o := .t (movF 4)) (po_t (pf_mov (pv 4))) (paf_cons (o := .t (opF tupleD [.b 9])) (po_t (pf_callTy call_tuple_of vok_tuple (by rfl) T.z_tuple boot_tuple (paf_cons (o := .b 9) (po_b (pv 9)) paf_nil))) paf_nil))))) paf_nil)))))))))))
theorem ok_next (T : Tx K mg) : FnOk P w K mg base CX0 1 T.f_next T.fd_next ["_law_spring_here", "_law_limit"] (spOf K fn_next) := by
  unfold fn_next
  refine fn_ok (k := 0) (x := "_law_next") (qual := "_law_next") (st := s_next) (N := ["_law_spring_here", "_law_limit", "_law_digit", "_law_mixed"]) (ps := ["_law_spring_here", "_law_limit"]) (pins := [true, true]) (fb := F_next) T.F_next sc_next rfl (by decide) ?_
  intro cdv A outer s H E hr
  unfold F_next
  exact psf_cons (f := ifF (bT (opF (gtD) [.t (opF ixD [.b 0, .t (litF (.int 0))]), .t (litF (.int 0))])) (seqF (asgF (opF modD [.t (opF intD [.t (opF ixD [.b 0, .t (litF (.int 0))])]), .b 1]) (tgN 2)) <|
      seqF (asgF (opF fdivD [.t (opF ixD [.b 0, .t (litF (.int 0))]), .b 1]) (tgSub 0 (.t (litF (.int 0))))) <|
      retF (movF 2)) (passF)) (psf_if (fc := bT (opF (gtD) [.t (opF ixD [.b 0, .t (litF (.int 0))]), .t (litF (.int 0))])) (pt_cmpf op_gt vok_gt (po_t (pf_ix ix_seq vok_ix (po_b (pv 0)) (po_t (pf_int)) (fun _ _ => rfl))) (po_t (pf_int)) (nomark _)) (psf_cons (f := asgF (opF modD [.t (opF intD [.t (opF ixD [.b 0, .t (litF (.int 0))])]), .b 1]) (tgN 2)) (psf_set (i := 2) sc_next.nd rfl (by first | exact .inl rfl | exact .inr rfl) (by decide) (pf_bin op_modN vok_mod (po_t (pf_callTy call_int1 vok_int (by rfl) T.z_int boot_int (paf_cons (o := .t (opF ixD [.b 0, .t (litF (.int 0))])) (po_t (pf_ix ix_seq vok_ix (po_b (pv 0)) (po_t (pf_int)) (fun _ _ => rfl))) paf_nil))) (po_b (pv 1))))
      (psf_cons (f := asgF (opF fdivD [.t (opF ixD [.b 0, .t (litF (.int 0))]), .b 1]) (tgSub 0 (.t (litF (.int 0))))) (psf_asg (f := opF fdivD [.t (opF ixD [.b 0, .t (litF (.int 0))]), .b 1]) (g := tgSub 0 (.t (litF (.int 0)))) (pf_bin op_fdivA vok_fdiv (po_t (pf_ix ix_seq vok_ix (po_b (pv 0)) (po_t (pf_int)) (fun _ _ => rfl))) (po_b (pv 1))) (pgf_sub (k := 0) (oi := .t (litF (.int 0))) (pv 0) (po_t (pf_int))))
      (psf_one (psf_ret (pf_mov (pv 2)))))) (psf_nil))
      (psf_cons (f := asgF (opF addD [.t (opF ixD [.b 0, .t (litF (.int 2))]), .t (litF (.int 1))]) (tgSub 0 (.t (litF (.int 2))))) (psf_asg (f := opF addD [.t (opF ixD [.b 0, .t (litF (.int 2))]), .t (litF (.int 1))]) (g := tgSub 0 (.t (litF (.int 2)))) (pf_bin op_addA vok_add (po_t (pf_ix ix_seq vok_ix (po_b (pv 0)) (po_t (pf_int)) (fun _ _ => rfl))) (po_t (pf_int))) (pgf_sub (k := 0) (oi := .t (litF (.int 2))) (pv 0) (po_t (pf_int))))
      (psf_cons (f := asgF (opF modD [.t (opF intD [.t (opF addD [.t (opF powD [.t (opF addD [.t (opF ixD [.b 0, .t (litF (.int 1))]), .t (opF mulD [.t (litF (.int 86028157)), .t (opF ixD [.b 0, .t (litF (.int 2))])])]), .t (litF (.int 3))]), .t (opF mulD [.t (litF (.int 49979687)), .t (opF ixD [.b 0, .t (litF (.int 2))])])])]), .t (opF addD [.t (opF powD [.t (litF (.int 10)), .t (litF (.int 43))]), .t (litF (.int 9))])]) (tgN 3)) (psf_set (i := 3) sc_next.nd rfl (by first | exact .inl rfl | exact .inr rfl) (by decide) (pf_bin op_modN vok_mod (po_t (pf_callTy call_int1 vok_int (by rfl) T.z_int boot_int (paf_cons (o := .t (opF addD [.t (opF powD [.t (opF addD [.t (opF ixD [.b 0, .t (litF (.int 1))]), .t (opF mulD [.t (litF (.int 86028157)), .t (opF ixD [.b 0, .t (litF (.int 2))])])]), .t (litF (.int 3))]), .t (opF mulD [.t (litF (.int 49979687)), .t (opF ixD [.b 0, .t (litF (.int 2))])])])) (po_t (pf_bin op_addA vok_add (po_t (pf_bin op_powA vok_pow (po_t (pf_bin op_addA vok_add (po_t (pf_ix ix_seq vok_ix (po_b (pv 0)) (po_t (pf_int)) (fun _ _ => rfl))) (po_t (pf_bin op_mulA vok_mul (po_t (pf_int)) (po_t (pf_ix ix_seq vok_ix (po_b (pv 0)) (po_t (pf_int)) (fun _ _ => rfl))))))) (po_t (pf_int)))) (po_t (pf_bin op_mulA vok_mul (po_t (pf_int)) (po_t (pf_ix ix_seq vok_ix (po_b (pv 0)) (po_t (pf_int)) (fun _ _ => rfl))))))) paf_nil))) (po_t (pf_bin op_addA vok_add (po_t (pf_bin op_powA vok_pow (po_t (pf_int)) (po_t (pf_int)))) (po_t (pf_int))))))
      (psf_cons (f := asgF (opF modD [.t (opF intD [.t (opF powD [.t (opF addD [.b 3, .t (opF mulD [.t (opF mulD [.t (litF (.int 67867967)), .t (opF ixD [.b 0, .t (litF (.int 2))])]), .t (opF ixD [.b 0, .t (litF (.int 2))])])]), .t (litF (.int 2))])]), .t (opF addD [.t (opF powD [.t (litF (.int 10)), .t (litF (.int 41))]), .t (litF (.int 7))])]) (tgN 3)) (psf_set (i := 3) sc_next.nd rfl (by first | exact .inl rfl | exact .inr rfl) (by decide) (pf_bin op_modN vok_mod (po_t (pf_callTy call_int1 vok_int (by rfl) T.z_int boot_int (paf_cons (o := .t (opF powD [.t (opF addD [.b 3, .t (opF mulD [.t (opF mulD [.t (litF (.int 67867967)), .t (opF ixD [.b 0, .t (litF (.int 2))])]), .t (opF ixD [.b 0, .t (litF (.int 2))])])]), .t (litF (.int 2))])) (po_t (pf_bin op_powA vok_pow (po_t (pf_bin op_addA vok_add (po_b (pv 3)) (po_t (pf_bin op_mulA vok_mul (po_t (pf_bin op_mulA vok_mul (po_t (pf_int)) (po_t (pf_ix ix_seq vok_ix (po_b (pv 0)) (po_t (pf_int)) (fun _ _ => rfl))))) (po_t (pf_ix ix_seq vok_ix (po_b (pv 0)) (po_t (pf_int)) (fun _ _ => rfl))))))) (po_t (pf_int)))) paf_nil))) (po_t (pf_bin op_addA vok_add (po_t (pf_bin op_powA vok_pow (po_t (pf_int)) (po_t (pf_int)))) (po_t (pf_int))))))
      (psf_one (psf_ret (pf_bin op_modN vok_mod (po_t (pf_callTy call_int1 vok_int (by rfl) T.z_int boot_int (paf_cons (o := .t (opF fdivD [.b 3, .t (opF powD [.t (litF (.int 10)), .t (litF (.int 8))])])) (po_t (pf_bin op_fdivA vok_fdiv (po_b (pv 3)) (po_t (pf_bin op_powA vok_pow (po_t (pf_int)) (po_t (pf_int)))))) paf_nil))) (po_b (pv 1))))))))
theorem ok_round (T : Tx K mg) : FnOk P w K mg base CX0 1 T.f_round T.fd_round ["_law_n", "_law_m"] (spOf K fn_round) := by
  unfold fn_round
  refine fn_ok (k := 0) (x := "_law_round") (qual := "_law_round") (st := s_round) (N := ["_law_n", "_law_m"]) (ps := ["_law_n", "_law_m"]) (pins := [true, true]) (fb := F_round) T.F_round sc_round rfl (by decide) ?_
  intro cdv A outer s H E hr
  unfold F_round
  exact psf_one (psf_ret (pf_bin op_addA vok_add (po_t (pf_lrg1 rfl (by rfl) T.z_list (by rfl) T.z_range (paf_cons (o := .b 0) (po_b (pv 0)) paf_nil))) (po_t (pf_lrg3 rfl (by rfl) T.z_list (by rfl) T.z_range (paf_cons (o := .t (opF subD [.t (opF addD [.b 0, .b 1]), .t (litF (.int 1))])) (po_t (pf_bin op_sub vok_sub (po_t (pf_bin op_addA vok_add (po_b (pv 0)) (po_b (pv 1)))) (po_t (pf_int)))) (paf_cons (o := .t (opF subD [.b 0, .t (litF (.int 1))])) (po_t (pf_bin op_sub vok_sub (po_b (pv 0)) (po_t (pf_int)))) (paf_cons (o := .t (opF negD [.t (litF (.int 1))])) (po_t (pf_un un_neg vok_neg (po_t (pf_int)))) paf_nil)))))))
theorem ok_mat (T : Tx K mg) : FnOk P w K mg base CX0 2 T.f_mat T.fd_mat ["_law_spring_here", "_law_n", "_law_m"] (spOf K fn_mat) := by
  unfold fn_mat
  refine fn_ok (k := 1) (x := "_law_mat") (qual := "_law_mat") (st := s_mat) (N := ["_law_spring_here", "_law_n", "_law_m", "_law_order", "_law_mates", "_law_opened", "_law_lean", "_law_at", "_law_opens", "_law_mate"]) (ps := ["_law_spring_here", "_law_n", "_law_m"]) (pins := [true, true, true]) (fb := F_mat) T.F_mat sc_mat rfl (by decide) ?_
  intro cdv A outer s H E hr
  unfold F_mat
  exact psf_cons (f := parF [3, 4, 5] [.t (callF fn_round [.b 1, .b 2]), .t (opF mulD [.t (lstF [.t (litF (.int 0))]), .t (opF addD [.b 1, .b 2])]), .t (lstF [])]) (psf_par3 (i := 3) (j := 4) (l := 5) rfl sc_mat.nd rfl rfl rfl  (by decide) (by decide) (by decide)  (by decide) rfl rfl rfl  (paf_cons (o := .t (callF fn_round [.b 1, .b 2])) (po_t (pf_call (ok_round T) (hr.mono (by decide)) (by rfl) T.g_round T.F_round.kp T.b_round (paf_cons (o := .b 1) (po_b (pv 1)) (paf_cons (o := .b 2) (po_b (pv 2)) paf_nil)))) (paf_cons (o := .t (opF mulD [.t (lstF [.t (litF (.int 0))]), .t (opF addD [.b 1, .b 2])])) (po_t (pf_bin op_mulA vok_mul (po_t (pf_lst (paf_cons (o := .t (litF (.int 0))) (po_t (pf_int)) paf_nil))) (po_t (pf_bin op_addA vok_add (po_b (pv 1)) (po_b (pv 2)))))) (paf_cons (o := .t (lstF [])) (po_t (pf_lst paf_nil)) paf_nil))) rfl)
      (psf_cons (f := asgF (callF fn_next [.b 0, .t (litF (.int 6))]) (tgN 6)) (psf_set (i := 6) sc_mat.nd rfl (by first | exact .inl rfl | exact .inr rfl) (by decide) (pf_call (ok_next T) (hr.mono (by decide)) (by rfl) T.g_next T.F_next.kp T.b_next (paf_cons (o := .b 0) (po_b (pv 0)) (paf_cons (o := .t (litF (.int 6))) (po_t (pf_int)) paf_nil))))
      (psf_cons (f := forF (itRg rng1D [.t (opF addD [.b 1, .b 2])]) (tgN 7) (seqF (asgF (opF (eqD) [.t (callF fn_next [.b 0, .t (litF (.int 2))]), .t (litF (.int 0))]) (tgN 8)) <|
      seqF (ifF (orF (bT (opF (eqD) [.b 6, .t (litF (.int 1))])) (bT (opF (eqD) [.b 6, .t (litF (.int 2))]))) (asgF (opF (eqD) [.t (opF (gtD) [.t (callF fn_next [.b 0, .t (litF (.int 5))]), .t (litF (.int 0))]), .t (opF (ltD) [.b 7, .b 1])]) (tgN 8)) (ifF (bT (opF (eqD) [.b 6, .t (litF (.int 3))])) (asgF (opF (ltD) [.t (opF mulD [.t (litF (.int 2)), .b 7]), .t (opF addD [.b 1, .b 2])]) (tgN 8)) (ifF (bT (opF (eqD) [.b 6, .t (litF (.int 4))])) (asgF (orV (varF 8) (opF (eqD) [.t (callF fn_next [.b 0, .t (litF (.int 2))]), .t (litF (.int 0))])) (tgN 8)) (passF)))) <|
      ifF (orF (bT (opF (eqD) [.b 5, .t (lstF [])])) (andF (tstF (.b 8)) (bT (opF (ltD) [.t (opF lenD [.b 5]), .t (opF subD [.t (opF addD [.b 1, .b 2]), .b 7])])))) (dropF (mutF 5 appD [.t (opF ixD [.b 3, .b 7])])) (seqF (asgF (mutF 5 popD []) (tgN 9)) <|
      asgF (tupF [.t (opF ixD [.b 3, .b 7]), .t (varF 9)]) (tgT 2 (tgCons (tgSub 4 (.b 9)) (tgCons (tgSub 4 (.t (opF ixD [.b 3, .b 7]))) (tgNil))))))) (psf_for (fi := itRg rng1D [.t (opF addD [.b 1, .b 2])]) (g := tgN 7) PassesOwn.never rfl (pif_rng1 (by rfl) T.z_range (paf_cons (o := .t (opF addD [.b 1, .b 2])) (po_t (pf_bin op_addA vok_add (po_b (pv 1)) (po_b (pv 2)))) paf_nil)) (pgf_name (i := 7) sc_mat.nd rfl (by first | exact .inl rfl | exact .inr rfl) (by decide)) (psf_cons (f := asgF (opF (eqD) [.t (callF fn_next [.b 0, .t (litF (.int 2))]), .t (litF (.int 0))]) (tgN 8)) (psf_set (i := 8) sc_mat.nd rfl (by first | exact .inl rfl | exact .inr rfl) (by decide) (pf_cmp (op_eqD hr.units) vok_eq (po_t (pf_call (ok_next T) (hr.mono (by decide)) (by rfl) T.g_next T.F_next.kp T.b_next (paf_cons (o := .b 0) (po_b (pv 0)) (paf_cons (o := .t (litF (.int 2))) (po_t (pf_int)) paf_nil)))) (po_t (pf_int)) (nomark _)))
      (psf_cons (f := ifF (orF (bT (opF (eqD) [.b 6, .t (litF (.int 1))])) (bT (opF (eqD) [.b 6, .t (litF (.int 2))]))) (asgF (opF (eqD) [.t (opF (gtD) [.t (callF fn_next [.b 0, .t (litF (.int 5))]), .t (litF (.int 0))]), .t (opF (ltD) [.b 7, .b 1])]) (tgN 8)) (ifF (bT (opF (eqD) [.b 6, .t (litF (.int 3))])) (asgF (opF (ltD) [.t (opF mulD [.t (litF (.int 2)), .b 7]), .t (opF addD [.b 1, .b 2])]) (tgN 8)) (ifF (bT (opF (eqD) [.b 6, .t (litF (.int 4))])) (asgF (orV (varF 8) (opF (eqD) [.t (callF fn_next [.b 0, .t (litF (.int 2))]), .t (litF (.int 0))])) (tgN 8)) (passF)))) (psf_if (fc := orF (bT (opF (eqD) [.b 6, .t (litF (.int 1))])) (bT (opF (eqD) [.b 6, .t (litF (.int 2))]))) ((pwf_or (pt_cmpf (op_eqD hr.units) vok_eq (po_b (pv 6)) (po_t (pf_int)) (nomark _)) (pwf_or1 (pt_cmpf (op_eqD hr.units) vok_eq (po_b (pv 6)) (po_t (pf_int)) (nomark _)))).pt) (psf_one (psf_set (i := 8) sc_mat.nd rfl (by first | exact .inl rfl | exact .inr rfl) (by decide) (pf_cmp (op_eqD hr.units) vok_eq (po_t (pf_cmp op_gt vok_gt (po_t (pf_call (ok_next T) (hr.mono (by decide)) (by rfl) T.g_next T.F_next.kp T.b_next (paf_cons (o := .b 0) (po_b (pv 0)) (paf_cons (o := .t (litF (.int 5))) (po_t (pf_int)) paf_nil)))) (po_t (pf_int)) (nomark _))) (po_t (pf_cmp op_lt vok_lt (po_b (pv 7)) (po_b (pv 1)) (nomark _))) (nomark _)))) (psf_one (psf_if (fc := bT (opF (eqD) [.b 6, .t (litF (.int 3))])) (pt_cmpf (op_eqD hr.units) vok_eq (po_b (pv 6)) (po_t (pf_int)) (nomark _)) (psf_one (psf_set (i := 8) sc_mat.nd rfl (by first | exact .inl rfl | exact .inr rfl) (by decide) (pf_cmp op_lt vok_lt (po_t (pf_bin op_mulA vok_mul (po_t (pf_int)) (po_b (pv 7)))) (po_t (pf_bin op_addA vok_add (po_b (pv 1)) (po_b (pv 2)))) (nomark _)))) (psf_one (psf_if (fc := bT (opF (eqD) [.b 6, .t (litF (.int 4))])) (pt_cmpf (op_eqD hr.units) vok_eq (po_b (pv 6)) (po_t (pf_int)) (nomark _)) (psf_one (psf_set (i := 8) sc_mat.nd rfl (by first | exact .inl rfl | exact .inr rfl) (by decide) (pf_or (pf_var (pv 8)) (pf_one (pf_cmp (op_eqD hr.units) vok_eq (po_t (pf_call (ok_next T) (hr.mono (by decide)) (by rfl) T.g_next T.F_next.kp T.b_next (paf_cons (o := .b 0) (po_b (pv 0)) (paf_cons (o := .t (litF (.int 2))) (po_t (pf_int)) paf_nil)))) (po_t (pf_int)) (nomark _)))))) (psf_nil))))))
      (psf_one (psf_if (fc := orF (bT (opF (eqD) [.b 5, .t (lstF [])])) (andF (tstF (.b 8)) (bT (opF (ltD) [.t (opF lenD [.b 5]), .t (opF subD [.t (opF addD [.b 1, .b 2]), .b 7])])))) ((pwf_or (pt_cmpf (op_eqD hr.units) vok_eq (po_b (pv 5)) (po_t (pf_lst paf_nil)) (nomark _)) (pwf_or1 ((pwf_and (pt_tst (o := .b 8) (po_b (pv 8))) (pwf_and1 (pt_cmpf op_lt vok_lt (po_t (pf_callB call_len_seq vok_len (by rfl) T.z_len PySem.boot_len (paf_cons (o := .b 5) (po_b (pv 5)) paf_nil))) (po_t (pf_bin op_sub vok_sub (po_t (pf_bin op_addA vok_add (po_b (pv 1)) (po_b (pv 2)))) (po_b (pv 7)))) (nomark _)))).pt))).pt) (psf_one (psf_expr (pf_append (i := 5) (pv 5) (paf_cons (o := .t (opF ixD [.b 3, .b 7])) (po_t (pf_ix ix_seq vok_ix (po_b (pv 3)) (po_b (pv 7)) (fun _ _ => rfl))) paf_nil)))) (psf_cons (f := asgF (mutF 5 popD []) (tgN 9)) (psf_set (i := 9) sc_mat.nd rfl (by first | exact .inl rfl | exact .inr rfl) (by decide) (pf_pop (i := 5) (pv 5)))
      (psf_one (psf_asg (f := tupF [.t (opF ixD [.b 3, .b 7]), .t (varF 9)]) (g := tgT 2 (tgCons (tgSub 4 (.b 9)) (tgCons (tgSub 4 (.t (opF ixD [.b 3, .b 7]))) (tgNil)))) (pf_tup (paf_cons (o := .t (opF ixD [.b 3, .b 7])) (po_t (pf_ix ix_seq vok_ix (po_b (pv 3)) (po_b (pv 7)) (fun _ _ => rfl))) (paf_cons (o := .t (varF 9)) (po_t (pf_var (pv 9))) paf_nil))) (pgf_tup rfl (pgsf_cons (pgf_sub (k := 4) (oi := .b 9) (pv 4) (po_b (pv 9))) (pgsf_cons (pgf_sub (k := 4) (oi := .t (opF ixD [.b 3, .b 7])) (pv 4) (po_t (pf_ix ix_seq vok_ix (po_b (pv 3)) (po_b (pv 7)) (fun _ _ => rfl)))) (pgsf_nil))))))))))))
      (psf_one (psf_ret (pf_tup (paf_cons (o := .t (varF 1)) (po_t (pf_var (pv 1))) (paf_cons (o := .t (varF 2)) (po_t (pf_var (pv 2))) (paf_cons (o := .t (opF tupleD [.b 4])) (po_t (pf_callTy call_tuple_of vok_tuple (by rfl) T.z_tuple boot_tuple (paf_cons (o := .b 4) (po_b (pv 4)) paf_nil))) paf_nil))))))))
theorem ok_row_rings (T : Tx K mg) : FnOk P w K mg base CX0 2 T.f_row_rings T.fd_row_rings ["_law_mats"] (spOf K fn_row_rings) := by
  unfold fn_row_rings
  refine fn_ok (k := 1) (x := "_law_row_rings") (qual := "_law_row_rings") (st := s_row_rings) (N := ["_law_mats", "_law_n", "_law_links_here", "_law_at", "_law_ahead", "_law_peg"]) (ps := ["_law_mats"]) (pins := [true]) (fb := F_row_rings) T.F_row_rings sc_row_rings rfl (by decide) ?_
  intro cdv A outer s H E hr
  unfold F_row_rings
  exact psf_cons (f := asgF (opF ixD [.t (opF ixD [.b 0, .t (litF (.int 0))]), .t (litF (.int 0))]) (tgN 1)) (psf_set (i := 1) sc_row_rings.nd rfl (by first | exact .inl rfl | exact .inr rfl) (by decide) (pf_ix ix_seq vok_ix (po_t (pf_ix ix_seq vok_ix (po_b (pv 0)) (po_t (pf_int)) (fun _ _ => rfl))) (po_t (pf_int)) (fun _ _ => rfl)))
      (psf_cons (f := asgF (lstF []) (tgN 2)) (psf_set (i := 2) sc_row_rings.nd rfl (by first | exact .inl rfl | exact .inr rfl) (by decide) (pf_lst paf_nil))
      (psf_cons (f := forF (itRg rng1D [.t (opF lenD [.b 0])]) (tgN 3) (seqF (asgF (opF addD [.b 2, .t (callF fn_links [.t (opF ixD [.b 0, .b 3]), .t (opF mulD [.t (opF mulD [.t (litF (.int 2)), .b 1]), .b 3])])]) (tgN 2)) <|
      seqF (asgF (opF mulD [.t (opF mulD [.t (litF (.int 2)), .b 1]), .t (opF modD [.t (opF intD [.t (opF addD [.b 3, .t (litF (.int 1))])]), .t (opF lenD [.b 0])])]) (tgN 4)) <|
      asgF (opF addD [.b 2, .t (lcF [5] (itRg rng1D [.b 1]) (tgN 5) (yesF) (tupF [.t (opF addD [.t (opF addD [.t (opF mulD [.t (opF mulD [.t (litF (.int 2)), .b 1]), .b 3]), .b 1]), .b 5]), .t (opF addD [.b 4, .b 5])]))]) (tgN 2))) (psf_for (fi := itRg rng1D [.t (opF lenD [.b 0])]) (g := tgN 3) PassesOwn.never rfl (pif_rng1 (by rfl) T.z_range (paf_cons (o := .t (opF lenD [.b 0])) (po_t (pf_callB call_len_seq vok_len (by rfl) T.z_len PySem.boot_len (paf_cons (o := .b 0) (po_b (pv 0)) paf_nil))) paf_nil)) (pgf_name (i := 3) sc_row_rings.nd rfl (by first | exact .inl rfl | exact .inr rfl) (by decide)) (psf_cons (f := asgF (opF addD [.b 2, .t (callF fn_links [.t (opF ixD [.b 0, .b 3]), .t (opF mulD [.t (opF mulD [.t (litF (.int 2)), .b 1]), .b 3])])]) (tgN 2)) (psf_set (i := 2) sc_row_rings.nd rfl (by first | exact .inl rfl | exact .inr rfl) (by decide) (pf_bin op_addA vok_add (po_b (pv 2)) (po_t (pf_call (ok_links T) (hr.mono (by decide)) (by rfl) T.g_links T.F_links.kp T.b_links (paf_cons (o := .t (opF ixD [.b 0, .b 3])) (po_t (pf_ix ix_seq vok_ix (po_b (pv 0)) (po_b (pv 3)) (fun _ _ => rfl))) (paf_cons (o := .t (opF mulD [.t (opF mulD [.t (litF (.int 2)), .b 1]), .b 3])) (po_t (pf_bin op_mulA vok_mul (po_t (pf_bin op_mulA vok_mul (po_t (pf_int)) (po_b (pv 1)))) (po_b (pv 3)))) paf_nil))))))
      (psf_cons (f := asgF (opF mulD [.t (opF mulD [.t (litF (.int 2)), .b 1]), .t (opF modD [.t (opF intD [.t (opF addD [.b 3, .t (litF (.int 1))])]), .t (opF lenD [.b 0])])]) (tgN 4)) (psf_set (i := 4) sc_row_rings.nd rfl (by first | exact .inl rfl | exact .inr rfl) (by decide) (pf_bin op_mulA vok_mul (po_t (pf_bin op_mulA vok_mul (po_t (pf_int)) (po_b (pv 1)))) (po_t (pf_bin op_modN vok_mod (po_t (pf_callTy call_int1 vok_int (by rfl) T.z_int boot_int (paf_cons (o := .t (opF addD [.b 3, .t (litF (.int 1))])) (po_t (pf_bin op_addA vok_add (po_b (pv 3)) (po_t (pf_int)))) paf_nil))) (po_t (pf_callB call_len_seq vok_len (by rfl) T.z_len PySem.boot_len (paf_cons (o := .b 0) (po_b (pv 0)) paf_nil)))))))
      (psf_one (psf_set (i := 2) sc_row_rings.nd rfl (by first | exact .inl rfl | exact .inr rfl) (by decide) (pf_bin op_addA vok_add (po_b (pv 2)) (po_t (pf_lc (own := [("_law_peg", 5)]) (fi := itRg rng1D [.b 1]) (fg := tgN 5) (ft := yesF) (fe := tupF [.t (opF addD [.t (opF addD [.t (opF mulD [.t (opF mulD [.t (litF (.int 2)), .b 1]), .b 3]), .b 1]), .b 5]), .t (opF addD [.b 4, .b 5])]) rfl sc_row_rings.nd (pif_rng1 (by rfl) T.z_range (paf_cons (o := .b 1) (po_b (pv 1)) paf_nil)) (blkOk_by (own := [("_law_peg", 5)]) (by rfl)) (fun _ _ _ _ _ => pgf_name (i := 5) sc_row_rings.nd rfl (by first | exact .inl rfl | exact .inr rfl) (by decide)) (fun _ _ _ _ _ => ptsf_nil) (fun _ _ _ _ _ => pf_tup (paf_cons (o := .t (opF addD [.t (opF addD [.t (opF mulD [.t (opF mulD [.t (litF (.int 2)), .b 1]), .b 3]), .b 1]), .b 5])) (po_t (pf_bin op_addA vok_add (po_t (pf_bin op_addA vok_add (po_t (pf_bin op_mulA vok_mul (po_t (pf_bin op_mulA vok_mul (po_t (pf_int)) (po_b (pv 1)))) (po_b (pv 3)))) (po_b (pv 1)))) (po_b (pv 5)))) (paf_cons (o := .t (opF addD [.b 4, .b 5])) (po_t (pf_bin op_addA vok_add (po_b (pv 4)) (po_b (pv 5)))) paf_nil)))))))))))
      (psf_one (psf_ret (pf_lenSet rfl (by rfl) T.z_len (by rfl) T.z_set (paf_cons (o := .t (callF fn_lots [.t (opF mulD [.t (opF mulD [.t (litF (.int 2)), .b 1]), .t (opF lenD [.b 0])]), .b 2])) (po_t (pf_call (ok_lots T) (hr.mono (by decide)) (by rfl) T.g_lots T.F_lots.kp T.b_lots (paf_cons (o := .t (opF mulD [.t (opF mulD [.t (litF (.int 2)), .b 1]), .t (opF lenD [.b 0])])) (po_t (pf_bin op_mulA vok_mul (po_t (pf_bin op_mulA vok_mul (po_t (pf_int)) (po_b (pv 1)))) (po_t (pf_callB call_len_seq vok_len (by rfl) T.z_len PySem.boot_len (paf_cons (o := .b 0) (po_b (pv 0)) paf_nil))))) (paf_cons (o := .b 2) (po_b (pv 2)) paf_nil)))) paf_nil))))))
theorem ok_power_rings (T : Tx K mg) : FnOk P w K mg base CX0 3 T.f_power_rings T.fd_power_rings ["_law_mat_here", "_law_times"] (spOf K fn_power_rings) := by
  unfold fn_power_rings
  refine fn_ok (k := 2) (x := "_law_power_rings") (qual := "_law_power_rings") (st := s_power_rings) (N := ["_law_mat_here", "_law_times", "_law_whole", "_law_rings", "_law_step", "_law_more", "_law_further"]) (ps := ["_law_mat_here", "_law_times"]) (pins := [true, true]) (fb := F_power_rings) T.F_power_rings sc_power_rings rfl (by decide) ?_
  intro cdv A outer s H E hr
  unfold F_power_rings
  exact psf_cons (f := parF [2, 3] [.t (varF 0), .t (litF (.int 0))]) (psf_par2 (i := 2) (j := 3) rfl sc_power_rings.nd rfl rfl  (by decide)  (by decide) rfl rfl  (paf_cons (o := .t (varF 0)) (po_t (pf_var (pv 0))) (paf_cons (o := .t (litF (.int 0))) (po_t (pf_int)) paf_nil)) rfl)
      (psf_cons (f := forF (itRg rng2D [.t (litF (.int 1)), .t (opF min2D [.b 1, .t (litF (.int 12))])]) (tgN 4) (seqF (asgF (callF fn_behind [.b 2, .b 0]) (tgT 2 (tgCons (tgN 5) (tgCons (tgN 6) (tgNil))))) <|
      seqF (ifF (bT (opF (eqD) [.b 6, .b 2])) (retF (opF addD [.t (opF addD [.b 3, .t (opF mulD [.b 5, .t (opF subD [.b 1, .b 4])])]), .t (callF fn_row_rings [.t (lstF [.t (varF 2)])])])) (passF)) <|
      parF [2, 3] [.t (varF 6), .t (opF addD [.b 3, .b 5])])) (psf_for (fi := itRg rng2D [.t (litF (.int 1)), .t (opF min2D [.b 1, .t (litF (.int 12))])]) (g := tgN 4) PassesOwn.never rfl (pif_rng2 (by rfl) T.z_range (paf_cons (o := .t (litF (.int 1))) (po_t (pf_int)) (paf_cons (o := .t (opF min2D [.b 1, .t (litF (.int 12))])) (po_t (pf_callB (call_min2 rfl) vok_min2 (by rfl) T.z_min (by decide +kernel) (paf_cons (o := .b 1) (po_b (pv 1)) (paf_cons (o := .t (litF (.int 12))) (po_t (pf_int)) paf_nil)))) paf_nil))) (pgf_name (i := 4) sc_power_rings.nd rfl (by first | exact .inl rfl | exact .inr rfl) (by decide)) (psf_cons (f := asgF (callF fn_behind [.b 2, .b 0]) (tgT 2 (tgCons (tgN 5) (tgCons (tgN 6) (tgNil))))) (psf_asg (f := callF fn_behind [.b 2, .b 0]) (g := tgT 2 (tgCons (tgN 5) (tgCons (tgN 6) (tgNil)))) (pf_call (ok_behind T) (hr.mono (by decide)) (by rfl) T.g_behind T.F_behind.kp T.b_behind (paf_cons (o := .b 2) (po_b (pv 2)) (paf_cons (o := .b 0) (po_b (pv 0)) paf_nil))) (pgf_tup rfl (pgsf_cons (pgf_name (i := 5) sc_power_rings.nd rfl (by first | exact .inl rfl | exact .inr rfl) (by decide)) (pgsf_cons (pgf_name (i := 6) sc_power_rings.nd rfl (by first | exact .inl rfl | exact .inr rfl) (by decide)) (pgsf_nil)))))
      (psf_cons (f := ifF (bT (opF (eqD) [.b 6, .b 2])) (retF (opF addD [.t (opF addD [.b 3, .t (opF mulD [.b 5, .t (opF subD [.b 1, .b 4])])]), .t (callF fn_row_rings [.t (lstF [.t (varF 2)])])])) (passF)) (psf_if (fc := bT (opF (eqD) [.b 6, .b 2])) (pt_cmpf (op_eqD hr.units) vok_eq (po_b (pv 6)) (po_b (pv 2)) (nomark _)) (psf_one (psf_ret (pf_bin op_addA vok_add (po_t (pf_bin op_addA vok_add (po_b (pv 3)) (po_t (pf_bin op_mulA vok_mul (po_b (pv 5)) (po_t (pf_bin op_sub vok_sub (po_b (pv 1)) (po_b (pv 4)))))))) (po_t (pf_call (ok_row_rings T) (hr.mono (by decide)) (by rfl) T.g_row_rings T.F_row_rings.kp T.b_row_rings (paf_cons (o := .t (lstF [.t (varF 2)])) (po_t (pf_lst (paf_cons (o := .t (varF 2)) (po_t (pf_var (pv 2))) paf_nil))) paf_nil)))))) (psf_nil))
      (psf_one (psf_par2 (i := 2) (j := 3) rfl sc_power_rings.nd rfl rfl  (by decide)  (by decide) rfl rfl  (paf_cons (o := .t (varF 6)) (po_t (pf_var (pv 6))) (paf_cons (o := .t (opF addD [.b 3, .b 5])) (po_t (pf_bin op_addA vok_add (po_b (pv 3)) (po_b (pv 5)))) paf_nil)) rfl)))))
      (psf_one (psf_ret (pf_bin op_addA vok_add (po_b (pv 3)) (po_t (pf_call (ok_row_rings T) (hr.mono (by decide)) (by rfl) T.g_row_rings T.F_row_rings.kp T.b_row_rings (paf_cons (o := .t (lstF [.t (varF 2)])) (po_t (pf_lst (paf_cons (o := .t (varF 2)) (po_t (pf_var (pv 2))) paf_nil))) paf_nil)))))))
theorem ok_same_at (T : Tx K mg) : ∀ n : Nat, FnOk P w K mg base CX0 (n + 1) T.f_same T.fd_same ["_law_found", "_law_due"] (spOf K (fn_same_at n))
  | 0 => (stuck_ok (k := 0) T.F_same sc_same).mono (by omega)
  | n + 1 => by
    have IH := ok_same_at T n
    refine FnOk.mono (k := n + 1 + 1) (fn_ok (k := n + 1) (x := "_law_same") (qual := "_law_same") (st := s_same) (N := ["_law_found", "_law_due", "_law_at"]) (ps := ["_law_found", "_law_due"]) (pins := [true, true]) (fb := F_same (fn_same_at n)) T.F_same sc_same rfl (by decide) ?_) (by omega)
    intro cdv A outer s H E hr
    unfold F_same
    exact psf_cons (f := ifF (bT (opF (isNonD) [.b 1, .t (litF .non)])) (retF (opF (isNonD) [.b 0, .t (litF .non)])) (passF)) (psf_if (fc := bT (opF (isNonD) [.b 1, .t (litF .non)])) (pt_cmpf op_isN vok_isNon (po_b (pv 1)) (po_t (pf_non)) (nomark _)) (psf_one (psf_ret (pf_cmp op_isN vok_isNon (po_b (pv 0)) (po_t (pf_non)) (nomark _)))) (psf_nil))
      (psf_cons (f := ifF (tstF (.t (opF (isiD "bool") [.b 1]))) (retF (andV (opF (isiD "bool") [.b 0]) (opF (eqD) [.b 0, .b 1]))) (passF)) (psf_if (fc := tstF (.t (opF (isiD "bool") [.b 1]))) (pt_tst (o := .t (opF (isiD "bool") [.b 1])) (po_t (pf_isi (o := .b 1) (by rfl) T.z_isinstance (po_b (pv 1)) (pe_tyn (by rfl) T.z_bool boot_bool)))) (psf_one (psf_ret (pf_and (pf_isi (o := .b 0) (by rfl) T.z_isinstance (po_b (pv 0)) (pe_tyn (by rfl) T.z_bool boot_bool)) (pf_one (pf_cmp (op_eqD hr.units) vok_eq (po_b (pv 0)) (po_b (pv 1)) (nomark _)))))) (psf_nil))
      (psf_cons (f := ifF (tstF (.t (opF (isiD "int") [.b 1]))) (retF (andV (opF (isiD "int") [.b 0]) (andV (notV (opF (isiD "bool") [.b 0])) (opF (eqD) [.b 0, .b 1])))) (passF)) (psf_if (fc := tstF (.t (opF (isiD "int") [.b 1]))) (pt_tst (o := .t (opF (isiD "int") [.b 1])) (po_t (pf_isi (o := .b 1) (by rfl) T.z_isinstance (po_b (pv 1)) (pe_tyn (by rfl) T.z_int boot_int)))) (psf_one (psf_ret (pf_and (pf_isi (o := .b 0) (by rfl) T.z_isinstance (po_b (pv 0)) (pe_tyn (by rfl) T.z_int boot_int)) (pf_and (pf_not (pf_isi (o := .b 0) (by rfl) T.z_isinstance (po_b (pv 0)) (pe_tyn (by rfl) T.z_bool boot_bool))) (pf_one (pf_cmp (op_eqD hr.units) vok_eq (po_b (pv 0)) (po_b (pv 1)) (nomark _))))))) (psf_nil))
      (psf_cons (f := ifF (tstF (.t (opF (isiD "str") [.b 1]))) (retF (andV (opF (isiD "str") [.b 0]) (opF (eqD) [.b 0, .b 1]))) (passF)) (psf_if (fc := tstF (.t (opF (isiD "str") [.b 1]))) (pt_tst (o := .t (opF (isiD "str") [.b 1])) (po_t (pf_isi (o := .b 1) (by rfl) T.z_isinstance (po_b (pv 1)) (pe_tyn (by rfl) T.z_str boot_str)))) (psf_one (psf_ret (pf_and (pf_isi (o := .b 0) (by rfl) T.z_isinstance (po_b (pv 0)) (pe_tyn (by rfl) T.z_str boot_str)) (pf_one (pf_cmp (op_eqD hr.units) vok_eq (po_b (pv 0)) (po_b (pv 1)) (nomark _)))))) (psf_nil))
      (psf_cons (f := ifF (orF (bT (opF (neD) [.t (opF (isiD "list") [.b 1]), .t (opF (isiD "list") [.b 0])])) (bT (opF (neD) [.t (opF (isiD "tuple") [.b 1]), .t (opF (isiD "tuple") [.b 0])]))) (retF (litF (.bl false))) (passF)) (psf_if (fc := orF (bT (opF (neD) [.t (opF (isiD "list") [.b 1]), .t (opF (isiD "list") [.b 0])])) (bT (opF (neD) [.t (opF (isiD "tuple") [.b 1]), .t (opF (isiD "tuple") [.b 0])]))) ((pwf_or (pt_cmpf (op_neD hr.units) vok_ne (po_t (pf_isi (o := .b 1) (by rfl) T.z_isinstance (po_b (pv 1)) (pe_tyn (by rfl) T.z_list boot_list))) (po_t (pf_isi (o := .b 0) (by rfl) T.z_isinstance (po_b (pv 0)) (pe_tyn (by rfl) T.z_list boot_list))) (nomark _)) (pwf_or1 (pt_cmpf (op_neD hr.units) vok_ne (po_t (pf_isi (o := .b 1) (by rfl) T.z_isinstance (po_b (pv 1)) (pe_tyn (by rfl) T.z_tuple boot_tuple))) (po_t (pf_isi (o := .b 0) (by rfl) T.z_isinstance (po_b (pv 0)) (pe_tyn (by rfl) T.z_tuple boot_tuple))) (nomark _)))).pt) (psf_one (psf_ret (pf_bl))) (psf_nil))
      (psf_cons (f := ifF (bT (opF (neD) [.t (opF lenD [.b 0]), .t (opF lenD [.b 1])])) (retF (litF (.bl false))) (passF)) (psf_if (fc := bT (opF (neD) [.t (opF lenD [.b 0]), .t (opF lenD [.b 1])])) (pt_cmpf (op_neD hr.units) vok_ne (po_t (pf_callB call_len_seq vok_len (by rfl) T.z_len PySem.boot_len (paf_cons (o := .b 0) (po_b (pv 0)) paf_nil))) (po_t (pf_callB call_len_seq vok_len (by rfl) T.z_len PySem.boot_len (paf_cons (o := .b 1) (po_b (pv 1)) paf_nil))) (nomark _)) (psf_one (psf_ret (pf_bl))) (psf_nil))
      (psf_cons (f := forF (itRg rng1D [.t (opF lenD [.b 1])]) (tgN 2) (ifF (notF (tstF (.t (callF (fn_same_at n) [.t (opF ixD [.b 0, .b 2]), .t (opF ixD [.b 1, .b 2])])))) (retF (litF (.bl false))) (passF))) (psf_for (fi := itRg rng1D [.t (opF lenD [.b 1])]) (g := tgN 2) PassesOwn.never rfl (pif_rng1 (by rfl) T.z_range (paf_cons (o := .t (opF lenD [.b 1])) (po_t (pf_callB call_len_seq vok_len (by rfl) T.z_len PySem.boot_len (paf_cons (o := .b 1) (po_b (pv 1)) paf_nil))) paf_nil)) (pgf_name (i := 2) sc_same.nd rfl (by first | exact .inl rfl | exact .inr rfl) (by decide)) (psf_one (psf_if (fc := notF (tstF (.t (callF (fn_same_at n) [.t (opF ixD [.b 0, .b 2]), .t (opF ixD [.b 1, .b 2])])))) (ptf_not (pt_tst (o := .t (callF (fn_same_at n) [.t (opF ixD [.b 0, .b 2]), .t (opF ixD [.b 1, .b 2])])) (po_t (pf_call (IH) hr (by rfl) T.g_same T.F_same.kp T.b_same (paf_cons (o := .t (opF ixD [.b 0, .b 2])) (po_t (pf_ix ix_seq vok_ix (po_b (pv 0)) (po_b (pv 2)) (fun _ _ => rfl))) (paf_cons (o := .t (opF ixD [.b 1, .b 2])) (po_t (pf_ix ix_seq vok_ix (po_b (pv 1)) (po_b (pv 2)) (fun _ _ => rfl))) paf_nil)))))) (psf_one (psf_ret (pf_bl))) (psf_nil))))
      (psf_one (psf_ret (pf_bl)))))))))
theorem ok_same (T : Tx K mg) : FnOk P w K mg base CX0 21 T.f_same T.fd_same ["_law_found", "_law_due"] (spOf K fn_same) := (ok_same_at T 20).mono (by decide)
theorem ok_p_far_end (T : Tx K mg) : FnOk P w K mg base CX0 1 T.f_p_far_end T.fd_p_far_end ["one", "other", "peg", "passed"] (spOf K fn_p_far_end) := by
  unfold fn_p_far_end
  refine fn_ok (k := 0) (x := "far_end") (qual := "far_end") (st := s_p_far_end) (N := ["one", "other", "peg", "passed", "n", "middle", "ahead", "at"]) (ps := ["one", "other", "peg", "passed"]) (pins := [true, true, true, true]) (fb := F_p_far_end) T.F_p_far_end sc_p_far_end rfl (by decide) ?_
  intro cdv A outer s H E hr
  unfold F_p_far_end
  exact psf_cons (f := parF [4, 5] [.t (opF ixD [.b 0, .t (litF (.int 0))]), .t (opF ixD [.b 0, .t (litF (.int 1))])]) (psf_par2 (i := 4) (j := 5) rfl sc_p_far_end.nd rfl rfl  (by decide)  (by decide) rfl rfl  (paf_cons (o := .t (opF ixD [.b 0, .t (litF (.int 0))])) (po_t (pf_ix ix_seq vok_ix (po_b (pv 0)) (po_t (pf_int)) (fun _ _ => rfl))) (paf_cons (o := .t (opF ixD [.b 0, .t (litF (.int 1))])) (po_t (pf_ix ix_seq vok_ix (po_b (pv 0)) (po_t (pf_int)) (fun _ _ => rfl))) paf_nil)) rfl)
      (psf_cons (f := asgF (opF (ltD) [.b 2, .b 4]) (tgN 6)) (psf_set (i := 6) sc_p_far_end.nd rfl (by first | exact .inl rfl | exact .inr rfl) (by decide) (pf_cmp op_lt vok_lt (po_b (pv 2)) (po_b (pv 4)) (nomark _)))
      (psf_cons (f := asgF (ifE (tstF (.b 6)) (opF ixD [.t (opF ixD [.b 0, .t (litF (.int 2))]), .b 2]) (opF ixD [.t (opF ixD [.b 1, .t (litF (.int 2))]), .t (opF subD [.t (opF addD [.b 5, .b 2]), .b 4])])) (tgN 7)) (psf_set (i := 7) sc_p_far_end.nd rfl (by first | exact .inl rfl | exact .inr rfl) (by decide) (pf_if (pt_tst (o := .b 6) (po_b (pv 6))) (pf_ix ix_seq vok_ix (po_t (pf_ix ix_seq vok_ix (po_b (pv 0)) (po_t (pf_int)) (fun _ _ => rfl))) (po_b (pv 2)) (fun _ _ => rfl)) (pf_ix ix_seq vok_ix (po_t (pf_ix ix_seq vok_ix (po_b (pv 1)) (po_t (pf_int)) (fun _ _ => rfl))) (po_t (pf_bin op_sub vok_sub (po_t (pf_bin op_addA vok_add (po_b (pv 5)) (po_b (pv 2)))) (po_b (pv 4)))) (fun _ _ => rfl))))
      (psf_one (psf_while (fc := tstF (.t (litF (.bl true)))) FUEL PassesOwn.never (pt_tst (o := .t (litF (.bl true))) (po_t (pf_bl))) (psf_cons (f := ifF (tstF (.b 6)) (seqF (ifF (bT (opF (ltD) [.b 7, .b 4])) (retF (movF 7)) (passF)) <|
      seqF (augF 7 isubD (.b 4)) <|
      seqF (asgF (litF (.bl true)) (tgSub 3 (.b 7))) <|
      asgF (opF ixD [.t (opF ixD [.b 1, .t (litF (.int 2))]), .b 7]) (tgN 7)) (seqF (ifF (bT (opF (geD) [.b 7, .b 5])) (retF (opF subD [.t (opF addD [.b 4, .b 7]), .b 5])) (passF)) <|
      seqF (asgF (litF (.bl true)) (tgSub 3 (.b 7))) <|
      asgF (opF ixD [.t (opF ixD [.b 0, .t (litF (.int 2))]), .t (opF addD [.b 4, .b 7])]) (tgN 7))) (psf_if (fc := tstF (.b 6)) (pt_tst (o := .b 6) (po_b (pv 6))) (psf_cons (f := ifF (bT (opF (ltD) [.b 7, .b 4])) (retF (movF 7)) (passF)) (psf_if (fc := bT (opF (ltD) [.b 7, .b 4])) (pt_cmpf op_lt vok_lt (po_b (pv 7)) (po_b (pv 4)) (nomark _)) (psf_one (psf_ret (pf_mov (pv 7)))) (psf_nil))
      (psf_cons (f := augF 7 isubD (.b 4)) (psf_aug (i := 7) (o := .b 4) sc_p_far_end.nd rfl (by first | exact .inl rfl | exact .inr rfl) (by decide) (po_b (pv 4)) ip_sub vok_isub)
      (psf_cons (f := asgF (litF (.bl true)) (tgSub 3 (.b 7))) (psf_asg (f := litF (.bl true)) (g := tgSub 3 (.b 7)) (pf_bl) (pgf_sub (k := 3) (oi := .b 7) (pv 3) (po_b (pv 7))))
      (psf_one (psf_set (i := 7) sc_p_far_end.nd rfl (by first | exact .inl rfl | exact .inr rfl) (by decide) (pf_ix ix_seq vok_ix (po_t (pf_ix ix_seq vok_ix (po_b (pv 1)) (po_t (pf_int)) (fun _ _ => rfl))) (po_b (pv 7)) (fun _ _ => rfl))))))) (psf_cons (f := ifF (bT (opF (geD) [.b 7, .b 5])) (retF (opF subD [.t (opF addD [.b 4, .b 7]), .b 5])) (passF)) (psf_if (fc := bT (opF (geD) [.b 7, .b 5])) (pt_cmpf op_ge vok_ge (po_b (pv 7)) (po_b (pv 5)) (nomark _)) (psf_one (psf_ret (pf_bin op_sub vok_sub (po_t (pf_bin op_addA vok_add (po_b (pv 4)) (po_b (pv 7)))) (po_b (pv 5))))) (psf_nil))
      (psf_cons (f := asgF (litF (.bl true)) (tgSub 3 (.b 7))) (psf_asg (f := litF (.bl true)) (g := tgSub 3 (.b 7)) (pf_bl) (pgf_sub (k := 3) (oi := .b 7) (pv 3) (po_b (pv 7))))
      (psf_one (psf_set (i := 7) sc_p_far_end.nd rfl (by first | exact .inl rfl | exact .inr rfl) (by decide) (pf_ix ix_seq vok_ix (po_t (pf_ix ix_seq vok_ix (po_b (pv 0)) (po_t (pf_int)) (fun _ _ => rfl))) (po_t (pf_bin op_addA vok_add (po_b (pv 4)) (po_b (pv 7)))) (fun _ _ => rfl)))))))
      (psf_one (psf_set (i := 6) sc_p_far_end.nd rfl (by first | exact .inl rfl | exact .inr rfl) (by decide) (pf_not (pf_var (pv 6))))))))))
theorem ok_p_loose_rings (T : Tx K mg) : FnOk P w K mg base CX0 1 T.f_p_loose_rings T.fd_p_loose_rings ["one", "other", "passed"] (spOf K fn_p_loose_rings) := by
  unfold fn_p_loose_rings
  refine fn_ok (k := 0) (x := "loose_rings") (qual := "loose_rings") (st := s_p_loose_rings) (N := ["one", "other", "passed", "n", "rings", "start", "at"]) (ps := ["one", "other", "passed"]) (pins := [true, true, true]) (fb := F_p_loose_rings) T.F_p_loose_rings sc_p_loose_rings rfl (by decide) ?_
  intro cdv A outer s H E hr
  unfold F_p_loose_rings
  exact psf_cons (f := asgF (opF ixD [.b 0, .t (litF (.int 0))]) (tgN 3)) (psf_set (i := 3) sc_p_loose_rings.nd rfl (by first | exact .inl rfl | exact .inr rfl) (by decide) (pf_ix ix_seq vok_ix (po_b (pv 0)) (po_t (pf_int)) (fun _ _ => rfl)))
      (psf_cons (f := asgF (litF (.int 0)) (tgN 4)) (psf_set (i := 4) sc_p_loose_rings.nd rfl (by first | exact .inl rfl | exact .inr rfl) (by decide) (pf_int))
      (psf_cons (f := forF (itRg rng1D [.t (opF ixD [.b 0, .t (litF (.int 1))])]) (tgN 5) (ifF (notF (tstF (.t (opF ixD [.b 2, .b 5])))) (seqF (augF 4 iaddD (.t (litF (.int 1)))) <|
      seqF (asgF (varF 5) (tgN 6)) <|
      whF FUEL (notF (tstF (.t (opF ixD [.b 2, .b 6])))) (seqF (asgF (litF (.bl true)) (tgSub 2 (.b 6))) <|
      seqF (asgF (opF subD [.t (opF ixD [.t (opF ixD [.b 0, .t (litF (.int 2))]), .t (opF addD [.b 3, .b 6])]), .b 3]) (tgN 6)) <|
      seqF (asgF (litF (.bl true)) (tgSub 2 (.b 6))) <|
      asgF (opF ixD [.t (opF ixD [.b 1, .t (litF (.int 2))]), .b 6]) (tgN 6))) (passF))) (psf_for (fi := itRg rng1D [.t (opF ixD [.b 0, .t (litF (.int 1))])]) (g := tgN 5) PassesOwn.never rfl (pif_rng1 (by rfl) T.z_range (paf_cons (o := .t (opF ixD [.b 0, .t (litF (.int 1))])) (po_t (pf_ix ix_seq vok_ix (po_b (pv 0)) (po_t (pf_int)) (fun _ _ => rfl))) paf_nil)) (pgf_name (i := 5) sc_p_loose_rings.nd rfl (by first | exact .inl rfl | exact .inr rfl) (by decide)) (psf_one (psf_if (fc := notF (tstF (.t (opF ixD [.b 2, .b 5])))) (ptf_not (pt_tst (o := .t (opF ixD [.b 2, .b 5])) (po_t (pf_ix ix_seq vok_ix (po_b (pv 2)) (po_b (pv 5)) (fun _ _ => rfl))))) (psf_cons (f := augF 4 iaddD (.t (litF (.int 1)))) (psf_aug (i := 4) (o := .t (litF (.int 1))) sc_p_loose_rings.nd rfl (by first | exact .inl rfl | exact .inr rfl) (by decide) (po_t (pf_int)) ip_add vok_iadd)
      (psf_cons (f := asgF (varF 5) (tgN 6)) (psf_set (i := 6) sc_p_loose_rings.nd rfl (by first | exact .inl rfl | exact .inr rfl) (by decide) (pf_var (pv 5)))
      (psf_one (psf_while (fc := notF (tstF (.t (opF ixD [.b 2, .b 6])))) FUEL PassesOwn.never (ptf_not (pt_tst (o := .t (opF ixD [.b 2, .b 6])) (po_t (pf_ix ix_seq vok_ix (po_b (pv 2)) (po_b (pv 6)) (fun _ _ => rfl))))) (psf_cons (f := asgF (litF (.bl true)) (tgSub 2 (.b 6))) (psf_asg (f := litF (.bl true)) (g := tgSub 2 (.b 6)) (pf_bl) (pgf_sub (k := 2) (oi := .b 6) (pv 2) (po_b (pv 6))))
      (psf_cons (f := asgF (opF subD [.t (opF ixD [.t (opF ixD [.b 0, .t (litF (.int 2))]), .t (opF addD [.b 3, .b 6])]), .b 3]) (tgN 6)) (psf_set (i := 6) sc_p_loose_rings.nd rfl (by first | exact .inl rfl | exact .inr rfl) (by decide) (pf_bin op_sub vok_sub (po_t (pf_ix ix_seq vok_ix (po_t (pf_ix ix_seq vok_ix (po_b (pv 0)) (po_t (pf_int)) (fun _ _ => rfl))) (po_t (pf_bin op_addA vok_add (po_b (pv 3)) (po_b (pv 6)))) (fun _ _ => rfl))) (po_b (pv 3))))
      (psf_cons (f := asgF (litF (.bl true)) (tgSub 2 (.b 6))) (psf_asg (f := litF (.bl true)) (g := tgSub 2 (.b 6)) (pf_bl) (pgf_sub (k := 2) (oi := .b 6) (pv 2) (po_b (pv 6))))
      (psf_one (psf_set (i := 6) sc_p_loose_rings.nd rfl (by first | exact .inl rfl | exact .inr rfl) (by decide) (pf_ix ix_seq vok_ix (po_t (pf_ix ix_seq vok_ix (po_b (pv 1)) (po_t (pf_int)) (fun _ _ => rfl))) (po_b (pv 6)) (fun _ _ => rfl))))))))))) (psf_nil))))
      (psf_one (psf_ret (pf_mov (pv 4))))))
theorem ok_p_put_behind (T : Tx K mg) : FnOk P w K mg base CX0 2 T.f_p_put_behind T.fd_p_put_behind ["one", "other"] (spOf K fn_p_put_behind) := by
  unfold fn_p_put_behind
  refine fn_ok (k := 1) (x := "put_behind") (qual := "put_behind") (st := s_p_put_behind) (N := ["one", "other", "n", "k", "passed", "mates", "peg"]) (ps := ["one", "other"]) (pins := [true, true]) (fb := F_p_put_behind) T.F_p_put_behind sc_p_put_behind rfl (by decide) ?_
  intro cdv A outer s H E hr
  unfold F_p_put_behind
  exact psf_cons (f := parF [2, 3] [.t (opF ixD [.b 0, .t (litF (.int 0))]), .t (opF ixD [.b 1, .t (litF (.int 1))])]) (psf_par2 (i := 2) (j := 3) rfl sc_p_put_behind.nd rfl rfl  (by decide)  (by decide) rfl rfl  (paf_cons (o := .t (opF ixD [.b 0, .t (litF (.int 0))])) (po_t (pf_ix ix_seq vok_ix (po_b (pv 0)) (po_t (pf_int)) (fun _ _ => rfl))) (paf_cons (o := .t (opF ixD [.b 1, .t (litF (.int 1))])) (po_t (pf_ix ix_seq vok_ix (po_b (pv 1)) (po_t (pf_int)) (fun _ _ => rfl))) paf_nil)) rfl)
      (psf_cons (f := asgF (opF mulD [.t (lstF [.t (litF (.bl false))]), .t (opF ixD [.b 0, .t (litF (.int 1))])]) (tgN 4)) (psf_set (i := 4) sc_p_put_behind.nd rfl (by first | exact .inl rfl | exact .inr rfl) (by decide) (pf_bin op_mulA vok_mul (po_t (pf_lst (paf_cons (o := .t (litF (.bl false))) (po_t (pf_bl)) paf_nil))) (po_t (pf_ix ix_seq vok_ix (po_b (pv 0)) (po_t (pf_int)) (fun _ _ => rfl)))))
      (psf_cons (f := asgF (lstF []) (tgN 5)) (psf_set (i := 5) sc_p_put_behind.nd rfl (by first | exact .inl rfl | exact .inr rfl) (by decide) (pf_lst paf_nil))
      (psf_cons (f := forF (itRg rng1D [.t (opF addD [.b 2, .b 3])]) (tgN 6) (dropF (mutF 5 appD [.t (callF fn_p_far_end [.b 0, .b 1, .b 6, .b 4])]))) (psf_for (fi := itRg rng1D [.t (opF addD [.b 2, .b 3])]) (g := tgN 6) PassesOwn.never rfl (pif_rng1 (by rfl) T.z_range (paf_cons (o := .t (opF addD [.b 2, .b 3])) (po_t (pf_bin op_addA vok_add (po_b (pv 2)) (po_b (pv 3)))) paf_nil)) (pgf_name (i := 6) sc_p_put_behind.nd rfl (by first | exact .inl rfl | exact .inr rfl) (by decide)) (psf_one (psf_expr (pf_append (i := 5) (pv 5) (paf_cons (o := .t (callF fn_p_far_end [.b 0, .b 1, .b 6, .b 4])) (po_t (pf_call (ok_p_far_end T) (hr.mono (by decide)) (by rfl) T.g_p_far_end T.F_p_far_end.kp T.b_p_far_end (paf_cons (o := .b 0) (po_b (pv 0)) (paf_cons (o := .b 1) (po_b (pv 1)) (paf_cons (o := .b 6) (po_b (pv 6)) (paf_cons (o := .b 4) (po_b (pv 4)) paf_nil)))))) paf_nil)))))
      (psf_one (psf_ret (pf_tup (paf_cons (o := .t (callF fn_p_loose_rings [.b 0, .b 1, .b 4])) (po_t (pf_call (ok_p_loose_rings T) (hr.mono (by decide)) (by rfl) T.g_p_loose_rings T.F_p_loose_rings.kp T.b_p_loose_rings (paf_cons (o := .b 0) (po_b (pv 0)) (paf_cons (o := .b 1) (po_b (pv 1)) (paf_cons (o := .b 4) (po_b (pv 4)) paf_nil))))) (paf_cons (o := .t (movF 2)) (po_t (pf_mov (pv 2))) (paf_cons (o := .t (movF 3)) (po_t (pf_mov (pv 3))) (paf_cons (o := .t (opF tupleD [.b 5])) (po_t (pf_callTy call_tuple_of vok_tuple (by rfl) T.z_tuple boot_tuple (paf_cons (o := .b 5) (po_b (pv 5)) paf_nil))) paf_nil))))))))))
theorem ok_p_chained (T : Tx K mg) : FnOk P w K mg base CX0 3 T.f_p_chained T.fd_p_chained ["one", "other"] (spOf K fn_p_chained) := by
  unfold fn_p_chained
  refine fn_ok (k := 2) (x := "chained") (qual := "chained") (st := s_p_chained) (N := ["one", "other", "rings", "n", "k", "mates"]) (ps := ["one", "other"]) (pins := [true, true]) (fb := F_p_chained) T.F_p_chained sc_p_chained rfl (by decide) ?_
  intro cdv A outer s H E hr
  unfold F_p_chained
  exact psf_cons (f := asgF (callF fn_p_put_behind [.t (opF ixD [.b 0, .t (litF (.int 1))]), .t (opF ixD [.b 1, .t (litF (.int 1))])]) (tgT 4 (tgCons (tgN 2) (tgCons (tgN 3) (tgCons (tgN 4) (tgCons (tgN 5) (tgNil))))))) (psf_asg (f := callF fn_p_put_behind [.t (opF ixD [.b 0, .t (litF (.int 1))]), .t (opF ixD [.b 1, .t (litF (.int 1))])]) (g := tgT 4 (tgCons (tgN 2) (tgCons (tgN 3) (tgCons (tgN 4) (tgCons (tgN 5) (tgNil)))))) (pf_call (ok_p_put_behind T) (hr.mono (by decide)) (by rfl) T.g_p_put_behind T.F_p_put_behind.kp T.b_p_put_behind (paf_cons (o := .t (opF ixD [.b 0, .t (litF (.int 1))])) (po_t (pf_ix ix_seq vok_ix (po_b (pv 0)) (po_t (pf_int)) (fun _ _ => rfl))) (paf_cons (o := .t (opF ixD [.b 1, .t (litF (.int 1))])) (po_t (pf_ix ix_seq vok_ix (po_b (pv 1)) (po_t (pf_int)) (fun _ _ => rfl))) paf_nil))) (pgf_tup rfl (pgsf_cons (pgf_name (i := 2) sc_p_chained.nd rfl (by first | exact .inl rfl | exact .inr rfl) (by decide)) (pgsf_cons (pgf_name (i := 3) sc_p_chained.nd rfl (by first | exact .inl rfl | exact .inr rfl) (by decide)) (pgsf_cons (pgf_name (i := 4) sc_p_chained.nd rfl (by first | exact .inl rfl | exact .inr rfl) (by decide)) (pgsf_cons (pgf_name (i := 5) sc_p_chained.nd rfl (by first | exact .inl rfl | exact .inr rfl) (by decide)) (pgsf_nil)))))))
      (psf_one (psf_ret (pf_tup (paf_cons (o := .t (opF addD [.t (opF addD [.t (opF ixD [.b 0, .t (litF (.int 0))]), .t (opF ixD [.b 1, .t (litF (.int 0))])]), .b 2])) (po_t (pf_bin op_addA vok_add (po_t (pf_bin op_addA vok_add (po_t (pf_ix ix_seq vok_ix (po_b (pv 0)) (po_t (pf_int)) (fun _ _ => rfl))) (po_t (pf_ix ix_seq vok_ix (po_b (pv 1)) (po_t (pf_int)) (fun _ _ => rfl))))) (po_b (pv 2)))) (paf_cons (o := .t (tupF [.t (movF 3), .t (movF 4), .t (movF 5)])) (po_t (pf_tup (paf_cons (o := .t (movF 3)) (po_t (pf_mov (pv 3))) (paf_cons (o := .t (movF 4)) (po_t (pf_mov (pv 4))) (paf_cons (o := .t (movF 5)) (po_t (pf_mov (pv 5))) paf_nil))))) paf_nil)))))
theorem ok_p_check_square (T : Tx K mg) : FnOk P w K mg base CX0 1 T.f_p_check_square T.fd_p_check_square ["mat"] (spOf K fn_p_check_square) := by
  unfold fn_p_check_square
  refine fn_ok (k := 0) (x := "check_square") (qual := "check_square") (st := s_p_check_square) (N := ["mat"]) (ps := ["mat"]) (pins := [true]) (fb := F_p_check_square) T.F_p_check_square sc_p_check_square rfl (by decide) ?_
  intro cdv A outer s H E hr
  unfold F_p_check_square
  exact psf_one (psf_if (fc := bT (opF (neD) [.t (opF ixD [.b 0, .t (litF (.int 0))]), .t (opF ixD [.b 0, .t (litF (.int 1))])])) (pt_cmpf (op_neD hr.units) vok_ne (po_t (pf_ix ix_seq vok_ix (po_b (pv 0)) (po_t (pf_int)) (fun _ _ => rfl))) (po_t (pf_ix ix_seq vok_ix (po_b (pv 0)) (po_t (pf_int)) (fun _ _ => rfl))) (nomark _)) (psf_one (psf_never)) (psf_nil))
theorem ok_p_round_of (T : Tx K mg) : FnOk P w K mg base CX0 1 T.f_p_round_of T.fd_p_round_of ["n", "m"] (spOf K fn_p_round_of) := by
  unfold fn_p_round_of
  refine fn_ok (k := 0) (x := "round_of") (qual := "round_of") (st := s_p_round_of) (N := ["n", "m"]) (ps := ["n", "m"]) (pins := [true, true]) (fb := F_p_round_of) T.F_p_round_of sc_p_round_of rfl (by decide) ?_
  intro cdv A outer s H E hr
  unfold F_p_round_of
  exact psf_one (psf_ret (pf_bin op_addA vok_add (po_t (pf_lrg1 rfl (by rfl) T.z_list (by rfl) T.z_range (paf_cons (o := .b 0) (po_b (pv 0)) paf_nil))) (po_t (pf_lrg3 rfl (by rfl) T.z_list (by rfl) T.z_range (paf_cons (o := .t (opF subD [.t (opF addD [.b 0, .b 1]), .t (litF (.int 1))])) (po_t (pf_bin op_sub vok_sub (po_t (pf_bin op_addA vok_add (po_b (pv 0)) (po_b (pv 1)))) (po_t (pf_int)))) (paf_cons (o := .t (opF subD [.b 0, .t (litF (.int 1))])) (po_t (pf_bin op_sub vok_sub (po_b (pv 0)) (po_t (pf_int)))) (paf_cons (o := .t (opF negD [.t (litF (.int 1))])) (po_t (pf_un un_neg vok_neg (po_t (pf_int)))) paf_nil)))))))
theorem ok_p_is_mat (T : Tx K mg) : FnOk P w K mg base CX0 2 T.f_p_is_mat T.fd_p_is_mat ["told"] (spOf K fn_p_is_mat) := by
  unfold fn_p_is_mat
  refine fn_ok (k := 1) (x := "is_mat") (qual := "is_mat") (st := s_p_is_mat) (N := ["told", "n", "m", "mates", "many", "peg", "mate", "waiting"]) (ps := ["told"]) (pins := [true]) (fb := F_p_is_mat) T.F_p_is_mat sc_p_is_mat rfl (by decide) ?_
  intro cdv A outer s H E hr
  unfold F_p_is_mat
  exact psf_cons (f := asgF (varF 0) (tgT 3 (tgCons (tgN 1) (tgCons (tgN 2) (tgCons (tgN 3) (tgNil)))))) (psf_asg (f := varF 0) (g := tgT 3 (tgCons (tgN 1) (tgCons (tgN 2) (tgCons (tgN 3) (tgNil))))) (pf_var (pv 0)) (pgf_tup rfl (pgsf_cons (pgf_name (i := 1) sc_p_is_mat.nd rfl (by first | exact .inl rfl | exact .inr rfl) (by decide)) (pgsf_cons (pgf_name (i := 2) sc_p_is_mat.nd rfl (by first | exact .inl rfl | exact .inr rfl) (by decide)) (pgsf_cons (pgf_name (i := 3) sc_p_is_mat.nd rfl (by first | exact .inl rfl | exact .inr rfl) (by decide)) (pgsf_nil))))))
      (psf_cons (f := asgF (opF lenD [.b 3]) (tgN 4)) (psf_set (i := 4) sc_p_is_mat.nd rfl (by first | exact .inl rfl | exact .inr rfl) (by decide) (pf_callB call_len_seq vok_len (by rfl) T.z_len PySem.boot_len (paf_cons (o := .b 3) (po_b (pv 3)) paf_nil)))
      (psf_cons (f := ifF (orF (bT (opF (ltD) [.b 1, .t (litF (.int 0))])) (orF (bT (opF (ltD) [.b 2, .t (litF (.int 0))])) (orF (bT (opF (neD) [.t (opF addD [.b 1, .b 2]), .b 4])) (bT (opF (eqD) [.b 4, .t (litF (.int 0))]))))) (retF (litF (.bl false))) (passF)) (psf_if (fc := orF (bT (opF (ltD) [.b 1, .t (litF (.int 0))])) (orF (bT (opF (ltD) [.b 2, .t (litF (.int 0))])) (orF (bT (opF (neD) [.t (opF addD [.b 1, .b 2]), .b 4])) (bT (opF (eqD) [.b 4, .t (litF (.int 0))]))))) ((pwf_or (pt_cmpf op_lt vok_lt (po_b (pv 1)) (po_t (pf_int)) (nomark _)) (pwf_or (pt_cmpf op_lt vok_lt (po_b (pv 2)) (po_t (pf_int)) (nomark _)) (pwf_or (pt_cmpf (op_neD hr.units) vok_ne (po_t (pf_bin op_addA vok_add (po_b (pv 1)) (po_b (pv 2)))) (po_b (pv 4)) (nomark _)) (pwf_or1 (pt_cmpf (op_eqD hr.units) vok_eq (po_b (pv 4)) (po_t (pf_int)) (nomark _)))))).pt) (psf_one (psf_ret (pf_bl))) (psf_nil))
      (psf_cons (f := forF (itEnum (varF 3)) (tgT 2 (tgCons (tgN 5) (tgCons (tgN 6) (tgNil)))) (ifF (orF (bT (opF (ltD) [.b 6, .t (litF (.int 0))])) (orF (bT (opF (geD) [.b 6, .b 4])) (orF (bT (opF (eqD) [.b 6, .b 5])) (bT (opF (neD) [.t (opF ixD [.b 3, .b 6]), .b 5]))))) (retF (litF (.bl false))) (passF))) (psf_for (fi := itEnum (varF 3)) (g := tgT 2 (tgCons (tgN 5) (tgCons (tgN 6) (tgNil)))) PassesOwn.never rfl (pif_enum (by rfl) T.z_enumerate (pf_var (pv 3))) (pgf_tup rfl (pgsf_cons (pgf_name (i := 5) sc_p_is_mat.nd rfl (by first | exact .inl rfl | exact .inr rfl) (by decide)) (pgsf_cons (pgf_name (i := 6) sc_p_is_mat.nd rfl (by first | exact .inl rfl | exact .inr rfl) (by decide)) (pgsf_nil)))) (psf_one (psf_if (fc := orF (bT (opF (ltD) [.b 6, .t (litF (.int 0))])) (orF (bT (opF (geD) [.b 6, .b 4])) (orF (bT (opF (eqD) [.b 6, .b 5])) (bT (opF (neD) [.t (opF ixD [.b 3, .b 6]), .b 5]))))) ((pwf_or (pt_cmpf op_lt vok_lt (po_b (pv 6)) (po_t (pf_int)) (nomark _)) (pwf_or (pt_cmpf op_ge vok_ge (po_b (pv 6)) (po_b (pv 4)) (nomark _)) (pwf_or (pt_cmpf (op_eqD hr.units) vok_eq (po_b (pv 6)) (po_b (pv 5)) (nomark _)) (pwf_or1 (pt_cmpf (op_neD hr.units) vok_ne (po_t (pf_ix ix_seq vok_ix (po_b (pv 3)) (po_b (pv 6)) (fun _ _ => rfl))) (po_b (pv 5)) (nomark _)))))).pt) (psf_one (psf_ret (pf_bl))) (psf_nil))))
      (psf_cons (f := asgF (lstF []) (tgN 7)) (psf_set (i := 7) sc_p_is_mat.nd rfl (by first | exact .inl rfl | exact .inr rfl) (by decide) (pf_lst paf_nil))
      (psf_cons (f := forF (itSeq (callF fn_p_round_of [.b 1, .b 2])) (tgN 5) (ifF (andF (bT (opF (neD) [.b 7, .t (lstF [])])) (bT (opF (eqD) [.t (opF ixD [.b 7, .t (opF negD [.t (litF (.int 1))])]), .t (opF ixD [.b 3, .b 5])]))) (dropF (mutF 7 popD [])) (dropF (mutF 7 appD [.t (varF 5)])))) (psf_for (fi := itSeq (callF fn_p_round_of [.b 1, .b 2])) (g := tgN 5) PassesOwn.never rfl (pif_seq (pf_call (ok_p_round_of T) (hr.mono (by decide)) (by rfl) T.g_p_round_of T.F_p_round_of.kp T.b_p_round_of (paf_cons (o := .b 1) (po_b (pv 1)) (paf_cons (o := .b 2) (po_b (pv 2)) paf_nil)))) (pgf_name (i := 5) sc_p_is_mat.nd rfl (by first | exact .inl rfl | exact .inr rfl) (by decide)) (psf_one (psf_if (fc := andF (bT (opF (neD) [.b 7, .t (lstF [])])) (bT (opF (eqD) [.t (opF ixD [.b 7, .t (opF negD [.t (litF (.int 1))])]), .t (opF ixD [.b 3, .b 5])]))) ((pwf_and (pt_cmpf (op_neD hr.units) vok_ne (po_b (pv 7)) (po_t (pf_lst paf_nil)) (nomark _)) (pwf_and1 (pt_cmpf (op_eqD hr.units) vok_eq (po_t (pf_ix ix_seq vok_ix (po_b (pv 7)) (po_t (pf_un un_neg vok_neg (po_t (pf_int)))) (fun _ _ => rfl))) (po_t (pf_ix ix_seq vok_ix (po_b (pv 3)) (po_b (pv 5)) (fun _ _ => rfl))) (nomark _)))).pt) (psf_one (psf_expr (pf_pop (i := 7) (pv 7)))) (psf_one (psf_expr (pf_append (i := 7) (pv 7) (paf_cons (o := .t (varF 5)) (po_t (pf_var (pv 5))) paf_nil)))))))
      (psf_one (psf_ret (pf_cmp (op_eqD hr.units) vok_eq (po_b (pv 7)) (po_t (pf_lst paf_nil)) (nomark _)))))))))
theorem ok_p_checked_mat (T : Tx K mg) : FnOk P w K mg base CX0 3 T.f_p_checked_mat T.fd_p_checked_mat ["mat"] (spOf K fn_p_checked_mat) := by
  unfold fn_p_checked_mat
  refine fn_ok (k := 2) (x := "checked_mat") (qual := "checked_mat") (st := s_p_checked_mat) (N := ["mat"]) (ps := ["mat"]) (pins := [true]) (fb := F_p_checked_mat) T.F_p_checked_mat sc_p_checked_mat rfl (by decide) ?_
  intro cdv A outer s H E hr
  unfold F_p_checked_mat
  exact psf_cons (f := ifF (notF (tstF (.t (callF fn_p_is_mat [.b 0])))) (neverF) (passF)) (psf_if (fc := notF (tstF (.t (callF fn_p_is_mat [.b 0])))) (ptf_not (pt_tst (o := .t (callF fn_p_is_mat [.b 0])) (po_t (pf_call (ok_p_is_mat T) (hr.mono (by decide)) (by rfl) T.g_p_is_mat T.F_p_is_mat.kp T.b_p_is_mat (paf_cons (o := .b 0) (po_b (pv 0)) paf_nil))))) (psf_one (psf_never)) (psf_nil))
      (psf_one (psf_ret (pf_var (pv 0))))
theorem ok_p_check_size (T : Tx K mg) : FnOk P w K mg base CX0 1 T.f_p_check_size T.fd_p_check_size ["n"] (spOf K fn_p_check_size) := by
  unfold fn_p_check_size
  refine fn_ok (k := 0) (x := "check_size") (qual := "check_size") (st := s_p_check_size) (N := ["n"]) (ps := ["n"]) (pins := [true]) (fb := F_p_check_size) T.F_p_check_size sc_p_check_size rfl (by decide) ?_
  intro cdv A outer s H E hr
  unfold F_p_check_size
  exact psf_one (psf_if (fc := bT (opF (ltD) [.b 0, .t (litF (.int 1))])) (pt_cmpf op_lt vok_lt (po_b (pv 0)) (po_t (pf_int)) (nomark _)) (psf_one (psf_never)) (psf_nil))
theorem ok_p_straight (T : Tx K mg) : FnOk P w K mg base CX0 2 T.f_p_straight T.fd_p_straight ["n"] (spOf K fn_p_straight) := by
  unfold fn_p_straight
  refine fn_ok (k := 1) (x := "straight") (qual := "straight") (st := s_p_straight) (N := ["n"]) (ps := ["n"]) (pins := [true]) (fb := F_p_straight) T.F_p_straight sc_p_straight rfl (by decide) ?_
  intro cdv A outer s H E hr
  unfold F_p_straight
  exact psf_cons (f := dropF (callF fn_p_check_size [.b 0])) (psf_expr (pf_call (ok_p_check_size T) (hr.mono (by decide)) (by rfl) T.g_p_check_size T.F_p_check_size.kp T.b_p_check_size (paf_cons (o := .b 0) (po_b (pv 0)) paf_nil)))
      (psf_one (psf_ret (pf_tup (paf_cons (o := .t (varF 0)) (po_t (pf_var (pv 0))) (paf_cons (o := .t (varF 0)) (po_t (pf_var (pv 0))) (paf_cons (o := .t (opF tupleD [.t (opF addD [.t (opF (lrgD rng2D) [.b 0, .t (opF mulD [.t (litF (.int 2)), .b 0])]), .t (opF (lrgD rng1D) [.b 0])])])) (po_t (pf_callTy call_tuple_of vok_tuple (by rfl) T.z_tuple boot_tuple (paf_cons (o := .t (opF addD [.t (opF (lrgD rng2D) [.b 0, .t (opF mulD [.t (litF (.int 2)), .b 0])]), .t (opF (lrgD rng1D) [.b 0])])) (po_t (pf_bin op_addA vok_add (po_t (pf_lrg2 rfl (by rfl) T.z_list (by rfl) T.z_range (paf_cons (o := .b 0) (po_b (pv 0)) (paf_cons (o := .t (opF mulD [.t (litF (.int 2)), .b 0])) (po_t (pf_bin op_mulA vok_mul (po_t (pf_int)) (po_b (pv 0)))) paf_nil)))) (po_t (pf_lrg1 rfl (by rfl) T.z_list (by rfl) T.z_range (paf_cons (o := .b 0) (po_b (pv 0)) paf_nil))))) paf_nil))) paf_nil))))))
theorem ok_p_power (T : Tx K mg) : FnOk P w K mg base CX0 4 T.f_p_power T.fd_p_power ["mat", "times"] (spOf K fn_p_power) := by
  unfold fn_p_power
  refine fn_ok (k := 3) (x := "power") (qual := "power") (st := s_p_power) (N := ["mat", "times", "whole", "doubled"]) (ps := ["mat", "times"]) (pins := [true, false]) (fb := F_p_power) T.F_p_power sc_p_power rfl (by decide) ?_
  intro cdv A outer s H E hr
  unfold F_p_power
  exact psf_cons (f := dropF (callF fn_p_checked_mat [.b 0])) (psf_expr (pf_call (ok_p_checked_mat T) (hr.mono (by decide)) (by rfl) T.g_p_checked_mat T.F_p_checked_mat.kp T.b_p_checked_mat (paf_cons (o := .b 0) (po_b (pv 0)) paf_nil)))
      (psf_cons (f := dropF (callF fn_p_check_square [.b 0])) (psf_expr (pf_call (ok_p_check_square T) (hr.mono (by decide)) (by rfl) T.g_p_check_square T.F_p_check_square.kp T.b_p_check_square (paf_cons (o := .b 0) (po_b (pv 0)) paf_nil)))
      (psf_cons (f := ifF (bT (opF (ltD) [.b 1, .t (litF (.int 1))])) (neverF) (passF)) (psf_if (fc := bT (opF (ltD) [.b 1, .t (litF (.int 1))])) (pt_cmpf op_lt vok_lt (po_b (pv 1)) (po_t (pf_int)) (nomark _)) (psf_one (psf_never)) (psf_nil))
      (psf_cons (f := asgF (tupF [.t (litF (.int 0)), .t (callF fn_p_straight [.t (opF ixD [.b 0, .t (litF (.int 0))])])]) (tgN 2)) (psf_set (i := 2) sc_p_power.nd rfl (by first | exact .inl rfl | exact .inr rfl) (by decide) (pf_tup (paf_cons (o := .t (litF (.int 0))) (po_t (pf_int)) (paf_cons (o := .t (callF fn_p_straight [.t (opF ixD [.b 0, .t (litF (.int 0))])])) (po_t (pf_call (ok_p_straight T) (hr.mono (by decide)) (by rfl) T.g_p_straight T.F_p_straight.kp T.b_p_straight (paf_cons (o := .t (opF ixD [.b 0, .t (litF (.int 0))])) (po_t (pf_ix ix_seq vok_ix (po_b (pv 0)) (po_t (pf_int)) (fun _ _ => rfl))) paf_nil))) paf_nil))))
      (psf_cons (f := asgF (tupF [.t (litF (.int 0)), .t (varF 0)]) (tgN 3)) (psf_set (i := 3) sc_p_power.nd rfl (by first | exact .inl rfl | exact .inr rfl) (by decide) (pf_tup (paf_cons (o := .t (litF (.int 0))) (po_t (pf_int)) (paf_cons (o := .t (varF 0)) (po_t (pf_var (pv 0))) paf_nil))))
      (psf_cons (f := whF FUEL (bT (opF (gtD) [.b 1, .t (litF (.int 0))])) (seqF (ifF (tstF (.t (opF bandD [.b 1, .t (litF (.int 1))]))) (asgF (callF fn_p_chained [.b 2, .b 3]) (tgN 2)) (passF)) <|
      seqF (asgF (callF fn_p_chained [.b 3, .b 3]) (tgN 3)) <|
      augF 1 ishrD (.t (litF (.int 1))))) (psf_while (fc := bT (opF (gtD) [.b 1, .t (litF (.int 0))])) FUEL PassesOwn.never (pt_cmpf op_gt vok_gt (po_b (pv 1)) (po_t (pf_int)) (nomark _)) (psf_cons (f := ifF (tstF (.t (opF bandD [.b 1, .t (litF (.int 1))]))) (asgF (callF fn_p_chained [.b 2, .b 3]) (tgN 2)) (passF)) (psf_if (fc := tstF (.t (opF bandD [.b 1, .t (litF (.int 1))]))) (pt_tst (o := .t (opF bandD [.b 1, .t (litF (.int 1))])) (po_t (pf_bin op_bandA vok_band (po_b (pv 1)) (po_t (pf_int))))) (psf_one (psf_set (i := 2) sc_p_power.nd rfl (by first | exact .inl rfl | exact .inr rfl) (by decide) (pf_call (ok_p_chained T) (hr.mono (by decide)) (by rfl) T.g_p_chained T.F_p_chained.kp T.b_p_chained (paf_cons (o := .b 2) (po_b (pv 2)) (paf_cons (o := .b 3) (po_b (pv 3)) paf_nil))))) (psf_nil))
      (psf_cons (f := asgF (callF fn_p_chained [.b 3, .b 3]) (tgN 3)) (psf_set (i := 3) sc_p_power.nd rfl (by first | exact .inl rfl | exact .inr rfl) (by decide) (pf_call (ok_p_chained T) (hr.mono (by decide)) (by rfl) T.g_p_chained T.F_p_chained.kp T.b_p_chained (paf_cons (o := .b 3) (po_b (pv 3)) (paf_cons (o := .b 3) (po_b (pv 3)) paf_nil))))
      (psf_one (psf_aug (i := 1) (o := .t (litF (.int 1))) sc_p_power.nd rfl (by first | exact .inl rfl | exact .inr rfl) (by decide) (po_t (pf_int)) ip_shr vok_ishr)))))
      (psf_one (psf_ret (pf_mov (pv 2)))))))))
theorem ok_p_rings_closed (T : Tx K mg) : FnOk P w K mg base CX0 3 T.f_p_rings_closed T.fd_p_rings_closed ["mat"] (spOf K fn_p_rings_closed) := by
  unfold fn_p_rings_closed
  refine fn_ok (k := 2) (x := "rings_closed") (qual := "rings_closed") (st := s_p_rings_closed) (N := ["mat", "n", "back"]) (ps := ["mat"]) (pins := [true]) (fb := F_p_rings_closed) T.F_p_rings_closed sc_p_rings_closed rfl (by decide) ?_
  intro cdv A outer s H E hr
  unfold F_p_rings_closed
  exact psf_cons (f := asgF (opF ixD [.b 0, .t (litF (.int 0))]) (tgN 1)) (psf_set (i := 1) sc_p_rings_closed.nd rfl (by first | exact .inl rfl | exact .inr rfl) (by decide) (pf_ix ix_seq vok_ix (po_b (pv 0)) (po_t (pf_int)) (fun _ _ => rfl)))
      (psf_cons (f := asgF (opF addD [.t (opF (trgD rng2D) [.b 1, .t (opF mulD [.t (litF (.int 2)), .b 1])]), .t (opF (trgD rng1D) [.b 1])]) (tgN 2)) (psf_set (i := 2) sc_p_rings_closed.nd rfl (by first | exact .inl rfl | exact .inr rfl) (by decide) (pf_bin op_addA vok_add (po_t (pf_trg2 rfl (by rfl) T.z_tuple (by rfl) T.z_range (paf_cons (o := .b 1) (po_b (pv 1)) (paf_cons (o := .t (opF mulD [.t (litF (.int 2)), .b 1])) (po_t (pf_bin op_mulA vok_mul (po_t (pf_int)) (po_b (pv 1)))) paf_nil)))) (po_t (pf_trg1 rfl (by rfl) T.z_tuple (by rfl) T.z_range (paf_cons (o := .b 1) (po_b (pv 1)) paf_nil)))))
      (psf_one (psf_ret (pf_ix ix_seq vok_ix (po_t (pf_call (ok_p_put_behind T) (hr.mono (by decide)) (by rfl) T.g_p_put_behind T.F_p_put_behind.kp T.b_p_put_behind (paf_cons (o := .t (tupF [.t (litF (.int 0)), .t (opF mulD [.t (litF (.int 2)), .b 1]), .t (opF ixD [.b 0, .t (litF (.int 2))])])) (po_t (pf_tup (paf_cons (o := .t (litF (.int 0))) (po_t (pf_int)) (paf_cons (o := .t (opF mulD [.t (litF (.int 2)), .b 1])) (po_t (pf_bin op_mulA vok_mul (po_t (pf_int)) (po_b (pv 1)))) (paf_cons (o := .t (opF ixD [.b 0, .t (litF (.int 2))])) (po_t (pf_ix ix_seq vok_ix (po_b (pv 0)) (po_t (pf_int)) (fun _ _ => rfl))) paf_nil))))) (paf_cons (o := .t (tupF [.t (opF mulD [.t (litF (.int 2)), .b 1]), .t (litF (.int 0)), .t (varF 2)])) (po_t (pf_tup (paf_cons (o := .t (opF mulD [.t (litF (.int 2)), .b 1])) (po_t (pf_bin op_mulA vok_mul (po_t (pf_int)) (po_b (pv 1)))) (paf_cons (o := .t (litF (.int 0))) (po_t (pf_int)) (paf_cons (o := .t (varF 2)) (po_t (pf_var (pv 2))) paf_nil))))) paf_nil)))) (po_t (pf_int)) (fun _ _ => rfl)))))
theorem ok_p_closed_power (T : Tx K mg) : FnOk P w K mg base CX0 5 T.f_p_closed_power T.fd_p_closed_power ["mat", "times"] (spOf K fn_p_closed_power) := by
  unfold fn_p_closed_power
  refine fn_ok (k := 4) (x := "closed_power") (qual := "closed_power") (st := s_p_closed_power) (N := ["mat", "times", "rings", "whole"]) (ps := ["mat", "times"]) (pins := [true, true]) (fb := F_p_closed_power) T.F_p_closed_power sc_p_closed_power rfl (by decide) ?_
  intro cdv A outer s H E hr
  unfold F_p_closed_power
  exact psf_cons (f := asgF (callF fn_p_power [.b 0, .b 1]) (tgT 2 (tgCons (tgN 2) (tgCons (tgN 3) (tgNil))))) (psf_asg (f := callF fn_p_power [.b 0, .b 1]) (g := tgT 2 (tgCons (tgN 2) (tgCons (tgN 3) (tgNil)))) (pf_call (ok_p_power T) (hr.mono (by decide)) (by rfl) T.g_p_power T.F_p_power.kp T.b_p_power (paf_cons (o := .b 0) (po_b (pv 0)) (paf_cons (o := .b 1) (po_b (pv 1)) paf_nil))) (pgf_tup rfl (pgsf_cons (pgf_name (i := 2) sc_p_closed_power.nd rfl (by first | exact .inl rfl | exact .inr rfl) (by decide)) (pgsf_cons (pgf_name (i := 3) sc_p_closed_power.nd rfl (by first | exact .inl rfl | exact .inr rfl) (by decide)) (pgsf_nil)))))
      (psf_one (psf_ret (pf_bin op_addA vok_add (po_b (pv 2)) (po_t (pf_call (ok_p_rings_closed T) (hr.mono (by decide)) (by rfl) T.g_p_rings_closed T.F_p_rings_closed.kp T.b_p_rings_closed (paf_cons (o := .b 3) (po_b (pv 3)) paf_nil))))))
theorem ok_p_check_pair (T : Tx K mg) : FnOk P w K mg base CX0 1 T.f_p_check_pair T.fd_p_check_pair ["above", "below"] (spOf K fn_p_check_pair) := by
  unfold fn_p_check_pair
  refine fn_ok (k := 0) (x := "check_pair") (qual := "check_pair") (st := s_p_check_pair) (N := ["above", "below"]) (ps := ["above", "below"]) (pins := [true, true]) (fb := F_p_check_pair) T.F_p_check_pair sc_p_check_pair rfl (by decide) ?_
  intro cdv A outer s H E hr
  unfold F_p_check_pair
  exact psf_one (psf_if (fc := bT (opF (neD) [.b 0, .b 1])) (pt_cmpf (op_neD hr.units) vok_ne (po_b (pv 0)) (po_b (pv 1)) (nomark _)) (psf_one (psf_never)) (psf_nil))
theorem ok_p_joined (T : Tx K mg) : FnOk P w K mg base CX0 4 T.f_p_joined T.fd_p_joined ["one", "other"] (spOf K fn_p_joined) := by
  unfold fn_p_joined
  refine fn_ok (k := 3) (x := "joined") (qual := "joined") (st := s_p_joined) (N := ["one", "other"]) (ps := ["one", "other"]) (pins := [true, true]) (fb := F_p_joined) T.F_p_joined sc_p_joined rfl (by decide) ?_
  intro cdv A outer s H E hr
  unfold F_p_joined
  exact psf_cons (f := dropF (callF fn_p_checked_mat [.b 0])) (psf_expr (pf_call (ok_p_checked_mat T) (hr.mono (by decide)) (by rfl) T.g_p_checked_mat T.F_p_checked_mat.kp T.b_p_checked_mat (paf_cons (o := .b 0) (po_b (pv 0)) paf_nil)))
      (psf_cons (f := dropF (callF fn_p_checked_mat [.b 1])) (psf_expr (pf_call (ok_p_checked_mat T) (hr.mono (by decide)) (by rfl) T.g_p_checked_mat T.F_p_checked_mat.kp T.b_p_checked_mat (paf_cons (o := .b 1) (po_b (pv 1)) paf_nil)))
      (psf_cons (f := dropF (callF fn_p_check_pair [.t (opF ixD [.b 0, .t (litF (.int 1))]), .t (opF ixD [.b 1, .t (litF (.int 0))])])) (psf_expr (pf_call (ok_p_check_pair T) (hr.mono (by decide)) (by rfl) T.g_p_check_pair T.F_p_check_pair.kp T.b_p_check_pair (paf_cons (o := .t (opF ixD [.b 0, .t (litF (.int 1))])) (po_t (pf_ix ix_seq vok_ix (po_b (pv 0)) (po_t (pf_int)) (fun _ _ => rfl))) (paf_cons (o := .t (opF ixD [.b 1, .t (litF (.int 0))])) (po_t (pf_ix ix_seq vok_ix (po_b (pv 1)) (po_t (pf_int)) (fun _ _ => rfl))) paf_nil))))
      (psf_one (psf_ret (pf_call (ok_p_chained T) (hr.mono (by decide)) (by rfl) T.g_p_chained T.F_p_chained.kp T.b_p_chained (paf_cons (o := .t (tupF [.t (litF (.int 0)), .t (varF 0)])) (po_t (pf_tup (paf_cons (o := .t (litF (.int 0))) (po_t (pf_int)) (paf_cons (o := .t (varF 0)) (po_t (pf_var (pv 0))) paf_nil)))) (paf_cons (o := .t (tupF [.t (litF (.int 0)), .t (varF 1)])) (po_t (pf_tup (paf_cons (o := .t (litF (.int 0))) (po_t (pf_int)) (paf_cons (o := .t (varF 1)) (po_t (pf_var (pv 1))) paf_nil)))) paf_nil)))))))
theorem ok_right (T : Tx K mg) : FnOk P w K mg base CX0 22 T.f_right T.fd_right ["_law_spring_here"] (spOf K fn_right) := by
  unfold fn_right
  refine fn_ok (k := 21) (x := "_law_right") (qual := "_law_right") (st := s_right) (N := ["_law_spring_here", "_law_n", "_law_one", "_law_other", "_law_times", "_law_due", "_law_both", "_law_ahead", "_law_behind_here", "_law_rings", "_law_made", "_law_few"]) (ps := ["_law_spring_here"]) (pins := [true]) (fb := F_right) T.F_right sc_right rfl (by decide) ?_
  intro cdv A outer s H E hr
  unfold F_right
  exact psf_cons (f := asgF (opF addD [.t (litF (.int 1)), .t (callF fn_next [.b 0, .t (litF (.int 8))])]) (tgN 1)) (psf_set (i := 1) sc_right.nd rfl (by first | exact .inl rfl | exact .inr rfl) (by decide) (pf_bin op_addA vok_add (po_t (pf_int)) (po_t (pf_call (ok_next T) (hr.mono (by decide)) (by rfl) T.g_next T.F_next.kp T.b_next (paf_cons (o := .b 0) (po_b (pv 0)) (paf_cons (o := .t (litF (.int 8))) (po_t (pf_int)) paf_nil))))))
      (psf_cons (f := parF [2, 3] [.t (callF fn_mat [.b 0, .b 1, .b 1]), .t (callF fn_mat [.b 0, .b 1, .b 1])]) (psf_par2 (i := 2) (j := 3) rfl sc_right.nd rfl rfl  (by decide)  (by decide) rfl rfl  (paf_cons (o := .t (callF fn_mat [.b 0, .b 1, .b 1])) (po_t (pf_call (ok_mat T) (hr.mono (by decide)) (by rfl) T.g_mat T.F_mat.kp T.b_mat (paf_cons (o := .b 0) (po_b (pv 0)) (paf_cons (o := .b 1) (po_b (pv 1)) (paf_cons (o := .b 1) (po_b (pv 1)) paf_nil))))) (paf_cons (o := .t (callF fn_mat [.b 0, .b 1, .b 1])) (po_t (pf_call (ok_mat T) (hr.mono (by decide)) (by rfl) T.g_mat T.F_mat.kp T.b_mat (paf_cons (o := .b 0) (po_b (pv 0)) (paf_cons (o := .b 1) (po_b (pv 1)) (paf_cons (o := .b 1) (po_b (pv 1)) paf_nil))))) paf_nil)) rfl)
      (psf_cons (f := asgF (opF addD [.t (litF (.int 1)), .t (callF fn_next [.b 0, .t (litF (.int 6))])]) (tgN 4)) (psf_set (i := 4) sc_right.nd rfl (by first | exact .inl rfl | exact .inr rfl) (by decide) (pf_bin op_addA vok_add (po_t (pf_int)) (po_t (pf_call (ok_next T) (hr.mono (by decide)) (by rfl) T.g_next T.F_next.kp T.b_next (paf_cons (o := .b 0) (po_b (pv 0)) (paf_cons (o := .t (litF (.int 6))) (po_t (pf_int)) paf_nil))))))
      (psf_cons (f := asgF (callF fn_row_rings [.t (opF mulD [.t (lstF [.t (varF 2)]), .b 4])]) (tgN 5)) (psf_set (i := 5) sc_right.nd rfl (by first | exact .inl rfl | exact .inr rfl) (by decide) (pf_call (ok_row_rings T) (hr.mono (by decide)) (by rfl) T.g_row_rings T.F_row_rings.kp T.b_row_rings (paf_cons (o := .t (opF mulD [.t (lstF [.t (varF 2)]), .b 4])) (po_t (pf_bin op_mulA vok_mul (po_t (pf_lst (paf_cons (o := .t (varF 2)) (po_t (pf_var (pv 2))) paf_nil))) (po_b (pv 4)))) paf_nil)))
      (psf_cons (f := ifF (orF (notF (tstF (.t (callF fn_same [.t (callF fn_p_closed_power [.b 2, .b 4]), .b 5])))) (notF (tstF (.t (callF fn_same [.t (callKF fn_p_closed_power [1, 0] [.b 4, .b 2]), .b 5]))))) (retF (litF (.bl false))) (passF)) (psf_if (fc := orF (notF (tstF (.t (callF fn_same [.t (callF fn_p_closed_power [.b 2, .b 4]), .b 5])))) (notF (tstF (.t (callF fn_same [.t (callKF fn_p_closed_power [1, 0] [.b 4, .b 2]), .b 5]))))) ((pwf_or (ptf_not (pt_tst (o := .t (callF fn_same [.t (callF fn_p_closed_power [.b 2, .b 4]), .b 5])) (po_t (pf_call (ok_same T) (hr.mono (by decide)) (by rfl) T.g_same T.F_same.kp T.b_same (paf_cons (o := .t (callF fn_p_closed_power [.b 2, .b 4])) (po_t (pf_call (ok_p_closed_power T) (hr.mono (by decide)) (by rfl) T.g_p_closed_power T.F_p_closed_power.kp T.b_p_closed_power (paf_cons (o := .b 2) (po_b (pv 2)) (paf_cons (o := .b 4) (po_b (pv 4)) paf_nil)))) (paf_cons (o := .b 5) (po_b (pv 5)) paf_nil)))))) (pwf_or1 (ptf_not (pt_tst (o := .t (callF fn_same [.t (callKF fn_p_closed_power [1, 0] [.b 4, .b 2]), .b 5])) (po_t (pf_call (ok_same T) (hr.mono (by decide)) (by rfl) T.g_same T.F_same.kp T.b_same (paf_cons (o := .t (callKF fn_p_closed_power [1, 0] [.b 4, .b 2])) (po_t (pf_callK0 (is := [1, 0]) (kops := [.b 4, .b 2]) (ok_p_closed_power T) (hr.mono (by decide)) (by rfl) T.g_p_closed_power T.F_p_closed_power.kp T.kb0_p_closed_power (by decide) rfl (pkf_cons (o := .b 4) (po_b (pv 4)) (pkf_cons (o := .b 2) (po_b (pv 2)) pkf_nil)))) (paf_cons (o := .b 5) (po_b (pv 5)) paf_nil)))))))).pt) (psf_one (psf_ret (pf_bl))) (psf_nil))
      (psf_cons (f := asgF (opF ixD [.t (lstF [.t (opF powD [.t (litF (.int 10)), .t (litF (.int 6))]), .t (opF addD [.t (litF (.int 1)), .t (callF fn_next [.b 0, .t (opF powD [.t (litF (.int 10)), .t (litF (.int 6))])])]), .t (opF addD [.t (litF (.int 1)), .t (callF fn_next [.b 0, .t (litF (.int 40))])])]), .t (callF fn_next [.b 0, .t (litF (.int 3))])]) (tgN 4)) (psf_set (i := 4) sc_right.nd rfl (by first | exact .inl rfl | exact .inr rfl) (by decide) (pf_ix ix_seq vok_ix (po_t (pf_lst (paf_cons (o := .t (opF powD [.t (litF (.int 10)), .t (litF (.int 6))])) (po_t (pf_bin op_powA vok_pow (po_t (pf_int)) (po_t (pf_int)))) (paf_cons (o := .t (opF addD [.t (litF (.int 1)), .t (callF fn_next [.b 0, .t (opF powD [.t (litF (.int 10)), .t (litF (.int 6))])])])) (po_t (pf_bin op_addA vok_add (po_t (pf_int)) (po_t (pf_call (ok_next T) (hr.mono (by decide)) (by rfl) T.g_next T.F_next.kp T.b_next (paf_cons (o := .b 0) (po_b (pv 0)) (paf_cons (o := .t (opF powD [.t (litF (.int 10)), .t (litF (.int 6))])) (po_t (pf_bin op_powA vok_pow (po_t (pf_int)) (po_t (pf_int)))) paf_nil)))))) (paf_cons (o := .t (opF addD [.t (litF (.int 1)), .t (callF fn_next [.b 0, .t (litF (.int 40))])])) (po_t (pf_bin op_addA vok_add (po_t (pf_int)) (po_t (pf_call (ok_next T) (hr.mono (by decide)) (by rfl) T.g_next T.F_next.kp T.b_next (paf_cons (o := .b 0) (po_b (pv 0)) (paf_cons (o := .t (litF (.int 40))) (po_t (pf_int)) paf_nil)))))) paf_nil))))) (po_t (pf_call (ok_next T) (hr.mono (by decide)) (by rfl) T.g_next T.F_next.kp T.b_next (paf_cons (o := .b 0) (po_b (pv 0)) (paf_cons (o := .t (litF (.int 3))) (po_t (pf_int)) paf_nil)))) (fun _ _ => rfl)))
      (psf_cons (f := ifF (notF (tstF (.t (callF fn_same [.t (callF fn_p_closed_power [.b 3, .b 4]), .t (callF fn_power_rings [.b 3, .b 4])])))) (retF (litF (.bl false))) (passF)) (psf_if (fc := notF (tstF (.t (callF fn_same [.t (callF fn_p_closed_power [.b 3, .b 4]), .t (callF fn_power_rings [.b 3, .b 4])])))) (ptf_not (pt_tst (o := .t (callF fn_same [.t (callF fn_p_closed_power [.b 3, .b 4]), .t (callF fn_power_rings [.b 3, .b 4])])) (po_t (pf_call (ok_same T) (hr.mono (by decide)) (by rfl) T.g_same T.F_same.kp T.b_same (paf_cons (o := .t (callF fn_p_closed_power [.b 3, .b 4])) (po_t (pf_call (ok_p_closed_power T) (hr.mono (by decide)) (by rfl) T.g_p_closed_power T.F_p_closed_power.kp T.b_p_closed_power (paf_cons (o := .b 3) (po_b (pv 3)) (paf_cons (o := .b 4) (po_b (pv 4)) paf_nil)))) (paf_cons (o := .t (callF fn_power_rings [.b 3, .b 4])) (po_t (pf_call (ok_power_rings T) (hr.mono (by decide)) (by rfl) T.g_power_rings T.F_power_rings.kp T.b_power_rings (paf_cons (o := .b 3) (po_b (pv 3)) (paf_cons (o := .b 4) (po_b (pv 4)) paf_nil)))) paf_nil)))))) (psf_one (psf_ret (pf_bl))) (psf_nil))
      (psf_cons (f := ifF (bT (opF (eqD) [.t (callF fn_next [.b 0, .t (litF (.int 6))]), .t (litF (.int 5))])) (asgF (varF 2) (tgN 3)) (passF)) (psf_if (fc := bT (opF (eqD) [.t (callF fn_next [.b 0, .t (litF (.int 6))]), .t (litF (.int 5))])) (pt_cmpf (op_eqD hr.units) vok_eq (po_t (pf_call (ok_next T) (hr.mono (by decide)) (by rfl) T.g_next T.F_next.kp T.b_next (paf_cons (o := .b 0) (po_b (pv 0)) (paf_cons (o := .t (litF (.int 6))) (po_t (pf_int)) paf_nil)))) (po_t (pf_int)) (nomark _)) (psf_one (psf_set (i := 3) sc_right.nd rfl (by first | exact .inl rfl | exact .inr rfl) (by decide) (pf_var (pv 2)))) (psf_nil))
      (psf_cons (f := asgF (lstF []) (tgN 6)) (psf_set (i := 6) sc_right.nd rfl (by first | exact .inl rfl | exact .inr rfl) (by decide) (pf_lst paf_nil))
      (psf_cons (f := forF (itSeq (lstF [.t (tupF [.t (varF 2), .t (varF 3)]), .t (tupF [.t (varF 3), .t (varF 2)])])) (tgT 2 (tgCons (tgN 7) (tgCons (tgN 8) (tgNil)))) (seqF (asgF (callF fn_p_joined [.b 7, .b 8]) (tgT 2 (tgCons (tgN 9) (tgCons (tgN 10) (tgNil))))) <|
      seqF (ifF (notF (tstF (.t (callF fn_same [.t (tupF [.t (varF 9), .t (varF 10)]), .t (callF fn_behind [.b 7, .b 8])])))) (retF (litF (.bl false))) (passF)) <|
      seqF (dropF (mutF 6 appD [.t (callF fn_p_closed_power [.b 10, .b 4])])) <|
      seqF (ifF (notF (tstF (.t (callF fn_same [.t (opF ixD [.b 6, .t (opF negD [.t (litF (.int 1))])]), .t (callF fn_power_rings [.b 10, .b 4])])))) (retF (litF (.bl false))) (passF)) <|
      asgF (opF addD [.t (opF ixD [.b 6, .t (opF negD [.t (litF (.int 1))])]), .t (opF mulD [.b 9, .b 4])]) (tgSub 6 (.t (opF negD [.t (litF (.int 1))]))))) (psf_for (fi := itSeq (lstF [.t (tupF [.t (varF 2), .t (varF 3)]), .t (tupF [.t (varF 3), .t (varF 2)])])) (g := tgT 2 (tgCons (tgN 7) (tgCons (tgN 8) (tgNil)))) PassesOwn.never rfl (pif_seq (pf_lst (paf_cons (o := .t (tupF [.t (varF 2), .t (varF 3)])) (po_t (pf_tup (paf_cons (o := .t (varF 2)) (po_t (pf_var (pv 2))) (paf_cons (o := .t (varF 3)) (po_t (pf_var (pv 3))) paf_nil)))) (paf_cons (o := .t (tupF [.t (varF 3), .t (varF 2)])) (po_t (pf_tup (paf_cons (o := .t (varF 3)) (po_t (pf_var (pv 3))) (paf_cons (o := .t (varF 2)) (po_t (pf_var (pv 2))) paf_nil)))) paf_nil)))) (pgf_tup rfl (pgsf_cons (pgf_name (i := 7) sc_right.nd rfl (by first | exact .inl rfl | exact .inr rfl) (by decide)) (pgsf_cons (pgf_name (i := 8) sc_right.nd rfl (by first | exact .inl rfl | exact .inr rfl) (by decide)) (pgsf_nil)))) (psf_cons (f := asgF (callF fn_p_joined [.b 7, .b 8]) (tgT 2 (tgCons (tgN 9) (tgCons (tgN 10) (tgNil))))) (psf_asg (f := callF fn_p_joined [.b 7, .b 8]) (g := tgT 2 (tgCons (tgN 9) (tgCons (tgN 10) (tgNil)))) (pf_call (ok_p_joined T) (hr.mono (by decide)) (by rfl) T.g_p_joined T.F_p_joined.kp T.b_p_joined (paf_cons (o := .b 7) (po_b (pv 7)) (paf_cons (o := .b 8) (po_b (pv 8)) paf_nil))) (pgf_tup rfl (pgsf_cons (pgf_name (i := 9) sc_right.nd rfl (by first | exact .inl rfl | exact .inr rfl) (by decide)) (pgsf_cons (pgf_name (i := 10) sc_right.nd rfl (by first | exact .inl rfl | exact .inr rfl) (by decide)) (pgsf_nil)))))
      (psf_cons (f := ifF (notF (tstF (.t (callF fn_same [.t (tupF [.t (varF 9), .t (varF 10)]), .t (callF fn_behind [.b 7, .b 8])])))) (retF (litF (.bl false))) (passF)) (psf_if (fc := notF (tstF (.t (callF fn_same [.t (tupF [.t (varF 9), .t (varF 10)]), .t (callF fn_behind [.b 7, .b 8])])))) (ptf_not (pt_tst (o := .t (callF fn_same [.t (tupF [.t (varF 9), .t (varF 10)]), .t (callF fn_behind [.b 7, .b 8])])) (po_t (pf_call (ok_same T) (hr.mono (by decide)) (by rfl) T.g_same T.F_same.kp T.b_same (paf_cons (o := .t (tupF [.t (varF 9), .t (varF 10)])) (po_t (pf_tup (paf_cons (o := .t (varF 9)) (po_t (pf_var (pv 9))) (paf_cons (o := .t (varF 10)) (po_t (pf_var (pv 10))) paf_nil)))) (paf_cons (o := .t (callF fn_behind [.b 7, .b 8])) (po_t (pf_call (ok_behind T) (hr.mono (by decide)) (by rfl) T.g_behind T.F_behind.kp T.b_behind (paf_cons (o := .b 7) (po_b (pv 7)) (paf_cons (o := .b 8) (po_b (pv 8)) paf_nil)))) paf_nil)))))) (psf_one (psf_ret (pf_bl))) (psf_nil))
      (psf_cons (f := dropF (mutF 6 appD [.t (callF fn_p_closed_power [.b 10, .b 4])])) (psf_expr (pf_append (i := 6) (pv 6) (paf_cons (o := .t (callF fn_p_closed_power [.b 10, .b 4])) (po_t (pf_call (ok_p_closed_power T) (hr.mono (by decide)) (by rfl) T.g_p_closed_power T.F_p_closed_power.kp T.b_p_closed_power (paf_cons (o := .b 10) (po_b (pv 10)) (paf_cons (o := .b 4) (po_b (pv 4)) paf_nil)))) paf_nil)))
      (psf_cons (f := ifF (notF (tstF (.t (callF fn_same [.t (opF ixD [.b 6, .t (opF negD [.t (litF (.int 1))])]), .t (callF fn_power_rings [.b 10, .b 4])])))) (retF (litF (.bl false))) (passF)) (psf_if (fc := notF (tstF (.t (callF fn_same [.t (opF ixD [.b 6, .t (opF negD [.t (litF (.int 1))])]), .t (callF fn_power_rings [.b 10, .b 4])])))) (ptf_not (pt_tst (o := .t (callF fn_same [.t (opF ixD [.b 6, .t (opF negD [.t (litF (.int 1))])]), .t (callF fn_power_rings [.b 10, .b 4])])) (po_t (pf_call (ok_same T) (hr.mono (by decide)) (by rfl) T.g_same T.F_same.kp T.b_same (paf_cons (o := .t (opF ixD [.b 6, .t (opF negD [.t (litF (.int 1))])])) (po_t (pf_ix ix_seq vok_ix (po_b (pv 6)) (po_t (pf_un un_neg vok_neg (po_t (pf_int)))) (fun _ _ => rfl))) (paf_cons (o := .t (callF fn_power_rings [.b 10, .b 4])) (po_t (pf_call (ok_power_rings T) (hr.mono (by decide)) (by rfl) T.g_power_rings T.F_power_rings.kp T.b_power_rings (paf_cons (o := .b 10) (po_b (pv 10)) (paf_cons (o := .b 4) (po_b (pv 4)) paf_nil)))) paf_nil)))))) (psf_one (psf_ret (pf_bl))) (psf_nil))
      (psf_one (psf_asg (f := opF addD [.t (opF ixD [.b 6, .t (opF negD [.t (litF (.int 1))])]), .t (opF mulD [.b 9, .b 4])]) (g := tgSub 6 (.t (opF negD [.t (litF (.int 1))]))) (pf_bin op_addA vok_add (po_t (pf_ix ix_seq vok_ix (po_b (pv 6)) (po_t (pf_un un_neg vok_neg (po_t (pf_int)))) (fun _ _ => rfl))) (po_t (pf_bin op_mulA vok_mul (po_b (pv 9)) (po_b (pv 4))))) (pgf_sub (k := 6) (oi := .t (opF negD [.t (litF (.int 1))])) (pv 6) (po_t (pf_un un_neg vok_neg (po_t (pf_int))))))))))))
      (psf_cons (f := asgF (opF addD [.t (litF (.int 1)), .t (callF fn_next [.b 0, .t (litF (.int 3))])]) (tgN 11)) (psf_set (i := 11) sc_right.nd rfl (by first | exact .inl rfl | exact .inr rfl) (by decide) (pf_bin op_addA vok_add (po_t (pf_int)) (po_t (pf_call (ok_next T) (hr.mono (by decide)) (by rfl) T.g_next T.F_next.kp T.b_next (paf_cons (o := .b 0) (po_b (pv 0)) (paf_cons (o := .t (litF (.int 3))) (po_t (pf_int)) paf_nil))))))
      (psf_cons (f := asgF (callF fn_p_joined [.b 2, .b 3]) (tgT 2 (tgCons (tgN 9) (tgCons (tgN 10) (tgNil))))) (psf_asg (f := callF fn_p_joined [.b 2, .b 3]) (g := tgT 2 (tgCons (tgN 9) (tgCons (tgN 10) (tgNil)))) (pf_call (ok_p_joined T) (hr.mono (by decide)) (by rfl) T.g_p_joined T.F_p_joined.kp T.b_p_joined (paf_cons (o := .b 2) (po_b (pv 2)) (paf_cons (o := .b 3) (po_b (pv 3)) paf_nil))) (pgf_tup rfl (pgsf_cons (pgf_name (i := 9) sc_right.nd rfl (by first | exact .inl rfl | exact .inr rfl) (by decide)) (pgsf_cons (pgf_name (i := 10) sc_right.nd rfl (by first | exact .inl rfl | exact .inr rfl) (by decide)) (pgsf_nil)))))
      (psf_cons (f := ifF (notF (tstF (.t (callF fn_same [.t (opF addD [.t (callF fn_p_closed_power [.b 10, .b 11]), .t (opF mulD [.b 11, .b 9])]), .t (callF fn_row_rings [.t (opF mulD [.t (lstF [.t (varF 2), .t (varF 3)]), .b 11])])])))) (retF (litF (.bl false))) (passF)) (psf_if (fc := notF (tstF (.t (callF fn_same [.t (opF addD [.t (callF fn_p_closed_power [.b 10, .b 11]), .t (opF mulD [.b 11, .b 9])]), .t (callF fn_row_rings [.t (opF mulD [.t (lstF [.t (varF 2), .t (varF 3)]), .b 11])])])))) (ptf_not (pt_tst (o := .t (callF fn_same [.t (opF addD [.t (callF fn_p_closed_power [.b 10, .b 11]), .t (opF mulD [.b 11, .b 9])]), .t (callF fn_row_rings [.t (opF mulD [.t (lstF [.t (varF 2), .t (varF 3)]), .b 11])])])) (po_t (pf_call (ok_same T) (hr.mono (by decide)) (by rfl) T.g_same T.F_same.kp T.b_same (paf_cons (o := .t (opF addD [.t (callF fn_p_closed_power [.b 10, .b 11]), .t (opF mulD [.b 11, .b 9])])) (po_t (pf_bin op_addA vok_add (po_t (pf_call (ok_p_closed_power T) (hr.mono (by decide)) (by rfl) T.g_p_closed_power T.F_p_closed_power.kp T.b_p_closed_power (paf_cons (o := .b 10) (po_b (pv 10)) (paf_cons (o := .b 11) (po_b (pv 11)) paf_nil)))) (po_t (pf_bin op_mulA vok_mul (po_b (pv 11)) (po_b (pv 9)))))) (paf_cons (o := .t (callF fn_row_rings [.t (opF mulD [.t (lstF [.t (varF 2), .t (varF 3)]), .b 11])])) (po_t (pf_call (ok_row_rings T) (hr.mono (by decide)) (by rfl) T.g_row_rings T.F_row_rings.kp T.b_row_rings (paf_cons (o := .t (opF mulD [.t (lstF [.t (varF 2), .t (varF 3)]), .b 11])) (po_t (pf_bin op_mulA vok_mul (po_t (pf_lst (paf_cons (o := .t (varF 2)) (po_t (pf_var (pv 2))) (paf_cons (o := .t (varF 3)) (po_t (pf_var (pv 3))) paf_nil)))) (po_b (pv 11)))) paf_nil))) paf_nil)))))) (psf_one (psf_ret (pf_bl))) (psf_nil))
      (psf_one (psf_ret (pf_cmp (op_eqD hr.units) vok_eq (po_t (pf_ix ix_seq vok_ix (po_b (pv 6)) (po_t (pf_int)) (fun _ _ => rfl))) (po_t (pf_ix ix_seq vok_ix (po_b (pv 6)) (po_t (pf_int)) (fun _ _ => rfl))) (nomark _))))))))))))))))
theorem ok_spring (T : Tx K mg) : FnOk P w K mg base CX0 1 T.f_spring T.fd_spring ["_law_script", "_law_place"] (spOf K fn_spring) := by
  unfold fn_spring
  refine fn_ok (k := 0) (x := "_law_spring") (qual := "_law_spring") (st := s_spring) (N := ["_law_script", "_law_place", "_law_cell", "_law_mixed"]) (ps := ["_law_script", "_law_place"]) (pins := [true, true]) (fb := F_spring) T.F_spring sc_spring rfl (by decide) ?_
  intro cdv A outer s H E hr
  unfold F_spring
  exact psf_cons (f := asgF (litF (.int 0)) (tgN 2)) (psf_set (i := 2) sc_spring.nd rfl (by first | exact .inl rfl | exact .inr rfl) (by decide) (pf_int))
      (psf_cons (f := ifF (bT (opF (ltD) [.b 1, .t (opF lenD [.b 0])])) (asgF (opF intD [.t (opF ixD [.b 0, .b 1])]) (tgN 2)) (passF)) (psf_if (fc := bT (opF (ltD) [.b 1, .t (opF lenD [.b 0])])) (pt_cmpf op_lt vok_lt (po_b (pv 1)) (po_t (pf_callB call_len_seq vok_len (by rfl) T.z_len PySem.boot_len (paf_cons (o := .b 0) (po_b (pv 0)) paf_nil))) (nomark _)) (psf_one (psf_set (i := 2) sc_spring.nd rfl (by first | exact .inl rfl | exact .inr rfl) (by decide) (pf_callTy call_int1 vok_int (by rfl) T.z_int boot_int (paf_cons (o := .t (opF ixD [.b 0, .b 1])) (po_t (pf_ix ix_seq vok_ix (po_b (pv 0)) (po_b (pv 1)) (fun _ _ => rfl))) paf_nil)))) (psf_nil))
      (psf_cons (f := asgF (opF addD [.t (opF addD [.t (opF addD [.t (opF modD [.t (opF intD [.b 2]), .t (opF addD [.t (opF powD [.t (litF (.int 10)), .t (litF (.int 37))]), .t (litF (.int 3))])]), .t (opF mulD [.t (opF mulD [.t (litF (.int 7778777)), .b 1]), .b 1])]), .t (opF mulD [.t (litF (.int 32452843)), .b 1])]), .t (litF (.int 15485863))]) (tgN 3)) (psf_set (i := 3) sc_spring.nd rfl (by first | exact .inl rfl | exact .inr rfl) (by decide) (pf_bin op_addA vok_add (po_t (pf_bin op_addA vok_add (po_t (pf_bin op_addA vok_add (po_t (pf_bin op_modN vok_mod (po_t (pf_callTy call_int1 vok_int (by rfl) T.z_int boot_int (paf_cons (o := .b 2) (po_b (pv 2)) paf_nil))) (po_t (pf_bin op_addA vok_add (po_t (pf_bin op_powA vok_pow (po_t (pf_int)) (po_t (pf_int)))) (po_t (pf_int)))))) (po_t (pf_bin op_mulA vok_mul (po_t (pf_bin op_mulA vok_mul (po_t (pf_int)) (po_b (pv 1)))) (po_b (pv 1)))))) (po_t (pf_bin op_mulA vok_mul (po_t (pf_int)) (po_b (pv 1)))))) (po_t (pf_int))))
      (psf_one (psf_ret (pf_lst (paf_cons (o := .t (opF max2D [.t (litF (.int 0)), .t (opF subD [.b 2, .t (opF powD [.t (litF (.int 10)), .t (litF (.int 18))])])])) (po_t (pf_callB (call_max2 rfl) vok_max2 (by rfl) T.z_max (by decide +kernel) (paf_cons (o := .t (litF (.int 0))) (po_t (pf_int)) (paf_cons (o := .t (opF subD [.b 2, .t (opF powD [.t (litF (.int 10)), .t (litF (.int 18))])])) (po_t (pf_bin op_sub vok_sub (po_b (pv 2)) (po_t (pf_bin op_powA vok_pow (po_t (pf_int)) (po_t (pf_int)))))) paf_nil)))) (paf_cons (o := .t (movF 3)) (po_t (pf_mov (pv 3))) (paf_cons (o := .t (litF (.int 0))) (po_t (pf_int)) paf_nil))))))))
theorem ok_law (T : Tx K mg) : FnOk P w K mg base CX0 23 T.f_law T.fd_law ["_law_script"] (spOf K fn_law) := by
  unfold fn_law
  refine fn_ok (k := 22) (x := "law") (qual := "law") (st := s_law) (N := ["_law_script", "_law_place"]) (ps := ["_law_script"]) (pins := [true]) (fb := F_law) T.F_law sc_law rfl (by decide) ?_
  intro cdv A outer s H E hr
  unfold F_law
  exact psf_cons (f := forF (itRg rng1D [.t (opF max2D [.t (litF (.int 3)), .t (opF min2D [.t (opF lenD [.b 0]), .t (litF (.int 6))])])]) (tgN 1) (ifF (notF (tstF (.t (callF fn_right [.t (callF fn_spring [.b 0, .b 1])])))) (retF (litF (.bl false))) (passF))) (psf_for (fi := itRg rng1D [.t (opF max2D [.t (litF (.int 3)), .t (opF min2D [.t (opF lenD [.b 0]), .t (litF (.int 6))])])]) (g := tgN 1) PassesOwn.never rfl (pif_rng1 (by rfl) T.z_range (paf_cons (o := .t (opF max2D [.t (litF (.int 3)), .t (opF min2D [.t (opF lenD [.b 0]), .t (litF (.int 6))])])) (po_t (pf_callB (call_max2 rfl) vok_max2 (by rfl) T.z_max (by decide +kernel) (paf_cons (o := .t (litF (.int 3))) (po_t (pf_int)) (paf_cons (o := .t (opF min2D [.t (opF lenD [.b 0]), .t (litF (.int 6))])) (po_t (pf_callB (call_min2 rfl) vok_min2 (by rfl) T.z_min (by decide +kernel) (paf_cons (o := .t (opF lenD [.b 0])) (po_t (pf_callB call_len_seq vok_len (by rfl) T.z_len PySem.boot_len (paf_cons (o := .b 0) (po_b (pv 0)) paf_nil))) (paf_cons (o := .t (litF (.int 6))) (po_t (pf_int)) paf_nil)))) paf_nil)))) paf_nil)) (pgf_name (i := 1) sc_law.nd rfl (by first | exact .inl rfl | exact .inr rfl) (by decide)) (psf_one (psf_if (fc := notF (tstF (.t (callF fn_right [.t (callF fn_spring [.b 0, .b 1])])))) (ptf_not (pt_tst (o := .t (callF fn_right [.t (callF fn_spring [.b 0, .b 1])])) (po_t (pf_call (ok_right T) (hr.mono (by decide)) (by rfl) T.g_right T.F_right.kp T.b_right (paf_cons (o := .t (callF fn_spring [.b 0, .b 1])) (po_t (pf_call (ok_spring T) (hr.mono (by decide)) (by rfl) T.g_spring T.F_spring.kp T.b_spring (paf_cons (o := .b 0) (po_b (pv 0)) (paf_cons (o := .b 1) (po_b (pv 1)) paf_nil)))) paf_nil))))) (psf_one (psf_ret (pf_bl))) (psf_nil))))
      (psf_one (psf_ret (pf_bl)))
end
theorem all_mk {l : PySem.W.OpenLaw} {w : World} {K : PySem.W.Frag} {h : Heap} {mg : Str → Option Value} {fa f_links f_lots f_behind f_next f_round f_mat f_row_rings f_power_rings f_same f_p_far_end f_p_loose_rings f_p_put_behind f_p_chained f_p_check_square f_p_round_of f_p_is_mat f_p_checked_mat f_p_check_size f_p_straight f_p_power f_p_rings_closed f_p_closed_power f_p_check_pair f_p_joined f_right f_spring f_law : Addr} (X : K.In h) (G : h.Ns mainGlobals mg) (hfa : mg "law" = some (.ref fa))
    (hlaw : ∀ ns : List Int, ns.length ≤ 63 → ∃ os, fn_law.sem [.scr ns] = some (.bl true, os))
    {od_links an_links : Option Addr} {sl_links : Array (Option Value)} {oc_links kV_links dc_links pm_links cd_links ct_links : Value}
    {od_lots an_lots : Option Addr} {sl_lots : Array (Option Value)} {oc_lots kV_lots dc_lots pm_lots cd_lots ct_lots : Value}
    {od_behind an_behind : Option Addr} {sl_behind : Array (Option Value)} {oc_behind kV_behind dc_behind pm_behind cd_behind ct_behind : Value}
    {od_next an_next : Option Addr} {sl_next : Array (Option Value)} {oc_next kV_next dc_next pm_next cd_next ct_next : Value}
    {od_round an_round : Option Addr} {sl_round : Array (Option Value)} {oc_round kV_round dc_round pm_round cd_round ct_round : Value}
    {od_mat an_mat : Option Addr} {sl_mat : Array (Option Value)} {oc_mat kV_mat dc_mat pm_mat cd_mat ct_mat : Value}
    {od_row_rings an_row_rings : Option Addr} {sl_row_rings : Array (Option Value)} {oc_row_rings kV_row_rings dc_row_rings pm_row_rings cd_row_rings ct_row_rings : Value}
    {od_power_rings an_power_rings : Option Addr} {sl_power_rings : Array (Option Value)} {oc_power_rings kV_power_rings dc_power_rings pm_power_rings cd_power_rings ct_power_rings : Value}
    {od_same an_same : Option Addr} {sl_same : Array (Option Value)} {oc_same kV_same dc_same pm_same cd_same ct_same : Value}
    {od_p_far_end an_p_far_end : Option Addr} {sl_p_far_end : Array (Option Value)} {oc_p_far_end kV_p_far_end dc_p_far_end pm_p_far_end cd_p_far_end ct_p_far_end : Value}
    {od_p_loose_rings an_p_loose_rings : Option Addr} {sl_p_loose_rings : Array (Option Value)} {oc_p_loose_rings kV_p_loose_rings dc_p_loose_rings pm_p_loose_rings cd_p_loose_rings ct_p_loose_rings : Value}
    {od_p_put_behind an_p_put_behind : Option Addr} {sl_p_put_behind : Array (Option Value)} {oc_p_put_behind kV_p_put_behind dc_p_put_behind pm_p_put_behind cd_p_put_behind ct_p_put_behind : Value}
    {od_p_chained an_p_chained : Option Addr} {sl_p_chained : Array (Option Value)} {oc_p_chained kV_p_chained dc_p_chained pm_p_chained cd_p_chained ct_p_chained : Value}
    {od_p_check_square an_p_check_square : Option Addr} {sl_p_check_square : Array (Option Value)} {oc_p_check_square kV_p_check_square dc_p_check_square pm_p_check_square cd_p_check_square ct_p_check_square : Value}
    {od_p_round_of an_p_round_of : Option Addr} {sl_p_round_of : Array (Option Value)} {oc_p_round_of kV_p_round_of dc_p_round_of pm_p_round_of cd_p_round_of ct_p_round_of : Value}
    {od_p_is_mat an_p_is_mat : Option Addr} {sl_p_is_mat : Array (Option Value)} {oc_p_is_mat kV_p_is_mat dc_p_is_mat pm_p_is_mat cd_p_is_mat ct_p_is_mat : Value}
    {od_p_checked_mat an_p_checked_mat : Option Addr} {sl_p_checked_mat : Array (Option Value)} {oc_p_checked_mat kV_p_checked_mat dc_p_checked_mat pm_p_checked_mat cd_p_checked_mat ct_p_checked_mat : Value}
    {od_p_check_size an_p_check_size : Option Addr} {sl_p_check_size : Array (Option Value)} {oc_p_check_size kV_p_check_size dc_p_check_size pm_p_check_size cd_p_check_size ct_p_check_size : Value}
    {od_p_straight an_p_straight : Option Addr} {sl_p_straight : Array (Option Value)} {oc_p_straight kV_p_straight dc_p_straight pm_p_straight cd_p_straight ct_p_straight : Value}
    {od_p_power an_p_power : Option Addr} {sl_p_power : Array (Option Value)} {oc_p_power kV_p_power dc_p_power pm_p_power cd_p_power ct_p_power : Value}
    {od_p_rings_closed an_p_rings_closed : Option Addr} {sl_p_rings_closed : Array (Option Value)} {oc_p_rings_closed kV_p_rings_closed dc_p_rings_closed pm_p_rings_closed cd_p_rings_closed ct_p_rings_closed : Value}
    {od_p_closed_power an_p_closed_power : Option Addr} {sl_p_closed_power : Array (Option Value)} {oc_p_closed_power kV_p_closed_power dc_p_closed_power pm_p_closed_power cd_p_closed_power ct_p_closed_power : Value}
    {od_p_check_pair an_p_check_pair : Option Addr} {sl_p_check_pair : Array (Option Value)} {oc_p_check_pair kV_p_check_pair dc_p_check_pair pm_p_check_pair cd_p_check_pair ct_p_check_pair : Value}
    {od_p_joined an_p_joined : Option Addr} {sl_p_joined : Array (Option Value)} {oc_p_joined kV_p_joined dc_p_joined pm_p_joined cd_p_joined ct_p_joined : Value}
    {od_right an_right : Option Addr} {sl_right : Array (Option Value)} {oc_right kV_right dc_right pm_right cd_right ct_right : Value}
    {od_spring an_spring : Option Addr} {sl_spring : Array (Option Value)} {oc_spring kV_spring dc_spring pm_spring cd_spring ct_spring : Value}
    {od_law an_law : Option Addr} {sl_law : Array (Option Value)} {oc_law kV_law dc_law pm_law cd_law ct_law : Value}
    (a_links : PySem.W.nsIn K mainGlobals "_law_links" = some (some (.ref f_links))) (l_links : K.lookup f_links = some ⟨oc_links, od_links, .func (PySem.W.fnOf "_law_links" "_law_links" (defArgs s_links) (defBody s_links) (defScope s_links) .none kV_links dc_links pm_links an_links cd_links ct_links), sl_links⟩) (c_links : PySem.W.codeIn K cd_links "_law_links" = true) (k_links : PySem.W.keepIn K (.ref f_links) = true)
    (a_lots : PySem.W.nsIn K mainGlobals "_law_lots" = some (some (.ref f_lots))) (l_lots : K.lookup f_lots = some ⟨oc_lots, od_lots, .func (PySem.W.fnOf "_law_lots" "_law_lots" (defArgs s_lots) (defBody s_lots) (defScope s_lots) .none kV_lots dc_lots pm_lots an_lots cd_lots ct_lots), sl_lots⟩) (c_lots : PySem.W.codeIn K cd_lots "_law_lots" = true) (k_lots : PySem.W.keepIn K (.ref f_lots) = true)
    (a_behind : PySem.W.nsIn K mainGlobals "_law_behind" = some (some (.ref f_behind))) (l_behind : K.lookup f_behind = some ⟨oc_behind, od_behind, .func (PySem.W.fnOf "_law_behind" "_law_behind" (defArgs s_behind) (defBody s_behind) (defScope s_behind) .none kV_behind dc_behind pm_behind an_behind cd_behind ct_behind), sl_behind⟩) (c_behind : PySem.W.codeIn K cd_behind "_law_behind" = true) (k_behind : PySem.W.keepIn K (.ref f_behind) = true)
    (a_next : PySem.W.nsIn K mainGlobals "_law_next" = some (some (.ref f_next))) (l_next : K.lookup f_next = some ⟨oc_next, od_next, .func (PySem.W.fnOf "_law_next" "_law_next" (defArgs s_next) (defBody s_next) (defScope s_next) .none kV_next dc_next pm_next an_next cd_next ct_next), sl_next⟩) (c_next : PySem.W.codeIn K cd_next "_law_next" = true) (k_next : PySem.W.keepIn K (.ref f_next) = true)
    (a_round : PySem.W.nsIn K mainGlobals "_law_round" = some (some (.ref f_round))) (l_round : K.lookup f_round = some ⟨oc_round, od_round, .func (PySem.W.fnOf "_law_round" "_law_round" (defArgs s_round) (defBody s_round) (defScope s_round) .none kV_round dc_round pm_round an_round cd_round ct_round), sl_round⟩) (c_round : PySem.W.codeIn K cd_round "_law_round" = true) (k_round : PySem.W.keepIn K (.ref f_round) = true)
    (a_mat : PySem.W.nsIn K mainGlobals "_law_mat" = some (some (.ref f_mat))) (l_mat : K.lookup f_mat = some ⟨oc_mat, od_mat, .func (PySem.W.fnOf "_law_mat" "_law_mat" (defArgs s_mat) (defBody s_mat) (defScope s_mat) .none kV_mat dc_mat pm_mat an_mat cd_mat ct_mat), sl_mat⟩) (c_mat : PySem.W.codeIn K cd_mat "_law_mat" = true) (k_mat : PySem.W.keepIn K (.ref f_mat) = true)
    (a_row_rings : PySem.W.nsIn K mainGlobals "_law_row_rings" = some (some (.ref f_row_rings))) (l_row_rings : K.lookup f_row_rings = some ⟨oc_row_rings, od_row_rings, .func (PySem.W.fnOf "_law_row_rings" "_law_row_rings" (defArgs s_row_rings) (defBody s_row_rings) (defScope s_row_rings) .none kV_row_rings dc_row_rings pm_row_rings an_row_rings cd_row_rings ct_row_rings), sl_row_rings⟩) (c_row_rings : PySem.W.codeIn K cd_row_rings "_law_row_rings" = true) (k_row_rings : PySem.W.keepIn K (.ref f_row_rings) = true)
    (a_power_rings : PySem.W.nsIn K mainGlobals "_law_power_rings" = some (some (.ref f_power_rings))) (l_power_rings : K.lookup f_power_rings = some ⟨oc_power_rings, od_power_rings, .func (PySem.W.fnOf "_law_power_rings" "_law_power_rings" (defArgs s_power_rings) (defBody s_power_rings) (defScope s_power_rings) .none kV_power_rings dc_power_rings pm_power_rings an_power_rings cd_power_rings ct_power_rings), sl_power_rings⟩) (c_power_rings : PySem.W.codeIn K cd_power_rings "_law_power_rings" = true) (k_power_rings : PySem.W.keepIn K (.ref f_power_rings) = true)
    (a_same : PySem.W.nsIn K mainGlobals "_law_same" = some (some (.ref f_same))) (l_same : K.lookup f_same = some ⟨oc_same, od_same, .func (PySem.W.fnOf "_law_same" "_law_same" (defArgs s_same) (defBody s_same) (defScope s_same) .none kV_same dc_same pm_same an_same cd_same ct_same), sl_same⟩) (c_same : PySem.W.codeIn K cd_same "_law_same" = true) (k_same : PySem.W.keepIn K (.ref f_same) = true)
    (a_p_far_end : PySem.W.nsIn K mainGlobals "far_end" = some (some (.ref f_p_far_end))) (l_p_far_end : K.lookup f_p_far_end = some ⟨oc_p_far_end, od_p_far_end, .func (PySem.W.fnOf "far_end" "far_end" (defArgs s_p_far_end) (defBody s_p_far_end) (defScope s_p_far_end) .none kV_p_far_end dc_p_far_end pm_p_far_end an_p_far_end cd_p_far_end ct_p_far_end), sl_p_far_end⟩) (c_p_far_end : PySem.W.codeIn K cd_p_far_end "far_end" = true) (k_p_far_end : PySem.W.keepIn K (.ref f_p_far_end) = true)
    (a_p_loose_rings : PySem.W.nsIn K mainGlobals "loose_rings" = some (some (.ref f_p_loose_rings))) (l_p_loose_rings : K.lookup f_p_loose_rings = some ⟨oc_p_loose_rings, od_p_loose_rings, .func (PySem.W.fnOf "loose_rings" "loose_rings" (defArgs s_p_loose_rings) (defBody s_p_loose_rings) (defScope s_p_loose_rings) .none kV_p_loose_rings dc_p_loose_rings pm_p_loose_rings an_p_loose_rings cd_p_loose_rings ct_p_loose_rings), sl_p_loose_rings⟩) (c_p_loose_rings : PySem.W.codeIn K cd_p_loose_rings "loose_rings" = true) (k_p_loose_rings : PySem.W.keepIn K (.ref f_p_loose_rings) = true)
    (a_p_put_behind : PySem.W.nsIn K mainGlobals "put_behind" = some (some (.ref f_p_put_behind))) (l_p_put_behind : K.lookup f_p_put_behind = some ⟨oc_p_put_behind, od_p_put_behind, .func (PySem.W.fnOf "put_behind" "put_behind" (defArgs s_p_put_behind) (defBody s_p_put_behind) (defScope s_p_put_behind) .none kV_p_put_behind dc_p_put_behind pm_p_put_behind an_p_put_behind cd_p_put_behind ct_p_put_behind), sl_p_put_behind⟩) (c_p_put_behind : PySem.W.codeIn K cd_p_put_behind "put_behind" = true) (k_p_put_behind : PySem.W.keepIn K (.ref f_p_put_behind) = true)
    (a_p_chained : PySem.W.nsIn K mainGlobals "chained" = some (some (.ref f_p_chained))) (l_p_chained : K.lookup f_p_chained = some ⟨oc_p_chained, od_p_chained, .func (PySem.W.fnOf "chained" "chained" (defArgs s_p_chained) (defBody s_p_chained) (defScope s_p_chained) .none kV_p_chained dc_p_chained pm_p_chained an_p_chained cd_p_chained ct_p_chained), sl_p_chained⟩) (c_p_chained : PySem.W.codeIn K cd_p_chained "chained" = true) (k_p_chained : PySem.W.keepIn K (.ref f_p_chained) = true)
    (a_p_check_square : PySem.W.nsIn K mainGlobals "check_square" = some (some (.ref f_p_check_square))) (l_p_check_square : K.lookup f_p_check_square = some ⟨oc_p_check_square, od_p_check_square, .func (PySem.W.fnOf "check_square" "check_square" (defArgs s_p_check_square) (defBody s_p_check_square) (defScope s_p_check_square) .none kV_p_check_square dc_p_check_square pm_p_check_square an_p_check_square cd_p_check_square ct_p_check_square), sl_p_check_square⟩) (c_p_check_square : PySem.W.codeIn K cd_p_check_square "check_square" = true) (k_p_check_square : PySem.W.keepIn K (.ref f_p_check_square) = true)
    (a_p_round_of : PySem.W.nsIn K mainGlobals "round_of" = some (some (.ref f_p_round_of))) (l_p_round_of : K.lookup f_p_round_of = some ⟨oc_p_round_of, od_p_round_of, .func (PySem.W.fnOf "round_of" "round_of" (defArgs s_p_round_of) (defBody s_p_round_of) (defScope s_p_round_of) .none kV_p_round_of dc_p_round_of pm_p_round_of an_p_round_of cd_p_round_of ct_p_round_of), sl_p_round_of⟩) (c_p_round_of : PySem.W.codeIn K cd_p_round_of "round_of" = true) (k_p_round_of : PySem.W.keepIn K (.ref f_p_round_of) = true)
    (a_p_is_mat : PySem.W.nsIn K mainGlobals "is_mat" = some (some (.ref f_p_is_mat))) (l_p_is_mat : K.lookup f_p_is_mat = some ⟨oc_p_is_mat, od_p_is_mat, .func (PySem.W.fnOf "is_mat" "is_mat" (defArgs s_p_is_mat) (defBody s_p_is_mat) (defScope s_p_is_mat) .none kV_p_is_mat dc_p_is_mat pm_p_is_mat an_p_is_mat cd_p_is_mat ct_p_is_mat), sl_p_is_mat⟩) (c_p_is_mat : PySem.W.codeIn K cd_p_is_mat "is_mat" = true) (k_p_is_mat : PySem.W.keepIn K (.ref f_p_is_mat) = true)
    (a_p_checked_mat : PySem.W.nsIn K mainGlobals "checked_mat" = some (some (.ref f_p_checked_mat))) (l_p_checked_mat : K.lookup f_p_checked_mat = some ⟨oc_p_checked_mat, od_p_checked_mat, .func (PySem.W.fnOf "checked_mat" "checked_mat" (defArgs s_p_checked_mat) (defBody s_p_checked_mat) (defScope s_p_checked_mat) .none kV_p_checked_mat dc_p_checked_mat pm_p_checked_mat an_p_checked_mat cd_p_checked_mat ct_p_checked_mat), sl_p_checked_mat⟩) (c_p_checked_mat : PySem.W.codeIn K cd_p_checked_mat "checked_mat" = true) (k_p_checked_mat : PySem.W.keepIn K (.ref f_p_checked_mat) = true)
    (a_p_check_size : PySem.W.nsIn K mainGlobals "check_size" = some (some (.ref f_p_check_size))) (l_p_check_size : K.lookup f_p_check_size = some ⟨oc_p_check_size, od_p_check_size, .func (PySem.W.fnOf "check_size" "check_size" (defArgs s_p_check_size) (defBody s_p_check_size) (defScope s_p_check_size) .none kV_p_check_size dc_p_check_size pm_p_check_size an_p_check_size cd_p_check_size ct_p_check_size), sl_p_check_size⟩) (c_p_check_size : PySem.W.codeIn K cd_p_check_size "check_size" = true) (k_p_check_size : PySem.W.keepIn K (.ref f_p_check_size) = true)
    (a_p_straight : PySem.W.nsIn K mainGlobals "straight" = some (some (.ref f_p_straight))) (l_p_straight : K.lookup f_p_straight = some ⟨oc_p_straight, od_p_straight, .func (PySem.W.fnOf "straight" "straight" (defArgs s_p_straight) (defBody s_p_straight) (defScope s_p_straight) .none kV_p_straight dc_p_straight pm_p_straight an_p_straight cd_p_straight ct_p_straight), sl_p_straight⟩) (c_p_straight : PySem.W.codeIn K cd_p_straight "straight" = true) (k_p_straight : PySem.W.keepIn K (.ref f_p_straight) = true)
    (a_p_power : PySem.W.nsIn K mainGlobals "power" = some (some (.ref f_p_power))) (l_p_power : K.lookup f_p_power = some ⟨oc_p_power, od_p_power, .func (PySem.W.fnOf "power" "power" (defArgs s_p_power) (defBody s_p_power) (defScope s_p_power) .none kV_p_power dc_p_power pm_p_power an_p_power cd_p_power ct_p_power), sl_p_power⟩) (c_p_power : PySem.W.codeIn K cd_p_power "power" = true) (k_p_power : PySem.W.keepIn K (.ref f_p_power) = true)
    (a_p_rings_closed : PySem.W.nsIn K mainGlobals "rings_closed" = some (some (.ref f_p_rings_closed))) (l_p_rings_closed : K.lookup f_p_rings_closed = some ⟨oc_p_rings_closed, od_p_rings_closed, .func (PySem.W.fnOf "rings_closed" "rings_closed" (defArgs s_p_rings_closed) (defBody s_p_rings_closed) (defScope s_p_rings_closed) .none kV_p_rings_closed dc_p_rings_closed pm_p_rings_closed an_p_rings_closed cd_p_rings_closed ct_p_rings_closed), sl_p_rings_closed⟩) (c_p_rings_closed : PySem.W.codeIn K cd_p_rings_closed "rings_closed" = true) (k_p_rings_closed : PySem.W.keepIn K (.ref f_p_rings_closed) = true)
    (a_p_closed_power : PySem.W.nsIn K mainGlobals "closed_power" = some (some (.ref f_p_closed_power))) (l_p_closed_power : K.lookup f_p_closed_power = some ⟨oc_p_closed_power, od_p_closed_power, .func (PySem.W.fnOf "closed_power" "closed_power" (defArgs s_p_closed_power) (defBody s_p_closed_power) (defScope s_p_closed_power) .none kV_p_closed_power dc_p_closed_power pm_p_closed_power an_p_closed_power cd_p_closed_power ct_p_closed_power), sl_p_closed_power⟩) (c_p_closed_power : PySem.W.codeIn K cd_p_closed_power "closed_power" = true) (k_p_closed_power : PySem.W.keepIn K (.ref f_p_closed_power) = true)
    (a_p_check_pair : PySem.W.nsIn K mainGlobals "check_pair" = some (some (.ref f_p_check_pair))) (l_p_check_pair : K.lookup f_p_check_pair = some ⟨oc_p_check_pair, od_p_check_pair, .func (PySem.W.fnOf "check_pair" "check_pair" (defArgs s_p_check_pair) (defBody s_p_check_pair) (defScope s_p_check_pair) .none kV_p_check_pair dc_p_check_pair pm_p_check_pair an_p_check_pair cd_p_check_pair ct_p_check_pair), sl_p_check_pair⟩) (c_p_check_pair : PySem.W.codeIn K cd_p_check_pair "check_pair" = true) (k_p_check_pair : PySem.W.keepIn K (.ref f_p_check_pair) = true)
    (a_p_joined : PySem.W.nsIn K mainGlobals "joined" = some (some (.ref f_p_joined))) (l_p_joined : K.lookup f_p_joined = some ⟨oc_p_joined, od_p_joined, .func (PySem.W.fnOf "joined" "joined" (defArgs s_p_joined) (defBody s_p_joined) (defScope s_p_joined) .none kV_p_joined dc_p_joined pm_p_joined an_p_joined cd_p_joined ct_p_joined), sl_p_joined⟩) (c_p_joined : PySem.W.codeIn K cd_p_joined "joined" = true) (k_p_joined : PySem.W.keepIn K (.ref f_p_joined) = true)
    (a_right : PySem.W.nsIn K mainGlobals "_law_right" = some (some (.ref f_right))) (l_right : K.lookup f_right = some ⟨oc_right, od_right, .func (PySem.W.fnOf "_law_right" "_law_right" (defArgs s_right) (defBody s_right) (defScope s_right) .none kV_right dc_right pm_right an_right cd_right ct_right), sl_right⟩) (c_right : PySem.W.codeIn K cd_right "_law_right" = true) (k_right : PySem.W.keepIn K (.ref f_right) = true)
    (a_spring : PySem.W.nsIn K mainGlobals "_law_spring" = some (some (.ref f_spring))) (l_spring : K.lookup f_spring = some ⟨oc_spring, od_spring, .func (PySem.W.fnOf "_law_spring" "_law_spring" (defArgs s_spring) (defBody s_spring) (defScope s_spring) .none kV_spring dc_spring pm_spring an_spring cd_spring ct_spring), sl_spring⟩) (c_spring : PySem.W.codeIn K cd_spring "_law_spring" = true) (k_spring : PySem.W.keepIn K (.ref f_spring) = true)
    (a_law : PySem.W.nsIn K mainGlobals "law" = some (some (.ref f_law))) (l_law : K.lookup f_law = some ⟨oc_law, od_law, .func (PySem.W.fnOf "law" "law" (defArgs s_law) (defBody s_law) (defScope s_law) .none kV_law dc_law pm_law an_law cd_law ct_law), sl_law⟩) (c_law : PySem.W.codeIn K cd_law "law" = true) (k_law : PySem.W.keepIn K (.ref f_law) = true)
    (z_bool : PySem.W.nsIn K mainGlobals "bool" = some none)
    (z_enumerate : PySem.W.nsIn K mainGlobals "enumerate" = some none)
    (z_int : PySem.W.nsIn K mainGlobals "int" = some none)
    (z_isinstance : PySem.W.nsIn K mainGlobals "isinstance" = some none)
    (z_len : PySem.W.nsIn K mainGlobals "len" = some none)
    (z_list : PySem.W.nsIn K mainGlobals "list" = some none)
    (z_max : PySem.W.nsIn K mainGlobals "max" = some none)
    (z_min : PySem.W.nsIn K mainGlobals "min" = some none)
    (z_range : PySem.W.nsIn K mainGlobals "range" = some none)
    (z_set : PySem.W.nsIn K mainGlobals "set" = some none)
    (z_str : PySem.W.nsIn K mainGlobals "str" = some none)
    (z_tuple : PySem.W.nsIn K mainGlobals "tuple" = some none)
    : ∃ fd : FuncData, (∀ (s : Shared) (v : Value), BindsTo s fd ⟨[v], []⟩ [("_law_script", v)]) ∧ ∀ base : Heap, K.In base → base.Ns mainGlobals mg → FnOk l.prog w K mg base CX0 23 fa fd ["_law_script"] (spLaw K) := by
  have e := hfa.symm.trans (PySem.W.mg_of X G a_law)
  cases e
  have F_links := fun_mk (st := s_links) l_links c_links k_links
  have b_links := F_links.binds (ps := ["_law_mat_here", "_law_shift"]) fun _ _ _ _ _ _ us hl => match us, hl with | [_, _], _ => rfl
  have F_lots := fun_mk (st := s_lots) l_lots c_lots k_lots
  have b_lots := F_lots.binds (ps := ["_law_size", "_law_links_here"]) fun _ _ _ _ _ _ us hl => match us, hl with | [_, _], _ => rfl
  have F_behind := fun_mk (st := s_behind) l_behind c_behind k_behind
  have b_behind := F_behind.binds (ps := ["_law_one", "_law_other"]) fun _ _ _ _ _ _ us hl => match us, hl with | [_, _], _ => rfl
  have F_next := fun_mk (st := s_next) l_next c_next k_next
  have b_next := F_next.binds (ps := ["_law_spring_here", "_law_limit"]) fun _ _ _ _ _ _ us hl => match us, hl with | [_, _], _ => rfl
  have F_round := fun_mk (st := s_round) l_round c_round k_round
  have b_round := F_round.binds (ps := ["_law_n", "_law_m"]) fun _ _ _ _ _ _ us hl => match us, hl with | [_, _], _ => rfl
  have F_mat := fun_mk (st := s_mat) l_mat c_mat k_mat
  have b_mat := F_mat.binds (ps := ["_law_spring_here", "_law_n", "_law_m"]) fun _ _ _ _ _ _ us hl => match us, hl with | [_, _, _], _ => rfl
  have F_row_rings := fun_mk (st := s_row_rings) l_row_rings c_row_rings k_row_rings
  have b_row_rings := F_row_rings.binds (ps := ["_law_mats"]) fun _ _ _ _ _ _ us hl => match us, hl with | [_], _ => rfl
  have F_power_rings := fun_mk (st := s_power_rings) l_power_rings c_power_rings k_power_rings
  have b_power_rings := F_power_rings.binds (ps := ["_law_mat_here", "_law_times"]) fun _ _ _ _ _ _ us hl => match us, hl with | [_, _], _ => rfl
  have F_same := fun_mk (st := s_same) l_same c_same k_same
  have b_same := F_same.binds (ps := ["_law_found", "_law_due"]) fun _ _ _ _ _ _ us hl => match us, hl with | [_, _], _ => rfl
  have F_p_far_end := fun_mk (st := s_p_far_end) l_p_far_end c_p_far_end k_p_far_end
  have b_p_far_end := F_p_far_end.binds (ps := ["one", "other", "peg", "passed"]) fun _ _ _ _ _ _ us hl => match us, hl with | [_, _, _, _], _ => rfl
  have F_p_loose_rings := fun_mk (st := s_p_loose_rings) l_p_loose_rings c_p_loose_rings k_p_loose_rings
  have b_p_loose_rings := F_p_loose_rings.binds (ps := ["one", "other", "passed"]) fun _ _ _ _ _ _ us hl => match us, hl with | [_, _, _], _ => rfl
  have F_p_put_behind := fun_mk (st := s_p_put_behind) l_p_put_behind c_p_put_behind k_p_put_behind
  have b_p_put_behind := F_p_put_behind.binds (ps := ["one", "other"]) fun _ _ _ _ _ _ us hl => match us, hl with | [_, _], _ => rfl
  have F_p_chained := fun_mk (st := s_p_chained) l_p_chained c_p_chained k_p_chained
  have b_p_chained := F_p_chained.binds (ps := ["one", "other"]) fun _ _ _ _ _ _ us hl => match us, hl with | [_, _], _ => rfl
  have F_p_check_square := fun_mk (st := s_p_check_square) l_p_check_square c_p_check_square k_p_check_square
  have b_p_check_square := F_p_check_square.binds (ps := ["mat"]) fun _ _ _ _ _ _ us hl => match us, hl with | [_], _ => rfl
  have F_p_round_of := fun_mk (st := s_p_round_of) l_p_round_of c_p_round_of k_p_round_of
  have b_p_round_of := F_p_round_of.binds (ps := ["n", "m"]) fun _ _ _ _ _ _ us hl => match us, hl with | [_, _], _ => rfl
  have F_p_is_mat := fun_mk (st := s_p_is_mat) l_p_is_mat c_p_is_mat k_p_is_mat
  have b_p_is_mat := F_p_is_mat.binds (ps := ["told"]) fun _ _ _ _ _ _ us hl => match us, hl with | [_], _ => rfl
  have F_p_checked_mat := fun_mk (st := s_p_checked_mat) l_p_checked_mat c_p_checked_mat k_p_checked_mat
  have b_p_checked_mat := F_p_checked_mat.binds (ps := ["mat"]) fun _ _ _ _ _ _ us hl => match us, hl with | [_], _ => rfl
  have F_p_check_size := fun_mk (st := s_p_check_size) l_p_check_size c_p_check_size k_p_check_size
  have b_p_check_size := F_p_check_size.binds (ps := ["n"]) fun _ _ _ _ _ _ us hl => match us, hl with | [_], _ => rfl
  have F_p_straight := fun_mk (st := s_p_straight) l_p_straight c_p_straight k_p_straight
  have b_p_straight := F_p_straight.binds (ps := ["n"]) fun _ _ _ _ _ _ us hl => match us, hl with | [_], _ => rfl
  have F_p_power := fun_mk (st := s_p_power) l_p_power c_p_power k_p_power
  have b_p_power := F_p_power.binds (ps := ["mat", "times"]) fun _ _ _ _ _ _ us hl => match us, hl with | [_, _], _ => rfl
  have F_p_rings_closed := fun_mk (st := s_p_rings_closed) l_p_rings_closed c_p_rings_closed k_p_rings_closed
  have b_p_rings_closed := F_p_rings_closed.binds (ps := ["mat"]) fun _ _ _ _ _ _ us hl => match us, hl with | [_], _ => rfl
  have F_p_closed_power := fun_mk (st := s_p_closed_power) l_p_closed_power c_p_closed_power k_p_closed_power
  have b_p_closed_power := F_p_closed_power.binds (ps := ["mat", "times"]) fun _ _ _ _ _ _ us hl => match us, hl with | [_, _], _ => rfl
  have F_p_check_pair := fun_mk (st := s_p_check_pair) l_p_check_pair c_p_check_pair k_p_check_pair
  have b_p_check_pair := F_p_check_pair.binds (ps := ["above", "below"]) fun _ _ _ _ _ _ us hl => match us, hl with | [_, _], _ => rfl
  have F_p_joined := fun_mk (st := s_p_joined) l_p_joined c_p_joined k_p_joined
  have b_p_joined := F_p_joined.binds (ps := ["one", "other"]) fun _ _ _ _ _ _ us hl => match us, hl with | [_, _], _ => rfl
  have F_right := fun_mk (st := s_right) l_right c_right k_right
  have b_right := F_right.binds (ps := ["_law_spring_here"]) fun _ _ _ _ _ _ us hl => match us, hl with | [_], _ => rfl
  have F_spring := fun_mk (st := s_spring) l_spring c_spring k_spring
  have b_spring := F_spring.binds (ps := ["_law_script", "_law_place"]) fun _ _ _ _ _ _ us hl => match us, hl with | [_, _], _ => rfl
  have F_law := fun_mk (st := s_law) l_law c_law k_law
  have b_law := F_law.binds (ps := ["_law_script"]) fun _ _ _ _ _ _ us hl => match us, hl with | [_], _ => rfl
  have kb0_p_closed_power : KB K _ ["mat", "times"] 0 ["times", "mat"] [1, 0] := kb_of F_p_closed_power fun _ _ _ _ _ _ us ws h1 h2 => match us, ws, h1, h2 with | [], [_, _], _, _ => rfl
  have T : Tx K mg := ⟨_, _, F_links, b_links, PySem.W.mg_of X G a_links, _, _, F_lots, b_lots, PySem.W.mg_of X G a_lots, _, _, F_behind, b_behind, PySem.W.mg_of X G a_behind, _, _, F_next, b_next, PySem.W.mg_of X G a_next, _, _, F_round, b_round, PySem.W.mg_of X G a_round, _, _, F_mat, b_mat, PySem.W.mg_of X G a_mat, _, _, F_row_rings, b_row_rings, PySem.W.mg_of X G a_row_rings, _, _, F_power_rings, b_power_rings, PySem.W.mg_of X G a_power_rings, _, _, F_same, b_same, PySem.W.mg_of X G a_same, _, _, F_p_far_end, b_p_far_end, PySem.W.mg_of X G a_p_far_end, _, _, F_p_loose_rings, b_p_loose_rings, PySem.W.mg_of X G a_p_loose_rings, _, _, F_p_put_behind, b_p_put_behind, PySem.W.mg_of X G a_p_put_behind, _, _, F_p_chained, b_p_chained, PySem.W.mg_of X G a_p_chained, _, _, F_p_check_square, b_p_check_square, PySem.W.mg_of X G a_p_check_square, _, _, F_p_round_of, b_p_round_of, PySem.W.mg_of X G a_p_round_of, _, _, F_p_is_mat, b_p_is_mat, PySem.W.mg_of X G a_p_is_mat, _, _, F_p_checked_mat, b_p_checked_mat, PySem.W.mg_of X G a_p_checked_mat, _, _, F_p_check_size, b_p_check_size, PySem.W.mg_of X G a_p_check_size, _, _, F_p_straight, b_p_straight, PySem.W.mg_of X G a_p_straight, _, _, F_p_power, b_p_power, PySem.W.mg_of X G a_p_power, _, _, F_p_rings_closed, b_p_rings_closed, PySem.W.mg_of X G a_p_rings_closed, _, _, F_p_closed_power, b_p_closed_power, PySem.W.mg_of X G a_p_closed_power, _, _, F_p_check_pair, b_p_check_pair, PySem.W.mg_of X G a_p_check_pair, _, _, F_p_joined, b_p_joined, PySem.W.mg_of X G a_p_joined, _, _, F_right, b_right, PySem.W.mg_of X G a_right, _, _, F_spring, b_spring, PySem.W.mg_of X G a_spring, _, _, F_law, b_law, PySem.W.mg_of X G a_law, kb0_p_closed_power, PySem.W.mg_none_of X G z_bool, PySem.W.mg_none_of X G z_enumerate, PySem.W.mg_none_of X G z_int, PySem.W.mg_none_of X G z_isinstance, PySem.W.mg_none_of X G z_len, PySem.W.mg_none_of X G z_list, PySem.W.mg_none_of X G z_max, PySem.W.mg_none_of X G z_min, PySem.W.mg_none_of X G z_range, PySem.W.mg_none_of X G z_set, PySem.W.mg_none_of X G z_str, PySem.W.mg_none_of X G z_tuple⟩
  exact ⟨_, fun s v => .of_eq rfl, fun base _ _ => (ok_law (P := l.prog) (w := w) (base := base) ⟨_, _, F_links, b_links, PySem.W.mg_of X G a_links, _, _, F_lots, b_lots, PySem.W.mg_of X G a_lots, _, _, F_behind, b_behind, PySem.W.mg_of X G a_behind, _, _, F_next, b_next, PySem.W.mg_of X G a_next, _, _, F_round, b_round, PySem.W.mg_of X G a_round, _, _, F_mat, b_mat, PySem.W.mg_of X G a_mat, _, _, F_row_rings, b_row_rings, PySem.W.mg_of X G a_row_rings, _, _, F_power_rings, b_power_rings, PySem.W.mg_of X G a_power_rings, _, _, F_same, b_same, PySem.W.mg_of X G a_same, _, _, F_p_far_end, b_p_far_end, PySem.W.mg_of X G a_p_far_end, _, _, F_p_loose_rings, b_p_loose_rings, PySem.W.mg_of X G a_p_loose_rings, _, _, F_p_put_behind, b_p_put_behind, PySem.W.mg_of X G a_p_put_behind, _, _, F_p_chained, b_p_chained, PySem.W.mg_of X G a_p_chained, _, _, F_p_check_square, b_p_check_square, PySem.W.mg_of X G a_p_check_square, _, _, F_p_round_of, b_p_round_of, PySem.W.mg_of X G a_p_round_of, _, _, F_p_is_mat, b_p_is_mat, PySem.W.mg_of X G a_p_is_mat, _, _, F_p_checked_mat, b_p_checked_mat, PySem.W.mg_of X G a_p_checked_mat, _, _, F_p_check_size, b_p_check_size, PySem.W.mg_of X G a_p_check_size, _, _, F_p_straight, b_p_straight, PySem.W.mg_of X G a_p_straight, _, _, F_p_power, b_p_power, PySem.W.mg_of X G a_p_power, _, _, F_p_rings_closed, b_p_rings_closed, PySem.W.mg_of X G a_p_rings_closed, _, _, F_p_closed_power, b_p_closed_power, PySem.W.mg_of X G a_p_closed_power, _, _, F_p_check_pair, b_p_check_pair, PySem.W.mg_of X G a_p_check_pair, _, _, F_p_joined, b_p_joined, PySem.W.mg_of X G a_p_joined, _, _, F_right, b_right, PySem.W.mg_of X G a_right, _, _, F_spring, b_spring, PySem.W.mg_of X G a_spring, _, _, F_law, b_law, PySem.W.mg_of X G a_law, kb0_p_closed_power, PySem.W.mg_none_of X G z_bool, PySem.W.mg_none_of X G z_enumerate, PySem.W.mg_none_of X G z_int, PySem.W.mg_none_of X G z_isinstance, PySem.W.mg_none_of X G z_len, PySem.W.mg_none_of X G z_list, PySem.W.mg_none_of X G z_max, PySem.W.mg_none_of X G z_min, PySem.W.mg_none_of X G z_range, PySem.W.mg_none_of X G z_set, PySem.W.mg_none_of X G z_str, PySem.W.mg_none_of X G z_tuple⟩).imp fun vs H Q E q => law_sp rfl hlaw q⟩
end VS
open PySem PySem.W PyProof.Rows
set_option maxHeartbeats 0 in
theorem PySem.Challenge.cw_hookmats_k59_whole_closed_powers_holds : PySem.Challenge.rw_hookmats_k59_whole_closed_powers.Holds := by
  w_on; o_law; k_head; (case hw => w_witness2)
  k_fill
  refine L2.walk_of (l := PySem.Challenge.rw_hookmats_k59_whole_closed_powers) (n := 63) (k := 23) (x := "_law_script") (CX := fun _ => L2.CX0) (sp := fun w => VS.spLaw _) rfl (by decide) rfl ⟨rfl, by decide, by decide⟩ (fun w h Y => PySem.W.kIn_of Y) ?F (fun _ _ a ns hl _ hS => ⟨a, ns, rfl, hS, hl, fun _ => rfl⟩) (fun _ _ _ _ _ h => h)
  case F =>
    intro w mg fa h KX G hmg
    refine' VS.all_mk KX G hmg VS.law_holds ?a_links ?l_links ?c_links ?k_links ?a_lots ?l_lots ?c_lots ?k_lots ?a_behind ?l_behind ?c_behind ?k_behind ?a_next ?l_next ?c_next ?k_next ?a_round ?l_round ?c_round ?k_round ?a_mat ?l_mat ?c_mat ?k_mat ?a_row_rings ?l_row_rings ?c_row_rings ?k_row_rings ?a_power_rings ?l_power_rings ?c_power_rings ?k_power_rings ?a_same ?l_same ?c_same ?k_same ?a_p_far_end ?l_p_far_end ?c_p_far_end ?k_p_far_end ?a_p_loose_rings ?l_p_loose_rings ?c_p_loose_rings ?k_p_loose_rings ?a_p_put_behind ?l_p_put_behind ?c_p_put_behind ?k_p_put_behind ?a_p_chained ?l_p_chained ?c_p_chained ?k_p_chained ?a_p_check_square ?l_p_check_square ?c_p_check_square ?k_p_check_square ?a_p_round_of ?l_p_round_of ?c_p_round_of ?k_p_round_of ?a_p_is_mat ?l_p_is_mat ?c_p_is_mat ?k_p_is_mat ?a_p_checked_mat ?l_p_checked_mat ?c_p_checked_mat ?k_p_checked_mat ?a_p_check_size ?l_p_check_size ?c_p_check_size ?k_p_check_size ?a_p_straight ?l_p_straight ?c_p_straight ?k_p_straight ?a_p_power ?l_p_power ?c_p_power ?k_p_power ?a_p_rings_closed ?l_p_rings_closed ?c_p_rings_closed ?k_p_rings_closed ?a_p_closed_power ?l_p_closed_power ?c_p_closed_power ?k_p_closed_power ?a_p_check_pair ?l_p_check_pair ?c_p_check_pair ?k_p_check_pair ?a_p_joined ?l_p_joined ?c_p_joined ?k_p_joined ?a_right ?l_right ?c_right ?k_right ?a_spring ?l_spring ?c_spring ?k_spring ?a_law ?l_law ?c_law ?k_law ?z_bool ?z_enumerate ?z_int ?z_isinstance ?z_len ?z_list ?z_max ?z_min ?z_range ?z_set ?z_str ?z_tuple
    (case a_links => k_is); (case l_links => k_is); (case c_links => k_is); (case k_links => k_is); (case a_lots => k_is); (case l_lots => k_is); (case c_lots => k_is); (case k_lots => k_is); (case a_behind => k_is); (case l_behind => k_is); (case c_behind => k_is); (case k_behind => k_is); (case a_next => k_is); (case l_next => k_is); (case c_next => k_is); (case k_next => k_is); (case a_round => k_is); (case l_round => k_is); (case c_round => k_is); (case k_round => k_is); (case a_mat => k_is); (case l_mat => k_is); (case c_mat => k_is); (case k_mat => k_is); (case a_row_rings => k_is); (case l_row_rings => k_is); (case c_row_rings => k_is); (case k_row_rings => k_is); (case a_power_rings => k_is); (case l_power_rings => k_is); (case c_power_rings => k_is); (case k_power_rings => k_is); (case a_same => k_is); (case l_same => k_is); (case c_same => k_is); (case k_same => k_is); (case a_p_far_end => k_is); (case l_p_far_end => k_is); (case c_p_far_end => k_is); (case k_p_far_end => k_is); (case a_p_loose_rings => k_is); (case l_p_loose_rings => k_is); (case c_p_loose_rings => k_is); (case k_p_loose_rings => k_is); (case a_p_put_behind => k_is); (case l_p_put_behind => k_is); (case c_p_put_behind => k_is); (case k_p_put_behind => k_is); (case a_p_chained => k_is); (case l_p_chained => k_is); (case c_p_chained => k_is); (case k_p_chained => k_is); (case a_p_check_square => k_is); (case l_p_check_square => k_is); (case c_p_check_square => k_is); (case k_p_check_square => k_is); (case a_p_round_of => k_is); (case l_p_round_of => k_is); (case c_p_round_of => k_is); (case k_p_round_of => k_is); (case a_p_is_mat => k_is); (case l_p_is_mat => k_is); (case c_p_is_mat => k_is); (case k_p_is_mat => k_is); (case a_p_checked_mat => k_is); (case l_p_checked_mat => k_is); (case c_p_checked_mat => k_is); (case k_p_checked_mat => k_is); (case a_p_check_size => k_is); (case l_p_check_size => k_is); (case c_p_check_size => k_is); (case k_p_check_size => k_is); (case a_p_straight => k_is); (case l_p_straight => k_is); (case c_p_straight => k_is); (case k_p_straight => k_is); (case a_p_power => k_is); (case l_p_power => k_is); (case c_p_power => k_is); (case k_p_power => k_is); (case a_p_rings_closed => k_is); (case l_p_rings_closed => k_is); (case c_p_rings_closed => k_is); (case k_p_rings_closed => k_is); (case a_p_closed_power => k_is); (case l_p_closed_power => k_is); (case c_p_closed_power => k_is); (case k_p_closed_power => k_is); (case a_p_check_pair => k_is); (case l_p_check_pair => k_is); (case c_p_check_pair => k_is); (case k_p_check_pair => k_is); (case a_p_joined => k_is); (case l_p_joined => k_is); (case c_p_joined => k_is); (case k_p_joined => k_is); (case a_right => k_is); (case l_right => k_is); (case c_right => k_is); (case k_right => k_is); (case a_spring => k_is); (case l_spring => k_is); (case c_spring => k_is); (case k_spring => k_is); (case a_law => k_is); (case l_law => k_is); (case c_law => k_is); (case k_law => k_is); (case z_bool => k_is); (case z_enumerate => k_is); (case z_int => k_is); (case z_isinstance => k_is); (case z_len => k_is); (case z_list => k_is); (case z_max => k_is); (case z_min => k_is); (case z_range => k_is); (case z_set => k_is); (case z_str => k_is); (case z_tuple => k_is)
