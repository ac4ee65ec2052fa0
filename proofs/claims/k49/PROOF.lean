import PyProof.Rows.All
import Wide.All
import OpenK.AllK
import Wide.FinOn
import HandS.ForMost
import HandS.Wide
import HandS.ExcInit
import HandS.ExcCtx
import HandS.TryOnly
import HandS.WordsExc
import HandS.IsInst
import HandS.Walk
import HandS.Zip
import HandS.Rev
import HandS.RevRange
import KE.GoesEnum
import HandS.Words
import HandS.Defaults
import OpenK.KMore
import HandS.TupAny
import HandS.TupMul
import HandS.Style
import HandS.Conv
import HandS.More
import HandS.Deep
import HandS.SortInts
import KE.KMathGC
import HandS.Gcd
import HandS.SetFor
import HandS.Flow
import KE.SortData
import HandS.Star
import KE.DataAny
import HandS.Call
import HandS.CallSlots
import HandS.ExcOwn
import HandS.ExcField
import HandS.ExcIs
import KE.KExcIs
import HandS.Hot
import HandS.Sort
import HandS.Dict
import HandS.NoneIn
import KE.KUnpackStar
import HandS.WideBits
import PyProof.Rows.SetFrom
import PyProof.SetRoads
import KE.DataCmp
import PySem.Challenge.RW_hookmats_k49_whole_pairing_tables
set_option Elab.async false
set_option linter.all false
namespace VS
/-! ### strings that do not cross, on a list: neighbours that are mates taken out, again and again -/
inductive NC {α : Type} (f : α → α) : List α → Prop
  | nil : NC f []
  | cons {l r : List α} {a b : α} : f a = b → f b = a → NC f (l ++ r) → NC f (l ++ a :: b :: r)
theorem NC.wrap {α : Type} {f : α → α} {x b : α} {r : List α} (h : NC f r) (h1 : f x = b) (h2 : f b = x) : NC f (b :: (r ++ [x])) := by
  induction h with
  | nil => exact NC.cons (l := []) (r := []) h2 h1 .nil
  | @cons l r a c e1 e2 _ ih =>
    have := NC.cons (l := b :: l) (r := r ++ [x]) e1 e2 (by simpa using ih)
    simpa using this
theorem NC.rot1 {α : Type} {f : α → α} {x : α} {R : List α} (h : NC f (x :: R)) : NC f (R ++ [x]) := by
  generalize e : x :: R = L at h
  induction h generalizing R with
  | nil => cases e
  | @cons l r a c e1 e2 hh ih =>
    cases l with
    | nil =>
      simp only [List.nil_append, List.cons.injEq] at e
      obtain ⟨rfl, rfl⟩ := e
      simpa using hh.wrap e1 e2
    | cons y l =>
      simp only [List.cons_append, List.cons.injEq] at e
      obtain ⟨rfl, rfl⟩ := e
      have := NC.cons (l := l) (r := r ++ [x]) e1 e2 (by simpa using ih (R := l ++ r) rfl)
      simpa using this
theorem NC.rot {α : Type} {f : α → α} : ∀ {l r : List α}, NC f (l ++ r) → NC f (r ++ l)
  | [], r, h => by simpa using h
  | x :: l, r, h => by
    have h1 : NC f (l ++ (r ++ [x])) := by simpa using NC.rot1 (R := l ++ r) (by simpa using h)
    simpa using NC.rot (l := l) (r := r ++ [x]) h1
theorem NC.reverse {α : Type} {f : α → α} {R : List α} (h : NC f R) : NC f R.reverse := by
  induction h with
  | nil => exact .nil
  | @cons l r a b e1 e2 _ ih =>
    have := NC.cons (l := r.reverse) (r := l.reverse) e2 e1 (by simpa using ih)
    simpa using this
theorem NC.map {α β : Type} {f : α → α} {g : β → β} {R : List α} (φ : α → β) (h : NC f R) (hφ : ∀ x ∈ R, g (φ x) = φ (f x)) : NC g (R.map φ) := by
  induction h with
  | nil => exact .nil
  | @cons l r a b e1 e2 _ ih =>
    rw [List.map_append, List.map_cons, List.map_cons]
    refine .cons ?_ ?_ ?_
    · rw [hφ a (by simp), e1]
    · rw [hφ b (by simp), e2]
    · rw [← List.map_append]
      exact ih fun x hx => hφ x (by rcases List.mem_append.mp hx with h | h <;> simp [h])
theorem NC.congr {α : Type} {f g : α → α} {R : List α} (h : NC f R) (hfg : ∀ x ∈ R, g x = f x) : NC g R := by
  have := NC.map (g := g) id h hfg
  simpa using this
/-- the pairs of a list whose neighbours are joined, again and again, round about -/
inductive NCP {α : Type} : List α → List (α × α) → Prop
  | nil : NCP [] []
  | cons {l r : List α} {a b : α} {ps : List (α × α)} : NCP (l ++ r) ps → NCP (l ++ a :: b :: r) ((a, b) :: ps)
  | conr {l r : List α} {a b : α} {ps : List (α × α)} : NCP (l ++ r) ps → NCP (l ++ b :: a :: r) ((a, b) :: ps)
  | rot {l r : List α} {ps : List (α × α)} : NCP (l ++ r) ps → NCP (r ++ l) ps
  | perm {R : List α} {ps qs : List (α × α)} : NCP R ps → ps.Perm qs → NCP R qs
def ends {α : Type} (ps : List (α × α)) : List α := ps.flatMap fun p => [p.1, p.2]
theorem NCP.ends {α : Type} {R : List α} {ps : List (α × α)} (h : NCP R ps) : (ends ps).Perm R := by
  induction h with
  | nil => exact .refl _
  | @cons l r a b ps _ ih =>
    show (a :: b :: VS.ends ps).Perm _
    refine ((ih.cons b).cons a).trans ?_
    exact (List.perm_middle (a := a) (l₁ := l) (l₂ := b :: r)).trans ((List.perm_middle (a := b) (l₁ := l) (l₂ := r)).cons a) |>.symm
  | @conr l r a b ps _ ih =>
    show (a :: b :: VS.ends ps).Perm _
    refine ((ih.cons b).cons a).trans ?_
    refine (List.Perm.swap b a _).trans ?_
    exact (List.perm_middle (a := b) (l₁ := l) (l₂ := a :: r)).trans ((List.perm_middle (a := a) (l₁ := l) (l₂ := r)).cons b) |>.symm
  | rot _ ih => exact ih.trans List.perm_append_comm
  | perm _ hp ih => exact (hp.symm.flatMap_right _).trans ih
theorem NCP.nc {α : Type} {f : α → α} {R : List α} {ps : List (α × α)} (h : NCP R ps) (hf : ∀ p ∈ ps, f p.1 = p.2 ∧ f p.2 = p.1) : NC f R := by
  induction h with
  | nil => exact .nil
  | @cons l r a b ps _ ih => exact .cons (hf (a, b) (by simp)).1 (hf (a, b) (by simp)).2 (ih fun p hp => hf p (by simp [hp]))
  | @conr l r a b ps _ ih => exact .cons (hf (a, b) (by simp)).2 (hf (a, b) (by simp)).1 (ih fun p hp => hf p (by simp [hp]))
  | rot _ ih => exact (ih hf).rot
  | perm _ hp ih => exact ih fun p h => hf p (hp.mem_iff.mp h)
theorem NCP.map {α β : Type} {R : List α} {ps : List (α × α)} (φ : α → β) (h : NCP R ps) : NCP (R.map φ) (ps.map fun p => (φ p.1, φ p.2)) := by
  induction h with
  | nil => exact .nil
  | @cons l r a b ps _ ih => rw [List.map_append] at ih ⊢; exact .cons ih
  | @conr l r a b ps _ ih => rw [List.map_append] at ih ⊢; exact .conr ih
  | rot _ ih => rw [List.map_append] at ih ⊢; exact .rot ih
  | perm _ hp ih => exact .perm ih (hp.map _)
theorem NCP.reverse {α : Type} {R : List α} {ps : List (α × α)} (h : NCP R ps) : NCP R.reverse ps := by
  induction h with
  | nil => exact .nil
  | @cons l r a b ps _ ih =>
    have := NCP.conr (l := r.reverse) (r := l.reverse) (a := a) (b := b) (by simpa using ih)
    simpa using this
  | @conr l r a b ps _ ih =>
    have := NCP.cons (l := r.reverse) (r := l.reverse) (a := a) (b := b) (by simpa using ih)
    simpa using this
  | rot _ ih => rw [List.reverse_append] at ih ⊢; exact .rot ih
  | perm _ hp ih => exact .perm ih hp
/-- all within one another -/
theorem NCP.wrap {α : Type} {R : List α} {ps : List (α × α)} {a b : α} (h : NCP R ps) : NCP (a :: R ++ [b]) ((a, b) :: ps) := by
  have h1 : NCP (R ++ b :: a :: []) ((a, b) :: ps) := NCP.conr (l := R) (r := []) (by simpa using h)
  have h2 := NCP.rot (l := R ++ [b]) (r := [a]) (by simpa using h1)
  simpa using h2
/-! the stack (its top is the head) -/
def push {α : Type} [DecidableEq α] (f : α → α) (s : List α) (x : α) : List α := match s with
  | [] => [x]
  | t :: s => if t = f x then s else x :: t :: s
def red {α : Type} [DecidableEq α] (f : α → α) (s : List α) (R : List α) : List α := R.foldl (push f) s
theorem red_cons {α : Type} [DecidableEq α] (f : α → α) (s : List α) (x : α) (r : List α) : red f s (x :: r) = red f (push f s x) r := rfl
theorem red_append {α : Type} [DecidableEq α] (f : α → α) (s l r : List α) : red f s (l ++ r) = red f (red f s l) r := List.foldl_append
theorem push_cons {α : Type} [DecidableEq α] (f : α → α) (t : α) (s : List α) (x : α) : push f (t :: s) x = if t = f x then s else x :: t :: s := rfl
theorem push_mem {α : Type} [DecidableEq α] {f : α → α} {s : List α} {x y : α} (h : y ∈ push f s x) : y ∈ s ∨ y = x := by
  cases s with
  | nil => exact .inr (by simpa [push] using h)
  | cons t s =>
    rw [push_cons] at h
    split at h
    · exact .inl (by simp [h])
    · rcases List.mem_cons.mp h with rfl | h
      · exact .inr rfl
      · exact .inl h
theorem red_mem {α : Type} [DecidableEq α] {f : α → α} : ∀ {s l : List α} {y : α}, y ∈ red f s l → y ∈ s ∨ y ∈ l
  | s, [], y, h => .inl h
  | s, x :: l, y, h => by
    rw [red_cons] at h
    rcases red_mem h with h | h
    · rcases push_mem h with h | h
      · exact .inl h
      · exact .inr (by simp [h])
    · exact .inr (by simp [h])
theorem NC.red {α : Type} [DecidableEq α] {f : α → α} {R : List α} (h : NC f R) (hn : R.Nodup) : VS.red f [] R = [] := by
  induction h with
  | nil => rfl
  | @cons l r a b e1 e2 _ ih =>
    have hp : (l ++ a :: b :: r).Perm (a :: b :: (l ++ r)) := (List.perm_middle (a := a) (l₁ := l) (l₂ := b :: r)).trans ((List.perm_middle (a := b) (l₁ := l) (l₂ := r)).cons a)
    have hn2 := hp.nodup_iff.mp hn
    simp only [List.nodup_cons, List.mem_cons, not_or] at hn2
    obtain ⟨⟨hab, ha⟩, hb, hlr⟩ := hn2
    have hbl : b ∉ l := fun h => hb (by simp [h])
    rw [red_append, red_cons, red_cons]
    have h1 : push f (VS.red f [] l) a = a :: VS.red f [] l := by
      cases hs : VS.red f [] l with
      | nil => rfl
      | cons t s =>
        have ht : t ∈ l := by
          have : t ∈ VS.red f [] l := by rw [hs]; simp
          rcases red_mem this with h | h
          · cases h
          · exact h
        rw [push_cons, e1, if_neg]
        intro e
        subst e
        exact hbl ht
    have h2 : push f (a :: VS.red f [] l) b = VS.red f [] l := by
      rw [push_cons, if_pos e2.symm]
    rw [h1, h2, ← red_append]
    exact ih hlr
end VS
set_option Elab.async false
set_option linter.all false
namespace VS
/-! ### mats as rows of mates, and as strings that join spots -/
def ring (u d : Nat) : List (Nat × Nat) := (List.range u).map (fun i => (0, i)) ++ (List.range d).reverse.map (fun i => (1, i))
def idx (u : Nat) (s : Nat × Nat) : Nat := s.1 * u + s.2
def roundL (n m : Nat) : List Nat := List.range n ++ (List.range m).reverse.map (n + ·)
theorem ring_idx (u d : Nat) : (ring u d).map (idx u) = roundL u d := by
  unfold ring roundL
  rw [List.map_append, List.map_map, List.map_map]
  congr 1
  · conv => rhs; rw [← List.map_id (List.range u)]
    apply List.map_congr_left
    intro i _
    simp [idx]
  · apply List.map_congr_left
    intro i _
    simp [idx]
theorem roundL_perm (n m : Nat) : (roundL n m).Perm (List.range (n + m)) := by
  unfold roundL
  rw [List.range_add]
  exact List.Perm.append_left _ ((List.reverse_perm _).map _)
theorem roundL_nodup (n m : Nat) : (roundL n m).Nodup := (roundL_perm n m).nodup_iff.mpr List.nodup_range
theorem mem_roundL {n m i : Nat} : i ∈ roundL n m ↔ i < n + m := by rw [(roundL_perm n m).mem_iff, List.mem_range]
theorem ring_len (u d : Nat) : (ring u d).length = u + d := by simp [ring]
theorem nodup_of_map {α β : Type} {f : α → β} {xs : List α} (h : (xs.map f).Nodup) : xs.Nodup := by
  induction xs with
  | nil => simp
  | cons x xs ih =>
    simp only [List.map_cons, List.nodup_cons] at h ⊢
    exact ⟨fun hx => h.1 (List.mem_map_of_mem hx), ih h.2⟩
theorem map_inj {α β : Type} {f : α → β} {xs : List α} (h : (xs.map f).Nodup) {a b : α} (ha : a ∈ xs) (hb : b ∈ xs) (e : f a = f b) : a = b := by
  induction xs with
  | nil => cases ha
  | cons x xs ih =>
    simp only [List.map_cons, List.nodup_cons] at h
    rcases List.mem_cons.mp ha with h1 | h1 <;> rcases List.mem_cons.mp hb with h2 | h2
    · rw [h1, h2]
    · subst h1; exact absurd (e ▸ List.mem_map_of_mem h2) h.1
    · subst h2; exact absurd (e ▸ List.mem_map_of_mem h1) h.1
    · exact ih h.2 h1 h2
theorem ring_map_nodup (u d : Nat) : ((ring u d).map (idx u)).Nodup := by rw [ring_idx]; exact roundL_nodup u d
theorem ring_nodup (u d : Nat) : (ring u d).Nodup := nodup_of_map (ring_map_nodup u d)
theorem idx_lt {u d : Nat} {s : Nat × Nat} (h : s ∈ ring u d) : idx u s < u + d := mem_roundL.mp (by rw [← ring_idx]; exact List.mem_map_of_mem h)
theorem idx_of {u d i : Nat} (h : i < u + d) : ∃ s ∈ ring u d, idx u s = i := by
  have : i ∈ (ring u d).map (idx u) := by rw [ring_idx]; exact mem_roundL.mpr h
  obtain ⟨s, h1, h2⟩ := List.mem_map.mp this
  exact ⟨s, h1, h2⟩
theorem mem_ends {α : Type} {ps : List (α × α)} {a : α} : a ∈ ends ps ↔ ∃ p ∈ ps, a = p.1 ∨ a = p.2 := by
  unfold ends
  simp [List.mem_flatMap]
theorem ends_ne {α : Type} : ∀ {ps : List (α × α)}, (ends ps).Nodup → ∀ p ∈ ps, p.1 ≠ p.2
  | q :: ps, h, p, hp => by
    have h : (q.1 :: q.2 :: ends ps).Nodup := h
    simp only [List.nodup_cons, List.mem_cons, not_or] at h
    rcases List.mem_cons.mp hp with rfl | hp
    · exact h.1.1
    · exact ends_ne h.2.2 p hp
structure Row (u d : Nat) (ps : List ((Nat × Nat) × (Nat × Nat))) (row : List Nat) : Prop where
  len : row.length = u + d
  at_ : ∀ p ∈ ps, row[idx u p.1]? = some (idx u p.2) ∧ row[idx u p.2]? = some (idx u p.1)
structure IsMat (n m : Nat) (row : List Nat) : Prop where
  pos : 0 < n + m
  len : row.length = n + m
  lt : ∀ i j, row[i]? = some j → j < n + m ∧ j ≠ i ∧ row[j]? = some i
  nc : NC (fun i => row.getD i 0) (roundL n m)
theorem Row.get {u d : Nat} {ps : List ((Nat × Nat) × (Nat × Nat))} {row : List Nat} (h : Row u d ps row) (hp : (ends ps).Perm (ring u d)) {i : Nat} (hi : i < u + d) :
    ∃ a b : Nat × Nat, ((a, b) ∈ ps ∨ (b, a) ∈ ps) ∧ idx u a = i ∧ row[i]? = some (idx u b) ∧ row[idx u b]? = some i := by
  obtain ⟨s, hs, rfl⟩ := idx_of hi
  obtain ⟨p, hp1, e⟩ := mem_ends.mp (hp.mem_iff.mpr hs)
  obtain ⟨h1, h2⟩ := h.at_ p hp1
  rcases e with rfl | rfl
  · exact ⟨p.1, p.2, .inl hp1, rfl, h1, h2⟩
  · exact ⟨p.2, p.1, .inr hp1, rfl, h2, h1⟩
theorem Row.mat {u d : Nat} {ps : List ((Nat × Nat) × (Nat × Nat))} {row : List Nat} (h : Row u d ps row) (hc : NCP (ring u d) ps) (h0 : 0 < u + d) : IsMat u d row := by
  have hp := hc.ends
  have hn := hp.nodup_iff.mpr (ring_nodup u d)
  refine ⟨h0, h.len, fun i j e => ?_, ?_⟩
  · have hi : i < u + d := by have := (List.getElem?_eq_some_iff.mp e).1; have := h.len; omega
    obtain ⟨a, b, hm, rfl, e1, e2⟩ := h.get hp hi
    rw [e] at e1
    cases e1
    have ha : a ∈ ring u d := hp.mem_iff.mp (mem_ends.mpr (by rcases hm with h | h; exact ⟨_, h, .inl rfl⟩; exact ⟨_, h, .inr rfl⟩))
    have hb : b ∈ ring u d := hp.mem_iff.mp (mem_ends.mpr (by rcases hm with h | h; exact ⟨_, h, .inr rfl⟩; exact ⟨_, h, .inl rfl⟩))
    refine ⟨idx_lt hb, fun e => ?_, e2⟩
    have := map_inj (ring_map_nodup u d) hb ha e
    subst this
    rcases hm with h | h <;> exact ends_ne hn _ h rfl
  · rw [← ring_idx]
    refine NCP.nc (hc.map (idx u)) fun q hq => ?_
    obtain ⟨p, hp1, rfl⟩ := List.mem_map.mp hq
    obtain ⟨h1, h2⟩ := h.at_ p hp1
    simp only [List.getD_eq_getElem?_getD, h1, h2]
    exact ⟨rfl, rfl⟩
/-- the strings, written into a row -/
def madeL (u : Nat) (ps : List ((Nat × Nat) × (Nat × Nat))) (row : List Nat) : List Nat := ps.foldl (fun row p => (row.set (idx u p.1) (idx u p.2)).set (idx u p.2) (idx u p.1)) row
/-- a row whose pegs are placed anew -/
theorem Row.remade {u d u' d' : Nat} {ps : List ((Nat × Nat) × (Nat × Nat))} {row new : List Nat} {place : Nat → Nat} {φ : Nat × Nat → Nat × Nat} (h : Row u d ps row) (hc : (ends ps).Perm (ring u d)) (hl : new.length = u' + d')
    (hn : ∀ i j, row[i]? = some j → new[place i]? = some (place j)) (hφ : ∀ s ∈ ring u d, place (idx u s) = idx u' (φ s)) : Row u' d' (ps.map fun p => (φ p.1, φ p.2)) new := by
  refine ⟨hl, fun q hq => ?_⟩
  obtain ⟨p, hp, rfl⟩ := List.mem_map.mp hq
  obtain ⟨h1, h2⟩ := h.at_ p hp
  have m1 := hφ p.1 (hc.mem_iff.mp (mem_ends.mpr ⟨p, hp, .inl rfl⟩))
  have m2 := hφ p.2 (hc.mem_iff.mp (mem_ends.mpr ⟨p, hp, .inr rfl⟩))
  have n1 := hn _ _ h1
  have n2 := hn _ _ h2
  rw [m1, m2] at n1 n2
  exact ⟨n1, n2⟩
def flipS (s : Nat × Nat) : Nat × Nat := (1 - s.1, s.2)
def sideS (u d : Nat) (s : Nat × Nat) : Nat × Nat := (s.1, (if s.1 = 0 then u else d) - 1 - s.2)
theorem range_rev (n : Nat) : (List.range n).map (fun i => n - 1 - i) = (List.range n).reverse := by
  apply List.ext_getElem
  · simp
  · intro i h1 h2
    simp at h1
    simp
theorem ring_side (u d : Nat) : ∃ l r : List (Nat × Nat), (ring u d).map (sideS u d) = r ++ l ∧ (ring u d).reverse = l ++ r := by
  refine ⟨(List.range d).map (fun i => (1, i)), (List.range u).reverse.map (fun i => (0, i)), ?_, ?_⟩
  · unfold ring
    rw [List.map_append, List.map_map, List.map_map]
    congr 1
    · rw [← range_rev u, List.map_map]
      rfl
    · have : (List.range d) = ((List.range d).reverse.map (fun i => d - 1 - i)) := by
        rw [List.map_reverse, range_rev, List.reverse_reverse]
      conv => rhs; rw [this]
      rw [List.map_map]
      rfl
  · unfold ring
    rw [List.reverse_append, ← List.map_reverse, List.reverse_reverse, ← List.map_reverse]
theorem NCP.side {u d : Nat} {ps : List ((Nat × Nat) × (Nat × Nat))} (h : NCP (ring u d) ps) : NCP (ring u d) (ps.map fun p => (sideS u d p.1, sideS u d p.2)) := by
  obtain ⟨l, r, e1, e2⟩ := ring_side u d
  have := h.map (sideS u d)
  rw [e1] at this
  have := this.rot.reverse
  rwa [← e2, List.reverse_reverse] at this
/-! the strings of a mat by draws -/
end VS
set_option Elab.async false
set_option linter.all false
namespace VS
/-! ### round about: places on the ring -/
def ringAt (u d p : Nat) : Nat × Nat := if p < u then (0, p) else (1, u + d - 1 - p)
def posOf (u d : Nat) (s : Nat × Nat) : Nat := if s.1 = 0 then s.2 else u + d - 1 - s.2
theorem ring_get {u d p : Nat} (h : p < u + d) : (ring u d)[p]? = some (ringAt u d p) := by
  unfold ring ringAt
  by_cases hp : p < u
  · rw [List.getElem?_append_left (by simpa using hp), if_pos hp]
    simp [hp]
  · rw [List.getElem?_append_right (by simp; omega), if_neg hp]
    simp only [List.length_map, List.length_range, List.getElem?_map]
    rw [List.getElem?_reverse (by simp; omega)]
    rw [List.getElem?_range (by simp; omega)]
    simp
    omega
/-- one back, round about -/
def prevP (n p : Nat) : Nat := if p = 0 then n - 1 else p - 1
def prevS (u d : Nat) (s : Nat × Nat) : Nat × Nat := ringAt u d (prevP (u + d) (posOf u d s))
/-- k back -/
def backP (n k p : Nat) : Nat := if k ≤ p then p - k else p + n - k
def backS (u d k : Nat) (s : Nat × Nat) : Nat × Nat := ringAt u d (backP (u + d) k (posOf u d s))
end VS
set_option Elab.async false
set_option linter.all false
namespace VS
/-! ### strings by their places round about -/
def roundAt (n N p : Nat) : Nat := if p < n then p else n + (N - 1 - p)
theorem idx_ringAt {n m p : Nat} (h : p < n + m) : idx n (ringAt n m p) = roundAt n (n + m) p := by
  unfold ringAt roundAt
  split
  · simp [idx]
  · simp [idx]
theorem ring_range (n m : Nat) : ring n m = (List.range (n + m)).map (ringAt n m) := by
  apply List.ext_getElem?
  intro p
  by_cases hp : p < n + m
  · rw [ring_get hp, List.getElem?_map, List.getElem?_range hp]; rfl
  · rw [List.getElem?_eq_none (by rw [ring_len]; omega), List.getElem?_eq_none (by simp; omega)]
abbrev Prs := List (Nat × Nat)
def spotP (n m : Nat) (qs : Prs) : List ((Nat × Nat) × (Nat × Nat)) := qs.map fun q => (ringAt n m q.1, ringAt n m q.2)
theorem NCP.spot {n m : Nat} {qs : Prs} (h : NCP (List.range (n + m)) qs) : NCP (ring n m) (spotP n m qs) := by
  rw [ring_range]; exact h.map (ringAt n m)
theorem pr_lt {N : Nat} {qs : Prs} (h : (ends qs).Perm (List.range N)) {q : Nat × Nat} (hq : q ∈ qs) : q.1 < N ∧ q.2 < N :=
  ⟨List.mem_range.mp (h.mem_iff.mp (mem_ends.mpr ⟨q, hq, .inl rfl⟩)), List.mem_range.mp (h.mem_iff.mp (mem_ends.mpr ⟨q, hq, .inr rfl⟩))⟩
/-- a row by places -/
theorem spot_row {n m : Nat} {qs : Prs} {row : List Nat} (h : (ends qs).Perm (List.range (n + m))) (hl : row.length = n + m)
    (ha : ∀ q ∈ qs, row[roundAt n (n + m) q.1]? = some (roundAt n (n + m) q.2) ∧ row[roundAt n (n + m) q.2]? = some (roundAt n (n + m) q.1)) : Row n m (spotP n m qs) row := by
  refine ⟨hl, fun p hp => ?_⟩
  obtain ⟨q, hq, rfl⟩ := List.mem_map.mp hp
  obtain ⟨l1, l2⟩ := pr_lt h hq
  simp only
  rw [idx_ringAt l1, idx_ringAt l2]
  exact ha q hq
/-- the mates of the places -/
structure Pls (N : Nat) (qs : Prs) (pl : List Nat) : Prop where
  len : pl.length = N
  at_ : ∀ q ∈ qs, pl[q.1]? = some q.2 ∧ pl[q.2]? = some q.1
theorem Pls.get {N : Nat} {qs : Prs} {pl : List Nat} (h : Pls N qs pl) (hp : (ends qs).Perm (List.range N)) {i : Nat} (hi : i < N) :
    ∃ j, pl[i]? = some j ∧ j < N ∧ ((i, j) ∈ qs ∨ (j, i) ∈ qs) := by
  obtain ⟨q, hq, e⟩ := mem_ends.mp (hp.mem_iff.mpr (List.mem_range.mpr hi))
  obtain ⟨l1, l2⟩ := pr_lt hp hq
  obtain ⟨h1, h2⟩ := h.at_ q hq
  rcases e with rfl | rfl
  · exact ⟨q.2, h1, l2, .inl hq⟩
  · exact ⟨q.1, h2, l1, .inr hq⟩
/-- a row of mates in the places' order -/
theorem Pls.row {n m : Nat} {qs : Prs} {pl row : List Nat} (h : Pls (n + m) qs pl) (hp : (ends qs).Perm (List.range (n + m))) (hl : row.length = n + m)
    (hr : ∀ p j : Nat, pl[p]? = some j → row[roundAt n (n + m) p]? = some (roundAt n (n + m) j)) : Row n m (spotP n m qs) row :=
  spot_row hp hl fun q hq => ⟨hr _ _ (h.at_ q hq).1, hr _ _ (h.at_ q hq).2⟩
/-- the places of bent -/
def benL (n m k : Nat) : List Nat := List.range n ++ ((List.range (m - k)).map fun i => n + k + i) ++ ((List.range k).map fun i => n + m - 1 - (m - k + i))
/-! ### round about each peg opens a string or ends the one opened last -/
structure Open (N i : Nat) (S : List Nat) (qs : Prs) : Prop where
  few : S.length ≤ N - i
  even : 2 ∣ N - i - S.length
  perm : (S ++ ends qs).Perm (List.range i)
  nc : ∀ (rest : List Nat) (ps : Prs), NCP (S ++ rest) ps → NCP (List.range i ++ rest) (qs ++ ps)
theorem Open.start {N : Nat} (h : 2 ∣ N) : Open N 0 [] [] := ⟨by simp, by simpa using h, by simp [ends], fun rest ps h => by simpa using h⟩
theorem Open.push {N i : Nat} {S : List Nat} {qs : Prs} (h : Open N i S qs) (hi : i < N) (hs : S = [] ∨ S.length < N - i) : Open N (i + 1) (S ++ [i]) qs := by
  have f := h.few
  have e := h.even
  have hl : S.length + 2 ≤ N - i := by
    rcases hs with rfl | hs
    · simp at e; simp; omega
    · omega
  refine ⟨by simp; omega, by simp; omega, ?_, fun rest ps hn => ?_⟩
  · rw [List.range_succ]
    refine List.Perm.trans ?_ (h.perm.append_right [i])
    rw [List.append_assoc, List.append_assoc]
    exact List.Perm.append_left _ List.perm_append_comm
  · rw [List.range_succ, List.append_assoc]
    exact h.nc _ _ (by simpa using hn)
theorem Open.pop {N i t : Nat} {S : List Nat} {qs : Prs} (h : Open N i (S ++ [t]) qs) (hi : i < N) : Open N (i + 1) S (qs ++ [(t, i)]) := by
  have f := h.few
  have e := h.even
  simp at f e
  refine ⟨by omega, by omega, ?_, fun rest ps hn => ?_⟩
  · rw [List.range_succ]
    refine List.Perm.trans ?_ (h.perm.append_right [i])
    have : ends (qs ++ [(t, i)]) = ends qs ++ [t, i] := by simp [ends]
    rw [this, List.append_assoc, List.append_assoc]
    refine List.Perm.append_left _ ?_
    have : ends qs ++ [t, i] = (ends qs ++ [t]) ++ [i] := by simp
    rw [this, ← List.append_assoc]
    exact List.perm_append_comm.append_right _
  · have := h.nc (i :: rest) ((t, i) :: ps) (by
      have := NCP.cons (l := S) (r := rest) (a := t) (b := i) hn
      simpa using this)
    rw [List.range_succ]
    simpa using this
theorem Open.lt {N i : Nat} {S : List Nat} {qs : Prs} (h : Open N i S qs) {x : Nat} (hx : x ∈ S) : x < i := List.mem_range.mp (h.perm.mem_iff.mp (by simp [hx]))
theorem Open.dis {N i : Nat} {S : List Nat} {qs : Prs} (h : Open N i S qs) {x : Nat} (hx : x ∈ S) : x ∉ ends qs := by
  have hn := h.perm.nodup_iff.mpr List.nodup_range
  rw [List.nodup_append] at hn
  intro hm
  exact hn.2.2 x hx x hm rfl
end VS
set_option Elab.async false
set_option linter.all false
namespace VS
/-! ### ways to choose -/
def ch : Nat → Nat → Nat
  | _, 0 => 1
  | 0, _ + 1 => 0
  | n + 1, k + 1 => ch n k + ch n (k + 1)
def ff (n : Nat) : Nat → Nat
  | 0 => 1
  | k + 1 => ff n k * (n - k)
def fac : Nat → Nat
  | 0 => 1
  | n + 1 => fac n * (n + 1)
/-- half mats: f falls of n -/
def bal (n f : Nat) : Nat := ch n f - (if f = 0 then 0 else ch n (f - 1))
/-! sums over k -/
def bq (n f : Nat) : Nat := ff n f / fac f - (if f = 0 then 0 else ff n (f - 1) / fac (f - 1))
def sq1 (n : Nat) : Nat → Nat
  | 0 => 0
  | t + 1 => sq1 n t + bq n (n / 2 - t) * bq n (n / 2 - t)
def sq2 (n : Nat) : Nat → Nat
  | 0 => 0
  | t + 1 => sq2 n t + bq n (n / 2 - t) * (n % 2 + 2 * t + 1)
def sqOk (n : Nat) : Bool := sq1 n (n / 2 + 1) == ff (2 * n) n / fac n / (n + 1) && sq2 n (n / 2 + 1) == 2 ^ n
end VS
set_option Elab.async false
set_option linter.all false
namespace VS
/-! ### pairings of places, and hooks put behind them -/
def Pr (N : Nat) (f : Nat → Nat) : Prop := ∀ p, p < N → f p < N ∧ f p ≠ p ∧ f (f p) = p
def hkF (a b : Nat) (f : Nat → Nat) (p : Nat) : Nat :=
  if p = a then b else if p = b then a else if f p = a then f b else if f p = b then f a else f p
def hkR (a b : Nat) (f : Nat → Nat) : Nat := if f a = b then 1 else 0
/-! ### rows of mates -/
def rowF (row : List Nat) (p : Nat) : Nat := row.getD p 0
def PrR (n : Nat) (row : List Nat) : Prop := row.length = 2 * n ∧ Pr (2 * n) (rowF row)
def hkL (n i : Nat) (row : List Nat) : List Nat :=
  if rowF row (n + i) = n + i + 1 then row
  else (((row.set (rowF row (n + i)) (rowF row (n + i + 1))).set (rowF row (n + i + 1)) (rowF row (n + i))).set (n + i) (n + i + 1)).set (n + i + 1) (n + i)
def hkN (n i : Nat) (row : List Nat) : Nat := hkR (n + i) (n + i + 1) (rowF row)
/-! ### the values of words -/
def stepV (n : Nat) (s : Nat × List Nat) (i : Nat) : Nat × List Nat := (s.1 + hkN n i s.2, hkL n i s.2)
def strR (n : Nat) : List Nat := (List.range n).map (n + ·) ++ List.range n
def valF (n : Nat) (s : Nat × List Nat) (w : List Nat) : Nat × List Nat := w.foldl (stepV n) s
def valW (n : Nat) (w : List Nat) : Nat × List Nat := valF n (0, strR n) w
end VS
set_option Elab.async false
set_option linter.all false
namespace VS
/-! ### walking through two mats -/
def wk (A H : Nat → Nat) (n m : Nat) : Nat → Bool → Nat → List Bool → Option (Nat × List Bool)
  | 0, _, _, _ => none
  | f + 1, true, a, ps => if a < n then some (a, ps) else wk A H n m f false (H (a - n)) (ps.set (a - n) true)
  | f + 1, false, a, ps => if m ≤ a then some (n + a - m, ps) else wk A H n m f true (A (n + a)) (ps.set a true)
theorem wk_t {A H : Nat → Nat} {n m f a : Nat} {ps : List Bool} : wk A H n m (f + 1) true a ps = if a < n then some (a, ps) else wk A H n m f false (H (a - n)) (ps.set (a - n) true) := rfl
theorem wk_f {A H : Nat → Nat} {n m f a : Nat} {ps : List Bool} : wk A H n m (f + 1) false a ps = if m ≤ a then some (n + a - m, ps) else wk A H n m f true (A (n + a)) (ps.set a true) := rfl
def hookF (n i q : Nat) : Nat := if q = i then i + 1 else if q = i + 1 then i else if q = n + i then n + i + 1 else if q = n + i + 1 then n + i else if q < n then n + q else q - n
def bt (ps : List Bool) (q : Nat) : Bool := ps.getD q false
theorem bt_set {ps : List Bool} {j q : Nat} (hj : j < ps.length) : bt (ps.set j true) q = if q = j then true else bt ps q := by
  unfold bt
  simp only [List.getD_eq_getElem?_getD, List.getElem?_set]
  by_cases h : j = q
  · subst h; simp [hj]
  · have h' : ¬ q = j := fun z => h z.symm
    simp [h, h']
/-- the pegs between that a walk may pass -/
def Tq (A : Nat → Nat) (n i q : Nat) : Prop := (q ≠ i ∧ q ≠ i + 1) ∨ A (n + i) ≠ n + i + 1
structure Wd (A : Nat → Nat) (n i : Nat) (ps ps' : List Bool) : Prop where
  len : ps'.length = n
  up : ∀ q, bt ps q = true → bt ps' q = true
  dn : ∀ q, bt ps' q = true → bt ps q = true ∨ Tq A n i q
theorem Wd.refl {A : Nat → Nat} {n i : Nat} {ps : List Bool} (h : ps.length = n) : Wd A n i ps ps := ⟨h, fun _ h => h, fun _ h => .inl h⟩
theorem Wd.set {A : Nat → Nat} {n i j : Nat} {ps ps' : List Bool} (h : Wd A n i ps ps') (hj : j < n) (ht : Tq A n i j) : Wd A n i ps (ps'.set j true) := by
  refine ⟨by rw [List.length_set]; exact h.len, fun q hq => ?_, fun q hq => ?_⟩
  · rw [bt_set (by rw [h.len]; exact hj)]
    split
    · rfl
    · exact h.up q hq
  · rw [bt_set (by rw [h.len]; exact hj)] at hq
    split at hq
    · rename_i e; subst e; exact .inr ht
    · exact h.dn q hq
/-- where a walk begins -/
def wkS (A H : Nat → Nat) (n m p : Nat) : Bool × Nat := if p < n then (true, A p) else (false, H (m + p - n))
/-- the row of a hook -/
def hookR (n i : Nat) : List Nat := ((((strR n).set i (i + 1)).set (i + 1) i).set (n + i) (n + i + 1)).set (n + i + 1) (n + i)
end VS
set_option Elab.async false
set_option linter.all false
set_option maxRecDepth 100000
namespace VS
/-! ### strings whose ends meet are joined, pair by pair -/
/-- a and b meet: what hangs on both is one string -/
def jn (a b : Nat) (e : Nat → Nat) (x : Nat) : Nat :=
  if x = a then a else if x = b then b else if x = e a then e b else if x = e b then e a else e x
def el (s : Nat × (Nat → Nat)) (p : Nat × Nat) : Nat × (Nat → Nat) :=
  (if s.2 p.1 = p.2 then s.1 + 1 else s.1, jn p.1 p.2 s.2)
def Iv (e : Nat → Nat) : Prop := ∀ x, e (e x) = x
theorem jn_iv {a b : Nat} {e : Nat → Nat} (h : Iv e) (hab : a ≠ b) (ha : e a ≠ a) (hb : e b ≠ b) : Iv (jn a b e) := by
  intro x
  have h1 := h x; have h2 := h a; have h3 := h b
  unfold jn
  grind (splits := 40)
theorem jn_fix {a b x : Nat} {e : Nat → Nat} (h : Iv e) (hab : a ≠ b) (ha : e a ≠ a) (hb : e b ≠ b) : jn a b e x = x ↔ x = a ∨ x = b ∨ e x = x := by
  have h1 := h x; have h2 := h a; have h3 := h b
  unfold jn
  grind (splits := 40)
theorem jn_out {a b x : Nat} {e : Nat → Nat} (h : Iv e) (hx : x ≠ a) (hy : x ≠ b) (h1 : e x ≠ a) (h2 : e x ≠ b) : jn a b e x = e x := by
  have q1 := h x; have q2 := h a; have q3 := h b
  unfold jn
  grind (splits := 40)
theorem jn_a {a b x : Nat} {e : Nat → Nat} (h : Iv e) (hx : x ≠ a) (hy : x ≠ b) (h1 : e x = a) : jn a b e x = e b := by
  have q1 := h x
  unfold jn
  grind (splits := 40)
theorem jn_b {a b x : Nat} {e : Nat → Nat} (h : Iv e) (hx : x ≠ a) (hy : x ≠ b) (h1 : e x = b) (hb : e b ≠ b) : jn a b e x = e a := by
  have q1 := h x; have q2 := h a
  unfold jn
  grind (splits := 40)
theorem jn_comm {a b c d : Nat} {e : Nat → Nat} (h : Iv e) (hab : a ≠ b) (hcd : c ≠ d) (hac : a ≠ c) (had : a ≠ d) (hbc : b ≠ c) (hbd : b ≠ d) (ha : e a ≠ a) (hb : e b ≠ b) (hc : e c ≠ c) (hd : e d ≠ d) : jn c d (jn a b e) = jn a b (jn c d e) := by
  funext x
  have h1 := h x; have h2 := h a; have h3 := h b; have h4 := h c; have h5 := h d
  unfold jn
  grind (splits := 40)
theorem el_comm {r a b c d : Nat} {e : Nat → Nat} (h : Iv e) (hab : a ≠ b) (hcd : c ≠ d) (hac : a ≠ c) (had : a ≠ d) (hbc : b ≠ c) (hbd : b ≠ d) (ha : e a ≠ a) (hb : e b ≠ b) (hc : e c ≠ c) (hd : e d ≠ d) : el (el (r, e) (a, b)) (c, d) = el (el (r, e) (c, d)) (a, b) := by
  unfold el
  refine Prod.ext ?_ (jn_comm h hab hcd hac had hbc hbd ha hb hc hd)
  have h2 := h a; have h3 := h b; have h4 := h c; have h5 := h d
  show (if jn a b e c = d then _ else _) = (if jn c d e a = b then _ else _)
  simp only []
  unfold jn
  grind (splits := 40)
/-- pairs with no end in common -/
def Ap (p q : Nat × Nat) : Prop := p.1 ≠ q.1 ∧ p.1 ≠ q.2 ∧ p.2 ≠ q.1 ∧ p.2 ≠ q.2
theorem Ap.symm {p q : Nat × Nat} (h : Ap p q) : Ap q p := ⟨fun z => h.1 z.symm, fun z => h.2.2.1 z.symm, fun z => h.2.1 z.symm, fun z => h.2.2.2 z.symm⟩
structure OkL (e : Nat → Nat) (L : List (Nat × Nat)) : Prop where
  iv : Iv e
  pw : L.Pairwise Ap
  own : ∀ p ∈ L, p.1 ≠ p.2 ∧ e p.1 ≠ p.1 ∧ e p.2 ≠ p.2
def elL (s : Nat × (Nat → Nat)) (L : List (Nat × Nat)) : Nat × (Nat → Nat) := L.foldl el s
theorem OkL.tail {e : Nat → Nat} {p : Nat × Nat} {L : List (Nat × Nat)} (h : OkL e (p :: L)) : OkL (jn p.1 p.2 e) L := by
  have hp := h.own p (by simp)
  have hw := List.pairwise_cons.mp h.pw
  refine ⟨jn_iv h.iv hp.1 hp.2.1 hp.2.2, hw.2, fun q hq => ⟨(h.own q (by simp [hq])).1, fun z => ?_, fun z => ?_⟩⟩
  · have hq' := h.own q (by simp [hq])
    have ap := hw.1 q hq
    rcases (jn_fix h.iv hp.1 hp.2.1 hp.2.2).mp z with z | z | z
    · exact ap.1 z.symm
    · exact ap.2.2.1 z.symm
    · exact hq'.2.1 z
  · have hq' := h.own q (by simp [hq])
    have ap := hw.1 q hq
    rcases (jn_fix h.iv hp.1 hp.2.1 hp.2.2).mp z with z | z | z
    · exact ap.2.1 z.symm
    · exact ap.2.2.2 z.symm
    · exact hq'.2.2 z
theorem OkL.perm {e : Nat → Nat} {L M : List (Nat × Nat)} (h : OkL e L) (p : L.Perm M) : OkL e M :=
  ⟨h.iv, (p.pairwise_iff fun {a b} => Ap.symm).mp h.pw, fun q hq => h.own q (p.mem_iff.mpr hq)⟩
theorem elL_perm {L M : List (Nat × Nat)} (p : L.Perm M) : ∀ {s : Nat × (Nat → Nat)}, OkL s.2 L → elL s L = elL s M := by
  induction p with
  | nil => intro s h; rfl
  | cons a p ih => intro s h; exact ih (s := el s a) h.tail
  | swap a b l =>
    intro s h
    have ha := h.own a (by simp)
    have hb := h.own b (by simp)
    have ap := (List.pairwise_cons.mp h.pw).1 a (by simp)
    show elL (el (el s b) a) l = elL (el (el s a) b) l
    have := el_comm (r := s.1) h.iv hb.1 ha.1 ap.1 ap.2.1 ap.2.2.1 ap.2.2.2 hb.2.1 hb.2.2 ha.2.1 ha.2.2
    rw [show el (el s b) a = el (el s a) b from this]
  | trans p q ih1 ih2 => intro s h; rw [ih1 h, ih2 (h.perm p)]
theorem elL_snoc (s : Nat × (Nat → Nat)) (L : List (Nat × Nat)) (p : Nat × Nat) : elL s (L ++ [p]) = el (elL s L) p := by
  unfold elL; rw [List.foldl_append]; rfl
/-- an end of one of the pairs -/
def Pt (L : List (Nat × Nat)) (x : Nat) : Prop := ∃ p ∈ L, x = p.1 ∨ x = p.2
theorem elL_iv : ∀ {L : List (Nat × Nat)} {s : Nat × (Nat → Nat)}, OkL s.2 L → Iv (elL s L).2
  | [], _, h => h.iv
  | p :: L, s, h => elL_iv (L := L) (s := el s p) h.tail
theorem elL_fix : ∀ {L : List (Nat × Nat)} {s : Nat × (Nat → Nat)} {x : Nat}, OkL s.2 L → ((elL s L).2 x = x ↔ Pt L x ∨ s.2 x = x)
  | [], s, x, h => by
    show s.2 x = x ↔ _
    constructor
    · exact .inr
    · rintro (⟨p, hp, _⟩ | h)
      · cases hp
      · exact h
  | p :: L, s, x, h => by
    have ih := elL_fix (L := L) (s := el s p) (x := x) h.tail
    have hp := h.own p (by simp)
    show (elL (el s p) L).2 x = x ↔ _
    rw [ih]
    have jf := jn_fix (x := x) h.iv hp.1 hp.2.1 hp.2.2
    show (Pt L x ∨ jn p.1 p.2 s.2 x = x) ↔ _
    rw [jf]
    constructor
    · rintro (⟨q, hq, z⟩ | z | z | z)
      · exact .inl ⟨q, by simp [hq], z⟩
      · exact .inl ⟨p, by simp, .inl z⟩
      · exact .inl ⟨p, by simp, .inr z⟩
      · exact .inr z
    · rintro (⟨q, hq, z⟩ | z)
      · rcases List.mem_cons.mp hq with rfl | hq
        · rcases z with z | z
          · exact .inr (.inl z)
          · exact .inr (.inr (.inl z))
        · exact .inl ⟨q, hq, z⟩
      · exact .inr (.inr (.inr z))
theorem OkL.init {e : Nat → Nat} {L M : List (Nat × Nat)} (h : OkL e (L ++ M)) : OkL e L := ⟨h.iv, (List.pairwise_append.mp h.pw).1, fun p hp => h.own p (by simp [hp])⟩
theorem OkL.sub {e : Nat → Nat} {L M : List (Nat × Nat)} (h : OkL e M) (hs : L.Sublist M) : OkL e L := ⟨h.iv, h.pw.sublist hs, fun p hp => h.own p (hs.subset hp)⟩
/-! ### the way along the strings -/
def Glu (L : List (Nat × Nat)) (y z : Nat) : Prop := (y, z) ∈ L ∨ (z, y) ∈ L
inductive Wl (e : Nat → Nat) (L : List (Nat × Nat)) : Nat → Nat → Nat → Prop
  | stop {y : Nat} : ¬ Pt L y → Wl e L 0 y y
  | step {k y z w : Nat} : Glu L y z → Wl e L k (e z) w → Wl e L (k + 1) y w
theorem Glu.pt {L : List (Nat × Nat)} {y z : Nat} (h : Glu L y z) : Pt L y := by
  rcases h with h | h
  · exact ⟨_, h, .inl rfl⟩
  · exact ⟨_, h, .inr rfl⟩
theorem Wl.glue {e : Nat → Nat} {L : List (Nat × Nat)} {p : Nat × Nat} {a b k2 w : Nat} (hg : Glu (L ++ [p]) a b) : ∀ {k y : Nat}, Wl e L k y a → Wl e (L ++ [p]) k2 (e b) w → Wl e (L ++ [p]) (k + 1 + k2) y w := by
  intro k y h h2
  induction h with
  | stop _ => rw [show 0 + 1 + k2 = k2 + 1 by omega]; exact .step hg h2
  | @step k y z w' g r ih =>
    rw [show k + 1 + 1 + k2 = (k + 1 + k2) + 1 by omega]
    refine .step ?_ (ih hg)
    rcases g with g | g
    · exact .inl (List.mem_append_left _ g)
    · exact .inr (List.mem_append_left _ g)
theorem Wl.more {e : Nat → Nat} {L : List (Nat × Nat)} {p : Nat × Nat} {k y w : Nat} (h : Wl e L k y w) (hw : ¬ Pt (L ++ [p]) w) : Wl e (L ++ [p]) k y w := by
  induction h with
  | stop _ => exact .stop hw
  | @step k y z w' g r ih =>
    refine .step ?_ (ih hw)
    rcases g with g | g
    · exact .inl (List.mem_append_left _ g)
    · exact .inr (List.mem_append_left _ g)
theorem pt_snoc {L : List (Nat × Nat)} {p : Nat × Nat} {x : Nat} : Pt (L ++ [p]) x ↔ Pt L x ∨ x = p.1 ∨ x = p.2 := by
  constructor
  · rintro ⟨q, hq, z⟩
    rcases List.mem_append.mp hq with h | h
    · exact .inl ⟨q, h, z⟩
    · obtain rfl := List.mem_singleton.mp h
      exact .inr z
  · rintro (⟨q, hq, z⟩ | z)
    · exact ⟨q, by simp [hq], z⟩
    · exact ⟨p, by simp, z⟩
/-- where the way leads -/
theorem way_ok {e : Nat → Nat} {r : Nat} : ∀ (L : List (Nat × Nat)), OkL e L.reverse → ∀ x, ¬ Pt L.reverse x → e x ≠ x → ∃ k, k + 1 ≤ 2 ^ L.length ∧ Wl e L.reverse k (e x) ((elL (r, e) L.reverse).2 x)
  | [], h, x, hx, he => ⟨0, by simp, .stop fun ⟨p, hp, _⟩ => by cases hp⟩
  | p :: L, h, x, hx, he => by
    rw [List.reverse_cons] at h hx ⊢
    have h0 := h.init
    have ih := way_ok (r := r) L h0
    obtain ⟨F, hF⟩ : ∃ F, F = (elL (r, e) L.reverse).2 := ⟨_, rfl⟩
    have iv : Iv F := hF ▸ elL_iv (s := (r, e)) h0
    have fix : ∀ y, F y = y ↔ Pt L.reverse y ∨ e y = y := fun y => hF ▸ elL_fix (s := (r, e)) h0
    rw [elL_snoc]
    show ∃ k, _ ∧ Wl e _ k (e x) (jn p.1 p.2 (elL (r, e) L.reverse).2 x)
    simp only [← hF] at ih ⊢
    have hxL : ¬ Pt L.reverse x := fun z => hx (pt_snoc.mpr (.inl z))
    have hx1 : x ≠ p.1 := fun z => hx (pt_snoc.mpr (.inr (.inl z)))
    have hx2 : x ≠ p.2 := fun z => hx (pt_snoc.mpr (.inr (.inr z)))
    have own := h.own p (by simp)
    have pw := (List.pairwise_append.mp h.pw).2.2
    have n1 : ¬ Pt L.reverse p.1 := by
      rintro ⟨q, hq, z⟩
      have := pw q hq p (by simp)
      rcases z with z | z
      · exact this.1 z.symm
      · exact this.2.2.1 z.symm
    have n2 : ¬ Pt L.reverse p.2 := by
      rintro ⟨q, hq, z⟩
      have := pw q hq p (by simp)
      rcases z with z | z
      · exact this.2.1 z.symm
      · exact this.2.2.2 z.symm
    have f1 : F p.1 ≠ p.1 := fun z => by rcases (fix _).mp z with z | z; exact n1 z; exact own.2.1 z
    have f2 : F p.2 ≠ p.2 := fun z => by rcases (fix _).mp z with z | z; exact n2 z; exact own.2.2 z
    have fx : F x ≠ x := fun z => by rcases (fix _).mp z with z | z; exact hxL z; exact he z
    obtain ⟨k, hk, w⟩ := ih x hxL he
    have far : ∀ y, F y ≠ y → F y ≠ p.1 → F y ≠ p.2 → ¬ Pt (L.reverse ++ [p]) (F y) := fun y hy q1 q2 z => by
      rcases pt_snoc.mp z with z | z | z
      · exact hy ((iv y).symm.trans ((fix _).mpr (.inl z)) |>.symm)
      · exact q1 z
      · exact q2 z
    have pow : 2 ^ (p :: L).length = 2 ^ L.length + 2 ^ L.length := by rw [List.length_cons, Nat.pow_succ]; omega
    by_cases c1 : F x = p.1
    · obtain ⟨k2, hk2, w2⟩ := ih p.2 n2 own.2.2
      rw [jn_a iv hx1 hx2 c1]
      rw [c1] at w
      refine ⟨k + 1 + k2, by omega, Wl.glue (.inl (by simp)) w (w2.more (far _ f2 (fun z => ?_) f2))⟩
      have : p.2 = F p.1 := by rw [← z, iv]
      exact hx2 (by rw [this, ← c1, iv])
    · by_cases c2 : F x = p.2
      · obtain ⟨k2, hk2, w2⟩ := ih p.1 n1 own.2.1
        rw [jn_b iv hx1 hx2 c2 f2]
        rw [c2] at w
        refine ⟨k + 1 + k2, by omega, Wl.glue (.inr (by simp)) w (w2.more (far _ f1 f1 fun z => ?_))⟩
        have : p.1 = F p.2 := by rw [← z, iv]
        exact hx1 (by rw [this, ← c2, iv])
      · rw [jn_out iv hx1 hx2 c1 c2]
        exact ⟨k, by omega, w.more (far _ fx c1 c2)⟩
end VS
set_option Elab.async false
set_option linter.all false
set_option maxRecDepth 100000
namespace VS
/-! ### a mat behind another one: ends 0 .. n-1 above, n .. n+m-1 below the one, n+m .. n+2m-1 above the other, then those below it -/
section
variable (A H : Nat → Nat) (n m k : Nat)
def e0 (x : Nat) : Nat := if x < n + m then A x else if x < n + 2 * m + k then n + m + H (x - (n + m)) else x
def prs (Q : List Nat) : List (Nat × Nat) := Q.map fun q => (n + q, n + m + q)
def bhF : Nat × (Nat → Nat) := elL (0, e0 A H n m k) (prs n m (List.range m))
def Oue (x : Nat) : Prop := x < n ∨ (n + 2 * m ≤ x ∧ x < n + 2 * m + k)
def xp (p : Nat) : Nat := if p < n then p else p + 2 * m
def num (z : Nat) : Nat := if z < n then z else z - 2 * m
end
variable {A H : Nat → Nat} {n m k : Nat}
theorem e0_iv (hA : Pr (n + m) A) (hH : Pr (m + k) H) : Iv (e0 A H n m k) := by
  intro x
  unfold e0
  by_cases h1 : x < n + m
  · have := hA x h1
    rw [if_pos h1, if_pos this.1, this.2.2]
  · rw [if_neg h1]
    by_cases h2 : x < n + 2 * m + k
    · have := hH (x - (n + m)) (by omega)
      rw [if_pos h2, if_neg (by omega), if_pos (by omega), show n + m + H (x - (n + m)) - (n + m) = H (x - (n + m)) by omega, this.2.2]
      omega
    · rw [if_neg h2, if_neg h1, if_neg h2]
theorem e0_ne (hA : Pr (n + m) A) (hH : Pr (m + k) H) {x : Nat} (h : x < n + 2 * m + k) : e0 A H n m k x ≠ x := by
  unfold e0
  by_cases h1 : x < n + m
  · have := hA x h1
    rw [if_pos h1]; exact this.2.1
  · have := hH (x - (n + m)) (by omega)
    rw [if_neg h1, if_pos h]; omega
theorem e0_lt (hA : Pr (n + m) A) (hH : Pr (m + k) H) {x : Nat} (h : x < n + 2 * m + k) : e0 A H n m k x < n + 2 * m + k := by
  unfold e0
  by_cases h1 : x < n + m
  · have := hA x h1
    rw [if_pos h1]; omega
  · have := hH (x - (n + m)) (by omega)
    rw [if_neg h1, if_pos h]; omega
theorem prs_mem {Q : List Nat} {p : Nat × Nat} : p ∈ prs n m Q ↔ ∃ q ∈ Q, p = (n + q, n + m + q) := by
  unfold prs
  rw [List.mem_map]
  exact ⟨fun ⟨q, h, e⟩ => ⟨q, h, e.symm⟩, fun ⟨q, h, e⟩ => ⟨q, h, e.symm⟩⟩
theorem pt_prs {Q : List Nat} {y : Nat} : Pt (prs n m Q) y ↔ ∃ q ∈ Q, y = n + q ∨ y = n + m + q := by
  constructor
  · rintro ⟨p, hp, z⟩
    obtain ⟨q, hq, rfl⟩ := prs_mem.mp hp
    exact ⟨q, hq, z⟩
  · rintro ⟨q, hq, z⟩
    exact ⟨_, prs_mem.mpr ⟨q, hq, rfl⟩, z⟩
theorem pt_near {Q : List Nat} {q : Nat} (hl : ∀ q ∈ Q, q < m) (hq : q < m) : Pt (prs n m Q) (n + q) ↔ q ∈ Q := by
  rw [pt_prs]
  constructor
  · rintro ⟨p, hp, z⟩
    have := hl p hp
    obtain rfl : p = q := by omega
    exact hp
  · intro h; exact ⟨q, h, .inl rfl⟩
theorem pt_far {Q : List Nat} {q : Nat} (hl : ∀ q ∈ Q, q < m) (hq : q < m) : Pt (prs n m Q) (n + m + q) ↔ q ∈ Q := by
  rw [pt_prs]
  constructor
  · rintro ⟨p, hp, z⟩
    have := hl p hp
    obtain rfl : p = q := by omega
    exact hp
  · intro h; exact ⟨q, h, .inr rfl⟩
theorem out_pt {Q : List Nat} {x : Nat} (hl : ∀ q ∈ Q, q < m) (h : Oue n m k x) : ¬ Pt (prs n m Q) x := by
  rw [pt_prs]
  rintro ⟨p, hp, z⟩
  have := hl p hp
  unfold Oue at h
  omega
theorem prs_ok (hA : Pr (n + m) A) (hH : Pr (m + k) H) {Q : List Nat} (nd : Q.Nodup) (hl : ∀ q ∈ Q, q < m) : OkL (e0 A H n m k) (prs n m Q) := by
  refine ⟨e0_iv hA hH, ?_, fun p hp => ?_⟩
  · unfold prs
    rw [List.pairwise_map]
    refine List.Pairwise.imp_of_mem ?_ nd
    intro a b ha hb hab
    have h1 := hl a ha
    have h2 := hl b hb
    refine ⟨?_, ?_, ?_, ?_⟩ <;> simp only [] <;> omega
  · obtain ⟨q, hq, rfl⟩ := prs_mem.mp hp
    have := hl q hq
    exact ⟨by simp only []; omega, e0_ne hA hH (by simp only []; omega), e0_ne hA hH (by simp only []; omega)⟩
theorem prs_snoc (Q : List Nat) (q : Nat) : prs n m (Q ++ [q]) = prs n m Q ++ [(n + q, n + m + q)] := by
  unfold prs; rw [List.map_append]; rfl
theorem pt_step {Q : List Nat} {q y : Nat} : Pt (prs n m (Q ++ [q])) y ↔ Pt (prs n m Q) y ∨ y = n + q ∨ y = n + m + q := by
  rw [prs_snoc]; exact pt_snoc
/-- what stands after some pairs are joined -/
structure Sd (A H : Nat → Nat) (n m k : Nat) (Q : List Nat) (ps : List Bool) : Prop where
  nd : Q.Nodup
  lt : ∀ q ∈ Q, q < m
  len : ps.length = m
  fl : ∀ q, bt ps q = true ↔ q ∈ Q
/-- the numbers of rings and the ends -/
def fQ (A H : Nat → Nat) (n m k : Nat) (Q : List Nat) : Nat × (Nat → Nat) := elL (0, e0 A H n m k) (prs n m Q)
theorem fQ_snoc (Q : List Nat) (q : Nat) : fQ A H n m k (Q ++ [q]) = el (fQ A H n m k Q) (n + q, n + m + q) := by
  unfold fQ; rw [prs_snoc, elL_snoc]
theorem fQ_fix (hA : Pr (n + m) A) (hH : Pr (m + k) H) {Q : List Nat} (nd : Q.Nodup) (hl : ∀ q ∈ Q, q < m) {x : Nat} (hx : x < n + 2 * m + k) : (fQ A H n m k Q).2 x = x ↔ Pt (prs n m Q) x := by
  unfold fQ
  rw [elL_fix (prs_ok hA hH nd hl)]
  exact ⟨fun h => h.resolve_right (e0_ne hA hH hx), .inl⟩
theorem fQ_iv (hA : Pr (n + m) A) (hH : Pr (m + k) H) {Q : List Nat} (nd : Q.Nodup) (hl : ∀ q ∈ Q, q < m) : Iv (fQ A H n m k Q).2 := elL_iv (s := (0, e0 A H n m k)) (prs_ok hA hH nd hl)
theorem fQ_way (hA : Pr (n + m) A) (hH : Pr (m + k) H) {Q : List Nat} (nd : Q.Nodup) (hl : ∀ q ∈ Q, q < m) {x : Nat} (hx : x < n + 2 * m + k) (hp : ¬ Pt (prs n m Q) x) : ∃ j, j + 1 ≤ 2 ^ Q.length ∧ Wl (e0 A H n m k) (prs n m Q) j (e0 A H n m k x) ((fQ A H n m k Q).2 x) := by
  have := way_ok (r := 0) (prs n m Q).reverse (by rw [List.reverse_reverse]; exact prs_ok hA hH nd hl) x (by rwa [List.reverse_reverse]) (e0_ne hA hH hx)
  rw [List.reverse_reverse, List.length_reverse, show (prs n m Q).length = Q.length by simp [prs]] at this
  exact this
/-- what leads outside stays -/
theorem fQ_keep {Q : List Nat} {q x : Nat} (iv : Iv (fQ A H n m k Q).2) (hq : q < m) (hx : Oue n m k x) (hz : Oue n m k ((fQ A H n m k Q).2 x)) : (fQ A H n m k (Q ++ [q])).2 x = (fQ A H n m k Q).2 x := by
  rw [fQ_snoc]
  unfold Oue at hx hz
  exact jn_out iv (by simp only []; omega) (by simp only []; omega) (by simp only []; omega) (by simp only []; omega)
theorem fQ_keeps (hA : Pr (n + m) A) (hH : Pr (m + k) H) {x : Nat} (hx : Oue n m k x) : ∀ (R Q : List Nat), (Q ++ R).Nodup → (∀ q ∈ Q ++ R, q < m) → Oue n m k ((fQ A H n m k Q).2 x) → (fQ A H n m k (Q ++ R)).2 x = (fQ A H n m k Q).2 x
  | [], Q, _, _, _ => by rw [List.append_nil]
  | r :: R, Q, nd, hl, hz => by
    have e : Q ++ r :: R = (Q ++ [r]) ++ R := by simp
    rw [e] at nd hl ⊢
    have n1 : (Q ++ [r]).Nodup := nd.sublist (List.sublist_append_left _ _)
    have n0 : Q.Nodup := n1.sublist (List.sublist_append_left _ _)
    have k1 := fQ_keep (fQ_iv hA hH n0 fun q hq => hl q (by simp [hq])) (hl r (by simp)) hx hz
    rw [fQ_keeps hA hH hx R (Q ++ [r]) nd hl (by rw [k1]; exact hz), k1]
/-- all pairs, in whatever order -/
theorem nodup_full {Q : List Nat} (nd : Q.Nodup) (hl : ∀ q ∈ Q, q < m) : ∃ R, (Q ++ R).Nodup ∧ (∀ q ∈ Q ++ R, q < m) ∧ (Q ++ R).Perm (List.range m) := by
  refine ⟨(List.range m).filter (fun q => decide (q ∉ Q)), ?_, ?_, ?_⟩
  · rw [List.nodup_append]
    refine ⟨nd, List.nodup_range.filter _, fun a ha b hb e => ?_⟩
    subst e
    have := (List.mem_filter.mp hb).2
    exact (of_decide_eq_true this) ha
  · intro q hq
    rcases List.mem_append.mp hq with h | h
    · exact hl q h
    · exact List.mem_range.mp (List.mem_filter.mp h).1
  · refine (List.perm_ext_iff_of_nodup ?_ List.nodup_range).mpr fun q => ?_
    · rw [List.nodup_append]
      refine ⟨nd, List.nodup_range.filter _, fun a ha b hb e => ?_⟩
      subst e
      have := (List.mem_filter.mp hb).2
      exact (of_decide_eq_true this) ha
    · rw [List.mem_append, List.mem_filter, List.mem_range]
      constructor
      · rintro (h | h)
        · exact hl q h
        · exact h.1
      · intro h
        by_cases c : q ∈ Q
        · exact .inl c
        · exact .inr ⟨h, decide_eq_true c⟩
theorem fQ_perm (hA : Pr (n + m) A) (hH : Pr (m + k) H) {Q R : List Nat} (nd : Q.Nodup) (hl : ∀ q ∈ Q, q < m) (p : Q.Perm R) : fQ A H n m k Q = fQ A H n m k R :=
  elL_perm (p.map _) (prs_ok hA hH nd hl)
theorem fQ_full (hA : Pr (n + m) A) (hH : Pr (m + k) H) {Q : List Nat} (nd : Q.Nodup) (hl : ∀ q ∈ Q, q < m) {x : Nat} (hx : Oue n m k x) (hz : Oue n m k ((fQ A H n m k Q).2 x)) : (bhF A H n m k).2 x = (fQ A H n m k Q).2 x := by
  obtain ⟨R, h1, h2, h3⟩ := nodup_full nd hl
  rw [← fQ_keeps hA hH hx R Q h1 h2 hz, fQ_perm hA hH h1 h2 h3]
  rfl
/-! ### the way from one peg outside to another, marked -/
def pt (n m : Nat) (b : Bool) (a : Nat) : Nat := if b = true then a else n + m + a
theorem sd_set {Q : List Nat} {ps : List Bool} {q : Nat} (h : Sd A H n m k Q ps) (hq : q < m) (hn : q ∉ Q) : Sd A H n m k (Q ++ [q]) (ps.set q true) := by
  refine ⟨?_, fun x hx => ?_, by rw [List.length_set]; exact h.len, fun x => ?_⟩
  · rw [List.nodup_append]
    exact ⟨h.nd, by simp, fun a ha b hb e => by rw [List.mem_singleton] at hb; subst e; subst hb; exact hn ha⟩
  · rcases List.mem_append.mp hx with z | z
    · exact h.lt x z
    · rw [List.mem_singleton.mp z]; exact hq
  · rw [bt_set (by rw [h.len]; exact hq)]
    by_cases c : x = q
    · subst c; simp
    · rw [if_neg c, h.fl]
      simp [c]
theorem sd_same {Q : List Nat} {ps : List Bool} {q : Nat} (h : Sd A H n m k Q ps) (hq : q ∈ Q) : Sd A H n m k Q (ps.set q true) := by
  refine ⟨h.nd, h.lt, by rw [List.length_set]; exact h.len, fun x => ?_⟩
  rw [bt_set (by rw [h.len]; exact h.lt q hq)]
  by_cases c : x = q
  · subst c; simp [hq]
  · rw [if_neg c, h.fl]
theorem wk_all (hA : Pr (n + m) A) (hH : Pr (m + k) H) {x : Nat} (hx : Oue n m k x) {c r : Nat} {ps' : List Bool} : ∀ (f : Nat) (b : Bool) (a : Nat) (ps : List Bool) (Q : List Nat), Sd A H n m k Q ps → pt n m b a < n + 2 * m + k → (b = true → a < n + m) → (∃ j, Wl (e0 A H n m k) (prs n m Q) j (pt n m b a) ((fQ A H n m k Q).2 x)) → (∀ y, Pt (prs n m Q) y → Oue n m k (e0 A H n m k y) ∨ Pt (prs n m Q) (e0 A H n m k y) ∨ e0 A H n m k y = pt n m b a) → (Oue n m k (e0 A H n m k (pt n m b a)) ∨ Pt (prs n m Q) (e0 A H n m k (pt n m b a))) → (fQ A H n m k Q).1 = c → wk A H n m f b a ps = some (r, ps') →
    ∃ R, Sd A H n m k (Q ++ R) ps' ∧ (∀ y, Pt (prs n m (Q ++ R)) y → Oue n m k (e0 A H n m k y) ∨ Pt (prs n m (Q ++ R)) (e0 A H n m k y)) ∧ (fQ A H n m k (Q ++ R)).1 = c ∧ Oue n m k ((fQ A H n m k (Q ++ R)).2 x) ∧ r = num n m ((fQ A H n m k (Q ++ R)).2 x)
  | 0, b, a, ps, Q, h, hb, ha, hw, hc, hc2, h1, hk => by cases hk
  | f + 1, b, a, ps, Q, h, hb, ha, ⟨j, hw⟩, hc, hc2, h1, hk => by
    -- at an end outside
    have fin : ∀ z, Oue n m k z → z = pt n m b a → (fQ A H n m k Q).2 x = z := fun z hz e => by
      rw [← e] at hw
      cases hw with
      | stop _ => rfl
      | step g _ => exact absurd g.pt (out_pt h.lt hz)
    have fin2 : Oue n m k (pt n m b a) → ∀ y, Pt (prs n m Q) y → Oue n m k (e0 A H n m k y) ∨ Pt (prs n m Q) (e0 A H n m k y) := fun ho y hy => by
      rcases hc y hy with z | z | z
      · exact .inl z
      · exact .inr z
      · rw [z]; exact .inl ho
    -- at a pair: c0 the end, d0 its partner
    have go : ∀ (q c0 d0 : Nat) (b' : Bool) (a' : Nat), q < m → c0 = pt n m b a → (c0 = n + q ∧ d0 = n + m + q ∨ c0 = n + m + q ∧ d0 = n + q) → e0 A H n m k d0 = pt n m b' a' → (b' = true → a' < n + m) → wk A H n m f b' a' (ps.set q true) = some (r, ps') → ∃ R, Sd A H n m k (Q ++ R) ps' ∧ (∀ y, Pt (prs n m (Q ++ R)) y → Oue n m k (e0 A H n m k y) ∨ Pt (prs n m (Q ++ R)) (e0 A H n m k y)) ∧ (fQ A H n m k (Q ++ R)).1 = c ∧ Oue n m k ((fQ A H n m k (Q ++ R)).2 x) ∧ r = num n m ((fQ A H n m k (Q ++ R)).2 x) := by
      intro q c0 d0 b' a' hq hc0 hcd he hb' hk
      have dl : d0 < n + 2 * m + k := by omega
      have ptb : pt n m b' a' < n + 2 * m + k := by rw [← he]; exact e0_lt hA hH dl
      have cd : ∀ y, y = n + q ∨ y = n + m + q ↔ y = c0 ∨ y = d0 := fun y => by omega
      by_cases hin : q ∈ Q
      · have cin : Pt (prs n m Q) c0 := pt_prs.mpr ⟨q, hin, (cd c0).mpr (.inl rfl)⟩
        have din : Pt (prs n m Q) d0 := pt_prs.mpr ⟨q, hin, (cd d0).mpr (.inr rfl)⟩
        refine wk_all hA hH hx f b' a' _ Q (sd_same h hin) ptb hb' ?_ (fun y hy => ?_) ?_ h1 hk
        · rw [← hc0] at hw
          cases hw with
          | stop z => exact absurd cin z
          | @step j' _ z _ g w =>
            have : z = d0 := by
              rcases g with g | g
              · obtain ⟨q', hq', e⟩ := prs_mem.mp g
                have := h.lt q' hq'
                have e1 := (Prod.mk.inj e).1
                have e2 := (Prod.mk.inj e).2
                omega
              · obtain ⟨q', hq', e⟩ := prs_mem.mp g
                have := h.lt q' hq'
                have e1 := (Prod.mk.inj e).1
                have e2 := (Prod.mk.inj e).2
                omega
            subst this
            rw [he] at w
            exact ⟨_, w⟩
        · rcases hc y hy with z | z | z
          · exact .inl z
          · exact .inr (.inl z)
          · rw [z, ← hc0]; exact .inr (.inl cin)
        · rw [← he, e0_iv hA hH]; exact .inr din
      · have cnin : ¬ Pt (prs n m Q) c0 := fun z => by
          rcases hcd with e | e
          · rw [e.1, pt_near h.lt hq] at z; exact hin z
          · rw [e.1, pt_far h.lt hq] at z; exact hin z
        have dnin : ¬ Pt (prs n m Q) d0 := fun z => by
          rcases hcd with e | e
          · rw [e.2, pt_far h.lt hq] at z; exact hin z
          · rw [e.2, pt_near h.lt hq] at z; exact hin z
        have fx : (fQ A H n m k Q).2 x = c0 := by
          rw [← hc0] at hw
          cases hw with
          | stop _ => rfl
          | step g _ => exact absurd g.pt cnin
        have iv := fQ_iv hA hH h.nd h.lt
        have fc : (fQ A H n m k Q).2 c0 = x := by rw [← fx, iv]
        have nd := sd_set h hq hin
        have xo : x ≠ n + q ∧ x ≠ n + m + q := by unfold Oue at hx; omega
        have ring : (fQ A H n m k (Q ++ [q])).1 = c := by
          rw [fQ_snoc]
          show (if (fQ A H n m k Q).2 (n + q) = n + m + q then _ else _) = c
          rw [if_neg, h1]
          intro z
          rcases hcd with e | e
          · rw [← e.1, fc] at z; exact xo.2 z
          · have : (fQ A H n m k Q).2 (n + m + q) = n + q := by rw [← z, iv]
            rw [← e.1, fc] at this; exact xo.1 this
        have f1 : (fQ A H n m k Q).2 d0 ≠ d0 := fun z => dnin ((fQ_fix hA hH h.nd h.lt dl).mp z)
        have fx2 : (fQ A H n m k (Q ++ [q])).2 x = (fQ A H n m k Q).2 d0 := by
          rw [fQ_snoc]
          rcases hcd with e | e
          · rw [e.2]; exact jn_a iv xo.1 xo.2 (fx.trans e.1)
          · rw [e.2]; exact jn_b iv xo.1 xo.2 (fx.trans e.1) (by rw [← e.1, fc]; rw [e.1]; exact xo.2)
        obtain ⟨R, q1, q2, q3, q4, q5⟩ := wk_all hA hH hx f b' a' _ (Q ++ [q]) nd ptb hb' (by
          obtain ⟨j2, _, w2⟩ := fQ_way hA hH h.nd h.lt dl dnin
          rw [he] at w2
          rw [fx2, prs_snoc]
          refine ⟨j2, w2.more fun z => ?_⟩
          have fd : (fQ A H n m k Q).2 ((fQ A H n m k Q).2 d0) = d0 := iv d0
          have dlt : (fQ A H n m k Q).2 d0 < n + 2 * m + k := by
            rcases Nat.lt_or_ge ((fQ A H n m k Q).2 d0) (n + 2 * m + k) with q | q
            · exact q
            · have : (fQ A H n m k Q).2 ((fQ A H n m k Q).2 d0) = (fQ A H n m k Q).2 d0 := by
                refine (elL_fix (s := (0, e0 A H n m k)) (prs_ok hA hH h.nd h.lt)).mpr (.inr ?_)
                show e0 A H n m k _ = _
                unfold e0
                rw [if_neg (by omega), if_neg (by omega)]
              exact absurd (this.symm.trans fd) f1
          rcases pt_snoc.mp z with z | z
          · have := (fQ_fix hA hH h.nd h.lt dlt).mpr z
            exact f1 (this.symm.trans fd)
          · rcases (cd _).mp z with z | z
            · rw [z, fc] at fd
              have := (cd d0).mpr (.inr rfl)
              omega
            · exact f1 z) (fun y hy => by
          rcases pt_step.mp hy with z | z
          · rcases hc y z with z | z | z
            · exact .inl z
            · exact .inr (.inl (pt_step.mpr (.inl z)))
            · rw [z, ← hc0]; exact .inr (.inl (pt_step.mpr (.inr ((cd c0).mpr (.inl rfl)))))
          · rcases (cd y).mp z with z | z
            · rw [z, hc0]
              rcases hc2 with z | z
              · exact .inl z
              · exact .inr (.inl (pt_step.mpr (.inl z)))
            · rw [z]; exact .inr (.inr he)) (by rw [← he, e0_iv hA hH]; exact .inr (pt_step.mpr (.inr ((cd d0).mpr (.inr rfl))))) ring hk
        have e : Q ++ [q] ++ R = Q ++ (q :: R) := by simp
        rw [e] at q1 q2 q3 q4 q5
        exact ⟨q :: R, q1, q2, q3, q4, q5⟩
    cases b with
    | true =>
      rw [wk_t] at hk
      have pb : pt n m true a = a := rfl
      have ha := ha rfl
      by_cases c1 : a < n
      · rw [if_pos c1] at hk
        cases hk
        have ho : Oue n m k (pt n m true r) := .inl c1
        have e := fin _ ho rfl
        refine ⟨[], by rw [List.append_nil]; exact h, by rw [List.append_nil]; exact fin2 ho, by rw [List.append_nil]; exact h1, by rw [List.append_nil, e]; exact ho, ?_⟩
        rw [List.append_nil, e]
        unfold num; rw [pb, if_pos c1]
      · rw [if_neg c1] at hk
        have hh := hH (a - n) (by omega)
        refine go (a - n) a (n + m + (a - n)) false (H (a - n)) (by omega) pb.symm (.inl ⟨by omega, rfl⟩) ?_ (fun z => by cases z) hk
        unfold e0 pt
        rw [if_neg (by omega), if_pos (by omega), if_neg (by simp), show n + m + (a - n) - (n + m) = a - n by omega]
    | false =>
      rw [wk_f] at hk
      have pb : pt n m false a = n + m + a := rfl
      by_cases c1 : m ≤ a
      · rw [if_pos c1] at hk
        cases hk
        have ho : Oue n m k (pt n m false a) := .inr ⟨by omega, hb⟩
        have e := fin _ ho rfl
        refine ⟨[], by rw [List.append_nil]; exact h, by rw [List.append_nil]; exact fin2 ho, by rw [List.append_nil]; exact h1, by rw [List.append_nil, e]; exact ho, ?_⟩
        rw [List.append_nil, e]
        unfold num; rw [pb, if_neg (by omega)]; omega
      · rw [if_neg c1] at hk
        have hh := hA (n + a) (by omega)
        refine go a (n + m + a) (n + a) true (A (n + a)) (by omega) pb.symm (.inr ⟨rfl, rfl⟩) ?_ (fun _ => hh.1) hk
        unfold e0 pt
        rw [if_pos (by omega), if_pos rfl]
/-- the way ends -/
theorem wk_some (hA : Pr (n + m) A) (hH : Pr (m + k) H) {w : Nat} (hw : Oue n m k w) {j y : Nat} (h : Wl (e0 A H n m k) (prs n m (List.range m)) j y w) : ∀ (b : Bool) (a : Nat) (ps : List Bool), y = pt n m b a → (b = true → a < n + m) → y < n + 2 * m + k → ∃ r ps', wk A H n m (j + 1) b a ps = some (r, ps') := by
  induction h with
  | @stop y hy =>
    intro b a ps e ha hb
    subst e
    cases b with
    | true =>
      have pb : pt n m true a = a := rfl
      have := ha rfl
      rw [wk_t, if_pos (by unfold Oue at hw; omega)]
      exact ⟨_, _, rfl⟩
    | false =>
      have pb : pt n m false a = n + m + a := rfl
      rw [wk_f, if_pos (by unfold Oue at hw; omega)]
      exact ⟨_, _, rfl⟩
  | @step j y z w' g r ih =>
    intro b a ps e ha hb
    have ih := ih hw
    have yz : ∃ q, q < m ∧ (y = n + q ∧ z = n + m + q ∨ y = n + m + q ∧ z = n + q) := by
      rcases g with g | g
      · obtain ⟨q', hq', e⟩ := prs_mem.mp g
        exact ⟨q', List.mem_range.mp hq', .inl ⟨(Prod.mk.inj e).1, (Prod.mk.inj e).2⟩⟩
      · obtain ⟨q', hq', e⟩ := prs_mem.mp g
        exact ⟨q', List.mem_range.mp hq', .inr ⟨(Prod.mk.inj e).2, (Prod.mk.inj e).1⟩⟩
    obtain ⟨q, hq, yz⟩ := yz
    subst e
    have ez : e0 A H n m k z < n + 2 * m + k := e0_lt hA hH (by omega)
    cases b with
    | true =>
      have pb : pt n m true a = a := rfl
      have := ha rfl
      rw [wk_t, if_neg (by omega)]
      refine ih false (H (a - n)) _ ?_ (fun z => by cases z) ez
      unfold e0 pt
      rw [if_neg (by omega), if_pos (by omega), if_neg (by simp), show z - (n + m) = a - n by omega]
    | false =>
      have pb : pt n m false a = n + m + a := rfl
      rw [wk_f, if_neg (by omega)]
      have hh := hA (n + a) (by omega)
      refine ih true (A (n + a)) _ ?_ (fun _ => hh.1) ez
      unfold e0 pt
      rw [if_pos (by omega), if_pos rfl, show z = n + a by omega]
/-- all pegs outside -/
structure Md (A H : Nat → Nat) (n m k : Nat) (Q : List Nat) (ps : List Bool) : Prop where
  sd : Sd A H n m k Q ps
  cl : ∀ y, Pt (prs n m Q) y → Oue n m k (e0 A H n m k y) ∨ Pt (prs n m Q) (e0 A H n m k y)
theorem far_all (hA : Pr (n + m) A) (hH : Pr (m + k) H) {Q : List Nat} {ps : List Bool} {p c : Nat} (h : Md A H n m k Q ps) (hc : (fQ A H n m k Q).1 = c) (hp : p < n + k) : ∃ ps' R, wk A H n m (2 ^ m + 1) (wkS A H n m p).1 (wkS A H n m p).2 ps = some (num n m ((bhF A H n m k).2 (xp n m p)), ps') ∧ Md A H n m k (Q ++ R) ps' ∧ (fQ A H n m k (Q ++ R)).1 = c ∧ Oue n m k ((fQ A H n m k (Q ++ R)).2 (xp n m p)) := by
  have hx : Oue n m k (xp n m p) := by unfold Oue xp; split <;> omega
  have xl : xp n m p < n + 2 * m + k := by unfold xp; split <;> omega
  have st : pt n m (wkS A H n m p).1 (wkS A H n m p).2 = e0 A H n m k (xp n m p) := by
    by_cases c1 : p < n
    · have e1 : xp n m p = p := if_pos c1
      have e2 : wkS A H n m p = (true, A p) := if_pos c1
      rw [e1, e2]
      show A p = e0 A H n m k p
      unfold e0
      rw [if_pos (by omega)]
    · have e1 : xp n m p = p + 2 * m := if_neg c1
      have e2 : wkS A H n m p = (false, H (m + p - n)) := if_neg c1
      rw [e1, e2]
      show n + m + H (m + p - n) = e0 A H n m k (p + 2 * m)
      unfold e0
      rw [if_neg (by omega), if_pos (by omega), show p + 2 * m - (n + m) = m + p - n by omega]
  have sb : (wkS A H n m p).1 = true → (wkS A H n m p).2 < n + m := fun z => by
    unfold wkS at z ⊢
    by_cases c1 : p < n
    · rw [if_pos c1]; exact (hA p (by omega)).1
    · rw [if_neg c1] at z; cases z
  have full := fQ_way hA hH (Q := List.range m) (List.nodup_range) (fun q hq => List.mem_range.mp hq) xl (out_pt (fun q hq => List.mem_range.mp hq) hx)
  obtain ⟨j, hj, w⟩ := full
  have zo : Oue n m k ((fQ A H n m k (List.range m)).2 (xp n m p)) := by
    have iv := fQ_iv hA hH (Q := List.range m) List.nodup_range (fun q hq => List.mem_range.mp hq)
    have f0 : (fQ A H n m k (List.range m)).2 (xp n m p) ≠ xp n m p := fun z => out_pt (fun q hq => List.mem_range.mp hq) hx ((fQ_fix hA hH List.nodup_range (fun q hq => List.mem_range.mp hq) xl).mp z)
    have fl : (fQ A H n m k (List.range m)).2 (xp n m p) < n + 2 * m + k := by
      rcases Nat.lt_or_ge ((fQ A H n m k (List.range m)).2 (xp n m p)) (n + 2 * m + k) with q | q
      · exact q
      · have : (fQ A H n m k (List.range m)).2 ((fQ A H n m k (List.range m)).2 (xp n m p)) = (fQ A H n m k (List.range m)).2 (xp n m p) := by
          refine (elL_fix (s := (0, e0 A H n m k)) (prs_ok hA hH List.nodup_range (fun q hq => List.mem_range.mp hq))).mpr (.inr ?_)
          show e0 A H n m k _ = _
          unfold e0
          rw [if_neg (by omega), if_neg (by omega)]
        exact absurd (this.symm.trans (iv _)) f0
    have np : ¬ Pt (prs n m (List.range m)) ((fQ A H n m k (List.range m)).2 (xp n m p)) := fun z => f0 (((fQ_fix hA hH List.nodup_range (fun q hq => List.mem_range.mp hq) fl).mpr z).symm.trans (iv _))
    unfold Oue
    rcases Nat.lt_or_ge ((fQ A H n m k (List.range m)).2 (xp n m p)) n with q | q
    · exact .inl q
    · refine .inr ⟨?_, fl⟩
      rcases Nat.lt_or_ge ((fQ A H n m k (List.range m)).2 (xp n m p)) (n + 2 * m) with q2 | q2
      · exfalso
        apply np
        rw [pt_prs]
        rcases Nat.lt_or_ge ((fQ A H n m k (List.range m)).2 (xp n m p)) (n + m) with q3 | q3
        · exact ⟨(fQ A H n m k (List.range m)).2 (xp n m p) - n, List.mem_range.mpr (by omega), .inl (by omega)⟩
        · exact ⟨(fQ A H n m k (List.range m)).2 (xp n m p) - n - m, List.mem_range.mpr (by omega), .inr (by omega)⟩
      · exact q2
  obtain ⟨r, ps', hk⟩ := wk_some hA hH zo w _ _ ps st.symm sb (e0_lt hA hH xl)
  rw [List.length_range] at hj
  have hk : wk A H n m (2 ^ m + 1) (wkS A H n m p).1 (wkS A H n m p).2 ps = some (r, ps') := by
    have mono : ∀ f b a ps r ps', wk A H n m f b a ps = some (r, ps') → wk A H n m (f + 1) b a ps = some (r, ps') := by
      intro f
      induction f with
      | zero => intro b a ps r ps' h; cases h
      | succ f ih =>
        intro b a ps r ps' h
        cases b with
        | true =>
          rw [wk_t] at h ⊢
          split
          · rename_i c; rw [if_pos c] at h; exact h
          · rename_i c; rw [if_neg c] at h; exact ih _ _ _ _ _ h
        | false =>
          rw [wk_f] at h ⊢
          split
          · rename_i c; rw [if_pos c] at h; exact h
          · rename_i c; rw [if_neg c] at h; exact ih _ _ _ _ _ h
    have more : ∀ d, wk A H n m (j + 1 + d) (wkS A H n m p).1 (wkS A H n m p).2 ps = some (r, ps') := by
      intro d
      induction d with
      | zero => exact hk
      | succ d ih => exact mono _ _ _ _ _ _ ih
    have := more (2 ^ m - j)
    rwa [show j + 1 + (2 ^ m - j) = 2 ^ m + 1 by omega] at this
  obtain ⟨R, q1, q2, q3, q4, q5⟩ := wk_all (c := c) hA hH hx _ _ _ _ Q h.sd (by rw [st]; exact e0_lt hA hH xl) sb (by
    obtain ⟨j, _, w⟩ := fQ_way hA hH h.sd.nd h.sd.lt xl (out_pt h.sd.lt hx)
    rw [st]; exact ⟨j, w⟩) (fun y hy => by
      rcases h.cl y hy with z | z
      · exact .inl z
      · exact .inr (.inl z)) (by rw [st, e0_iv hA hH]; exact .inl hx) hc hk
  refine ⟨ps', R, ?_, ⟨q1, q2⟩, q3, q4⟩
  rw [hk, q5, fQ_full hA hH q1.nd q1.lt hx q4]
end VS
set_option Elab.async false
set_option linter.all false
set_option maxRecDepth 100000
namespace VS
variable {A H : Nat → Nat} {n m k : Nat}
/-! ### rings that no way from outside passes -/
theorem nodup_len {Q : List Nat} (nd : Q.Nodup) (hl : ∀ q ∈ Q, q < m) : Q.length ≤ m := by
  obtain ⟨R, _, _, h⟩ := nodup_full nd hl
  have := h.length_eq
  rw [List.length_append, List.length_range] at this
  omega
theorem fQ_big (hA : Pr (n + m) A) (hH : Pr (m + k) H) {Q : List Nat} (nd : Q.Nodup) (hl : ∀ q ∈ Q, q < m) {x : Nat} (hx : x < n + 2 * m + k) (hp : ¬ Pt (prs n m Q) x) : (fQ A H n m k Q).2 x < n + 2 * m + k := by
  have iv := fQ_iv hA hH nd hl
  rcases Nat.lt_or_ge ((fQ A H n m k Q).2 x) (n + 2 * m + k) with q | q
  · exact q
  · have : (fQ A H n m k Q).2 ((fQ A H n m k Q).2 x) = (fQ A H n m k Q).2 x := by
      refine (elL_fix (s := (0, e0 A H n m k)) (prs_ok hA hH nd hl)).mpr (.inr ?_)
      show e0 A H n m k _ = _
      unfold e0
      rw [if_neg (by omega), if_neg (by omega)]
    exact absurd ((fQ_fix hA hH nd hl hx).mp (this.symm.trans (iv x))) hp
structure Lp (A H : Nat → Nat) (n m k : Nat) (Q : List Nat) (s c : Nat) : Prop where
  sQ : s ∉ Q
  sm : s < m
  nd : Q.Nodup
  lt : ∀ q ∈ Q, q < m
  fc : (fQ A H n m k Q).2 (n + s) = c
  c0 : Pt (prs n m Q) (e0 A H n m k c) ∨ e0 A H n m k c = n + s
  cl : ∀ y, Pt (prs n m Q) y → Oue n m k (e0 A H n m k y) ∨ Pt (prs n m Q) (e0 A H n m k y) ∨ e0 A H n m k y = n + s ∨ e0 A H n m k y = c
  s0 : Pt (prs n m Q) (e0 A H n m k (n + s)) ∨ e0 A H n m k (n + s) = c
  no : ∀ x, Oue n m k x → Oue n m k ((fQ A H n m k Q).2 x)
theorem Lp.at (hA : Pr (n + m) A) (hH : Pr (m + k) H) {Q : List Nat} {s c : Nat} (h : Lp A H n m k Q s c) : ¬ Oue n m k c ∧ c < n + 2 * m + k ∧ c ≠ n + s ∧ ¬ Pt (prs n m Q) c := by
  have iv := fQ_iv hA hH h.nd h.lt
  have sl : n + s < n + 2 * m + k := by have := h.sm; omega
  have np : ¬ Pt (prs n m Q) (n + s) := by rw [pt_near h.lt h.sm]; exact h.sQ
  have fb := fQ_big hA hH h.nd h.lt sl np
  rw [h.fc] at fb
  have fcc : (fQ A H n m k Q).2 c = n + s := by rw [← h.fc, iv]
  refine ⟨fun o => ?_, fb, fun z => ?_, fun z => ?_⟩
  · have := h.no c o
    rw [fcc] at this
    have := h.sm
    unfold Oue at *
    omega
  · exact np ((fQ_fix hA hH h.nd h.lt sl).mp (h.fc.trans z))
  · have := (fQ_fix hA hH h.nd h.lt fb).mpr z
    rw [fcc] at this
    exact np (this ▸ z)
theorem Lp.half (hA : Pr (n + m) A) (hH : Pr (m + k) H) {Q : List Nat} {s c d q : Nat} (h : Lp A H n m k Q s c) (hcd : c = n + q ∧ d = n + m + q ∨ c = n + m + q ∧ d = n + q) (hq : q < m) (hs : q ≠ s) : q ∉ Q ∧ Lp A H n m k (Q ++ [q]) s (e0 A H n m k d) ∧ (fQ A H n m k (Q ++ [q])).1 = (fQ A H n m k Q).1 := by
  obtain ⟨a1, a2, a3, a4⟩ := h.at hA hH
  have sm := h.sm
  have iv := fQ_iv hA hH h.nd h.lt
  have ie := e0_iv hA hH
  have hin : q ∉ Q := fun z => a4 (pt_prs.mpr ⟨q, z, by rcases hcd with e | e; exact .inl e.1; exact .inr e.1⟩)
  have dl : d < n + 2 * m + k := by omega
  have dout : ¬ Oue n m k d := by unfold Oue; omega
  have dnin : ¬ Pt (prs n m Q) d := fun z => by
    rcases hcd with e | e
    · rw [e.2, pt_far h.lt hq] at z; exact hin z
    · rw [e.2, pt_near h.lt hq] at z; exact hin z
  have ynin : ¬ Pt (prs n m Q) (e0 A H n m k d) := fun z => by
    rcases h.cl _ z with o | o | o | o
    · rw [ie] at o; exact dout o
    · rw [ie] at o; exact dnin o
    · rw [ie] at o; omega
    · rw [ie] at o; omega
  obtain ⟨j, _, w⟩ := fQ_way hA hH h.nd h.lt dl dnin
  have fd : (fQ A H n m k Q).2 d = e0 A H n m k d := by
    generalize hz : (fQ A H n m k Q).2 d = z at w
    cases w with
    | stop _ => rfl
    | step g _ => exact absurd g.pt ynin
  have fcc : (fQ A H n m k Q).2 c = n + s := by rw [← h.fc, iv]
  have cd : ∀ y, y = n + q ∨ y = n + m + q ↔ y = c ∨ y = d := fun y => by omega
  have fd1 : e0 A H n m k d ≠ d := e0_ne hA hH dl
  refine ⟨hin, ⟨?_, sm, ?_, ?_, ?_, ?_, ?_, ?_, ?_⟩, ?_⟩
  · intro z
    rcases List.mem_append.mp z with z | z
    · exact h.sQ z
    · exact hs (List.mem_singleton.mp z).symm
  · rw [List.nodup_append]
    exact ⟨h.nd, by simp, fun a ha b hb e => by rw [List.mem_singleton] at hb; subst e; subst hb; exact hin ha⟩
  · intro x hx
    rcases List.mem_append.mp hx with z | z
    · exact h.lt x z
    · rw [List.mem_singleton.mp z]; exact hq
  · rw [fQ_snoc]
    rcases hcd with e | e
    · have := jn_a (a := n + q) (b := n + m + q) iv (x := n + s) (by omega) (by omega) (h.fc.trans e.1)
      rw [← e.2, fd] at this
      exact e.2 ▸ this
    · have := jn_b (a := n + q) (b := n + m + q) iv (x := n + s) (by omega) (by omega) (h.fc.trans e.1) (by rw [← e.1, fcc]; omega)
      rw [← e.2, fd] at this
      exact e.2 ▸ this
  · rw [ie]; exact .inl (pt_step.mpr (.inr ((cd d).mpr (.inr rfl))))
  · intro y hy
    rcases pt_step.mp hy with z | z
    · rcases h.cl y z with o | o | o | o
      · exact .inl o
      · exact .inr (.inl (pt_step.mpr (.inl o)))
      · exact .inr (.inr (.inl o))
      · rw [o]; exact .inr (.inl (pt_step.mpr (.inr ((cd c).mpr (.inl rfl)))))
    · rcases (cd y).mp z with z | z
      · rw [z]
        rcases h.c0 with o | o
        · exact .inr (.inl (pt_step.mpr (.inl o)))
        · exact .inr (.inr (.inl o))
      · rw [z]; exact .inr (.inr (.inr rfl))
  · rcases h.s0 with o | o
    · exact .inl (pt_step.mpr (.inl o))
    · rw [o]; exact .inl (pt_step.mpr (.inr ((cd c).mpr (.inl rfl))))
  · intro x hx
    rw [fQ_keep iv hq hx (h.no x hx)]
    exact h.no x hx
  · rw [fQ_snoc]
    show (if (fQ A H n m k Q).2 (n + q) = n + m + q then _ else _) = _
    rw [if_neg]
    intro z
    rcases hcd with e | e
    · rw [← e.1, fcc] at z; omega
    · have : (fQ A H n m k Q).2 (n + m + q) = n + q := by rw [← z, iv]
      rw [← e.1, fcc] at this; omega
/-- a ring is shut -/
theorem Lp.shut (hA : Pr (n + m) A) (hH : Pr (m + k) H) {Q : List Nat} {s : Nat} (h : Lp A H n m k Q s (n + m + s)) : (Q ++ [s]).Nodup ∧ (∀ q ∈ Q ++ [s], q < m) ∧ (fQ A H n m k (Q ++ [s])).1 = (fQ A H n m k Q).1 + 1 ∧ (∀ y, Pt (prs n m (Q ++ [s])) y → Oue n m k (e0 A H n m k y) ∨ Pt (prs n m (Q ++ [s])) (e0 A H n m k y)) ∧ ∀ x, Oue n m k x → Oue n m k ((fQ A H n m k (Q ++ [s])).2 x) := by
  have iv := fQ_iv hA hH h.nd h.lt
  refine ⟨?_, fun x hx => ?_, ?_, fun y hy => ?_, fun x hx => ?_⟩
  · rw [List.nodup_append]
    exact ⟨h.nd, by simp, fun a ha b hb e => by rw [List.mem_singleton] at hb; subst e; subst hb; exact h.sQ ha⟩
  · rcases List.mem_append.mp hx with z | z
    · exact h.lt x z
    · rw [List.mem_singleton.mp z]; exact h.sm
  · rw [fQ_snoc]
    exact if_pos h.fc
  · rcases pt_step.mp hy with z | z | z
    · rcases h.cl y z with o | o | o | o
      · exact .inl o
      · exact .inr (pt_step.mpr (.inl o))
      · rw [o]; exact .inr (pt_step.mpr (.inr (.inl rfl)))
      · rw [o]; exact .inr (pt_step.mpr (.inr (.inr rfl)))
    · rw [z]
      rcases h.s0 with o | o
      · exact .inr (pt_step.mpr (.inl o))
      · rw [o]; exact .inr (pt_step.mpr (.inr (.inr rfl)))
    · rw [z]
      rcases h.c0 with o | o
      · exact .inr (pt_step.mpr (.inl o))
      · rw [o]; exact .inr (pt_step.mpr (.inr (.inl rfl)))
  · rw [fQ_keep iv h.sm hx (h.no x hx)]
    exact h.no x hx
/-- along a loose ring -/
def lrW (A H : Nat → Nat) (n m : Nat) : Nat → Nat → List Bool → Option (List Bool)
  | 0, _, _ => none
  | f + 1, at_, ps => if bt ps at_ = true then some ps else if n ≤ A (n + at_) ∧ A (n + at_) < n + m ∧ H (A (n + at_) - n) < m then lrW A H n m f (H (A (n + at_) - n)) ((ps.set at_ true).set (A (n + at_) - n) true) else none
theorem lrW_e {A H : Nat → Nat} {n m f a : Nat} {ps : List Bool} : lrW A H n m (f + 1) a ps = if bt ps a = true then some ps else if n ≤ A (n + a) ∧ A (n + a) < n + m ∧ H (A (n + a) - n) < m then lrW A H n m f (H (A (n + a) - n)) ((ps.set a true).set (A (n + a) - n) true) else none := rfl
/-- the flags: those joined, and the first one of the ring -/
structure Fl (m : Nat) (Q : List Nat) (s : Nat) (ps : List Bool) : Prop where
  len : ps.length = m
  fl : ∀ q, bt ps q = true ↔ q ∈ Q ∨ q = s
theorem Fl.set {Q : List Nat} {s q : Nat} {ps : List Bool} (h : Fl m Q s ps) (hq : q < m) : Fl m (Q ++ [q]) s (ps.set q true) := by
  refine ⟨by rw [List.length_set, h.len], fun x => ?_⟩
  rw [bt_set (by rw [h.len]; exact hq)]
  by_cases c : x = q
  · subst c; simp
  · rw [if_neg c, h.fl]; simp [c]
theorem e0_near {a : Nat} (h : a < m) : e0 A H n m k (n + a) = A (n + a) := by
  unfold e0; rw [if_pos (by omega)]
theorem e0_far {a : Nat} (h : a < m) : e0 A H n m k (n + m + a) = n + m + H a := by
  unfold e0; rw [if_neg (by omega), if_pos (by omega), show n + m + a - (n + m) = a by omega]
theorem Lp.near (hA : Pr (n + m) A) (hH : Pr (m + k) H) {Q : List Nat} {s a : Nat} (ha : a < m) (h : Lp A H n m k Q s (e0 A H n m k (n + a))) : ∃ q, q < m ∧ q ≠ s ∧ A (n + a) = n + q ∧ e0 A H n m k (n + a) = n + q := by
  obtain ⟨a1, a2, a3, a4⟩ := h.at hA hH
  rw [e0_near ha] at a1 a2 a3 a4 ⊢
  have := (hA (n + a) (by omega)).1
  unfold Oue at a1
  exact ⟨A (n + a) - n, by omega, by omega, by omega, by omega⟩
theorem Lp.far (hA : Pr (n + m) A) (hH : Pr (m + k) H) {Q : List Nat} {s a : Nat} (ha : a < m) (h : Lp A H n m k Q s (e0 A H n m k (n + m + a))) : H a < m ∧ e0 A H n m k (n + m + a) = n + m + H a := by
  obtain ⟨a1, a2, a3, a4⟩ := h.at hA hH
  rw [e0_far ha] at a1 a2 a3 a4 ⊢
  unfold Oue at a1
  exact ⟨by omega, rfl⟩
theorem lrW_in (hA : Pr (n + m) A) (hH : Pr (m + k) H) {s : Nat} : ∀ (f a : Nat) (Q : List Nat) (ps : List Bool), Lp A H n m k Q s (n + m + a) → a < m → Fl m Q s ps → m + 1 ≤ Q.length + f → ∃ ps' R, lrW A H n m f a ps = some ps' ∧ Fl m (Q ++ R) s ps' ∧ Lp A H n m k (Q ++ R) s (n + m + s) ∧ (fQ A H n m k (Q ++ R)).1 = (fQ A H n m k Q).1
  | 0, a, Q, ps, h, ha, hf, hl => by
    have := nodup_len h.nd h.lt
    omega
  | f + 1, a, Q, ps, h, ha, hf, hl => by
    rw [lrW_e]
    by_cases c : a = s
    · subst c
      rw [if_pos ((hf.fl a).mpr (.inr rfl))]
      exact ⟨ps, [], rfl, by rw [List.append_nil]; exact hf, by rw [List.append_nil]; exact h, by rw [List.append_nil]⟩
    · obtain ⟨n1, h1, r1⟩ := h.half hA hH (d := n + a) (.inr ⟨rfl, rfl⟩) ha c
      obtain ⟨q, hq, qs, e1, e2⟩ := h1.near hA hH ha
      rw [e2] at h1
      obtain ⟨n2, h2, r2⟩ := h1.half hA hH (d := n + m + q) (.inl ⟨rfl, rfl⟩) hq qs
      obtain ⟨e3, e4⟩ := h2.far hA hH hq
      rw [e4] at h2
      have nf : ¬ bt ps a = true := fun z => by
        rcases (hf.fl a).mp z with z | z
        · exact n1 z
        · exact c z
      have e5 : A (n + a) - n = q := by omega
      rw [if_neg nf, e5, if_pos ⟨by omega, by omega, e3⟩]
      obtain ⟨ps', R, q1, q2, q3, q4⟩ := lrW_in hA hH f (H q) (Q ++ [a] ++ [q]) _ h2 e3 ((hf.set ha).set hq) (by simp only [List.length_append, List.length_singleton]; omega)
      have e : Q ++ [a] ++ [q] ++ R = Q ++ (a :: q :: R) := by simp
      rw [e] at q2 q3 q4
      exact ⟨ps', a :: q :: R, q1, q2, q3, by rw [q4, r2, r1]⟩
theorem lrW_ok (hA : Pr (n + m) A) (hH : Pr (m + k) H) {s : Nat} {Q : List Nat} {ps : List Bool} (h : Md A H n m k Q ps) (no : ∀ x, Oue n m k x → Oue n m k ((fQ A H n m k Q).2 x)) (hs : s < m) (hb : bt ps s = false) : ∃ ps' R, lrW A H n m (m + 2) s ps = some ps' ∧ Md A H n m k (Q ++ R) ps' ∧ (fQ A H n m k (Q ++ R)).1 = (fQ A H n m k Q).1 + 1 ∧ (∀ x, Oue n m k x → Oue n m k ((fQ A H n m k (Q ++ R)).2 x)) ∧ s ∈ Q ++ R := by
  have sQ : s ∉ Q := fun z => by rw [(h.sd.fl s).mpr z] at hb; cases hb
  have ie := e0_iv hA hH
  have sl : n + s < n + 2 * m + k := by omega
  have np : ¬ Pt (prs n m Q) (n + s) := by rw [pt_near h.sd.lt hs]; exact sQ
  have ynin : ¬ Pt (prs n m Q) (e0 A H n m k (n + s)) := fun z => by
    rcases h.cl _ z with o | o
    · rw [ie] at o; unfold Oue at o; omega
    · rw [ie] at o; exact np o
  have fd : (fQ A H n m k Q).2 (n + s) = e0 A H n m k (n + s) := by
    obtain ⟨j, _, w⟩ := fQ_way hA hH h.sd.nd h.sd.lt sl np
    generalize hz : (fQ A H n m k Q).2 (n + s) = z at w
    cases w with
    | stop _ => rfl
    | step g _ => exact absurd g.pt ynin
  have h0 : Lp A H n m k Q s (e0 A H n m k (n + s)) := ⟨sQ, hs, h.sd.nd, h.sd.lt, fd, .inr (ie _), fun y hy => by
    rcases h.cl y hy with z | z
    · exact .inl z
    · exact .inr (.inl z), .inr rfl, no⟩
  obtain ⟨q, hq, qs, e1, e2⟩ := h0.near hA hH hs
  rw [e2] at h0
  obtain ⟨n2, h2, r2⟩ := h0.half hA hH (d := n + m + q) (.inl ⟨rfl, rfl⟩) hq qs
  obtain ⟨e3, e4⟩ := h2.far hA hH hq
  rw [e4] at h2
  have f0 : Fl m Q s (ps.set s true) := by
    refine ⟨by rw [List.length_set, h.sd.len], fun x => ?_⟩
    rw [bt_set (by rw [h.sd.len]; exact hs)]
    by_cases c : x = s
    · subst c; simp
    · rw [if_neg c, h.sd.fl]; simp [c]
  obtain ⟨ps', R, q1, q2, q3, q4⟩ := lrW_in hA hH (m + 1) (H q) (Q ++ [q]) _ h2 e3 (f0.set hq) (by omega)
  obtain ⟨s1, s2, s3, s4, s5⟩ := q3.shut hA hH
  have e : Q ++ [q] ++ R ++ [s] = Q ++ (q :: R ++ [s]) := by simp
  rw [e] at s1 s2 s3 s4 s5
  refine ⟨ps', q :: R ++ [s], ?_, ⟨⟨s1, s2, q2.len, fun x => ?_⟩, s4⟩, by rw [s3, q4, r2], s5, by simp⟩
  · rw [show m + 2 = (m + 1) + 1 by omega, lrW_e, if_neg (by rw [hb]; simp), show A (n + s) - n = q by omega, if_pos ⟨by omega, by omega, e3⟩, q1]
  · rw [q2.fl, ← e]
    simp only [List.mem_append, List.mem_singleton]
end VS
set_option Elab.async false
set_option linter.all false
set_option maxRecDepth 100000
namespace VS
variable {A H : Nat → Nat} {n m k : Nat}
/-- rings and mates of the other one behind the one -/
def bhL (ra rh : List Nat) (n m k : Nat) : Nat × List Nat :=
  ((bhF (rowF ra) (rowF rh) n m k).1, (List.range (n + k)).map fun p => num n m ((bhF (rowF ra) (rowF rh) n m k).2 (xp n m p)))
theorem bhL_len (ra rh : List Nat) : (bhL ra rh n m k).2.length = n + k := by simp [bhL]
theorem bhL_get {ra rh : List Nat} {p : Nat} (h : p < n + k) : rowF (bhL ra rh n m k).2 p = num n m ((bhF (rowF ra) (rowF rh) n m k).2 (xp n m p)) := by
  show (List.map _ (List.range (n + k))).getD p 0 = _
  rw [List.getD_eq_getElem?_getD, List.getElem?_map, List.getElem?_range h]
  rfl
theorem bhF_out (hA : Pr (n + m) A) (hH : Pr (m + k) H) {x : Nat} (hx : Oue n m k x) : Oue n m k ((bhF A H n m k).2 x) ∧ (bhF A H n m k).2 x ≠ x ∧ (bhF A H n m k).2 ((bhF A H n m k).2 x) = x := by
  have hl : ∀ q ∈ List.range m, q < m := fun q hq => List.mem_range.mp hq
  have iv := fQ_iv hA hH List.nodup_range hl
  have xl : x < n + 2 * m + k := by unfold Oue at hx; omega
  have np := out_pt hl hx
  have f0 : (fQ A H n m k (List.range m)).2 x ≠ x := fun z => np ((fQ_fix hA hH List.nodup_range hl xl).mp z)
  have fb := fQ_big hA hH List.nodup_range hl xl np
  refine ⟨?_, f0, iv x⟩
  have np2 : ¬ Pt (prs n m (List.range m)) ((fQ A H n m k (List.range m)).2 x) := fun z => f0 (((fQ_fix hA hH List.nodup_range hl fb).mpr z).symm.trans (iv x))
  show Oue n m k ((fQ A H n m k (List.range m)).2 x)
  rw [pt_prs] at np2
  unfold Oue
  rcases Nat.lt_or_ge ((fQ A H n m k (List.range m)).2 x) n with q | q
  · exact .inl q
  · refine .inr ⟨?_, fb⟩
    rcases Nat.lt_or_ge ((fQ A H n m k (List.range m)).2 x) (n + 2 * m) with q2 | q2
    · exfalso
      apply np2
      rcases Nat.lt_or_ge ((fQ A H n m k (List.range m)).2 x) (n + m) with q3 | q3
      · exact ⟨(fQ A H n m k (List.range m)).2 x - n, List.mem_range.mpr (by omega), .inl (by omega)⟩
      · exact ⟨(fQ A H n m k (List.range m)).2 x - n - m, List.mem_range.mpr (by omega), .inr (by omega)⟩
    · exact q2
theorem xp_out {p : Nat} (h : p < n + k) : Oue n m k (xp n m p) := by unfold Oue xp; split <;> omega
theorem num_xp {z : Nat} (h : Oue n m k z) : num n m z < n + k ∧ xp n m (num n m z) = z := by
  unfold Oue at h
  by_cases c : z < n
  · have e : num n m z = z := if_pos c
    rw [e]
    exact ⟨by omega, if_pos c⟩
  · have e : num n m z = z - 2 * m := if_neg c
    rw [e]
    exact ⟨by omega, by unfold xp; rw [if_neg (by omega)]; omega⟩
theorem xp_num {p : Nat} : num n m (xp n m p) = p := by
  by_cases c : p < n
  · have e : xp n m p = p := if_pos c
    rw [e]; exact if_pos c
  · have e : xp n m p = p + 2 * m := if_neg c
    rw [e]; unfold num; rw [if_neg (by omega)]; omega
theorem bhL_pr {ra rh : List Nat} (hA : Pr (n + m) (rowF ra)) (hH : Pr (m + k) (rowF rh)) : Pr (n + k) (rowF (bhL ra rh n m k).2) := by
  intro p hp
  obtain ⟨h1, h2, h3⟩ := bhF_out hA hH (xp_out (m := m) hp)
  obtain ⟨h4, h5⟩ := num_xp h1
  rw [bhL_get hp]
  refine ⟨h4, fun z => h2 ?_, ?_⟩
  · rw [← h5, z]
  · rw [bhL_get h4, h5, h3, xp_num]
/-! ### a hook behind -/
end VS
set_option Elab.async false
set_option linter.all false
set_option maxRecDepth 100000
namespace VS
/-! ### no two cross behind one another -/
theorem NC.join0 {e : Nat → Nat} (iv : Iv e) {C : List Nat} (h : NC e C) : ∀ {a b : Nat} {R : List Nat}, C = a :: b :: R → C.Nodup → e a ≠ a → e b ≠ b → NC (jn a b e) R := by
  induction h with
  | nil => intro a b R h; cases h
  | @cons l r x y e1 e2 hn ih =>
    intro a b R h nd ha hb
    match l, h with
    | [], h =>
      obtain ⟨w1, w2⟩ := List.cons.inj h
      subst w1
      obtain ⟨w3, w4⟩ := List.cons.inj w2
      subst w3
      subst w4
      refine NC.congr (R := r) hn fun z hz => ?_
      have n1 : x ∉ y :: r := (List.nodup_cons.mp nd).1
      have n2 : y ∉ r := (List.nodup_cons.mp (List.nodup_cons.mp nd).2).1
      have z1 : z ≠ x := fun w => n1 (by rw [← w]; simp [hz])
      have z2 : z ≠ y := fun w => n2 (by rw [← w]; exact hz)
      refine jn_out iv z1 z2 (fun w => z2 ?_) (fun w => z1 ?_)
      · rw [← iv z, w, e1]
      · rw [← iv z, w, e2]
    | [a'], h =>
      obtain ⟨w1, w2⟩ := List.cons.inj h
      subst w1
      obtain ⟨w3, w4⟩ := List.cons.inj w2
      subst w3
      subst w4
      have n1 : a' ∉ x :: y :: r := (List.nodup_cons.mp nd).1
      have nd2 := (List.nodup_cons.mp nd).2
      have n2 : x ∉ y :: r := (List.nodup_cons.mp nd2).1
      have n3 : y ∉ r := (List.nodup_cons.mp (List.nodup_cons.mp nd2).2).1
      have ax : a' ≠ x := fun w => n1 (by simp [w])
      have ay : a' ≠ y := fun w => n1 (by simp [w])
      have xy : x ≠ y := fun w => n2 (by simp [w])
      have := NC.map (R := a' :: r) (g := jn a' x e) (fun z => if z = a' then y else z) hn (fun z hz => by
        have i1 := iv z; have i2 := iv a'; have i3 := iv x
        rcases List.mem_cons.mp hz with rfl | hz
        · rw [if_pos rfl, if_neg ha]
          unfold jn
          rw [if_neg (fun w => ay w.symm), if_neg (fun w => xy w.symm)]
          by_cases c : y = e z
          · rw [if_pos c, e1, ← c]
          · rw [if_neg c, if_pos e1.symm]
        · have za : z ≠ a' := fun w => n1 (by rw [← w]; simp [hz])
          have zx : z ≠ x := fun w => n2 (by rw [← w]; simp [hz])
          have zy : z ≠ y := fun w => n3 (by rw [← w]; exact hz)
          rw [if_neg za]
          unfold jn
          rw [if_neg za, if_neg zx]
          by_cases c : z = e a'
          · rw [if_pos c, e1, if_pos (by rw [c, i2])]
          · rw [if_neg c, if_neg (by rw [e1]; exact zy), if_neg (fun w => c (by rw [← w, i1]))])
      rw [List.map_cons, if_pos rfl] at this
      rw [show r.map (fun z => if z = a' then y else z) = r from by
        conv => rhs; rw [← List.map_id r]
        refine List.map_congr_left fun z hz => ?_
        rw [if_neg (fun w => n1 (by rw [← w]; simp [hz]))]; rfl] at this
      exact this
    | a' :: b' :: l', h =>
      obtain ⟨w1, w2⟩ := List.cons.inj h
      subst w1
      obtain ⟨w3, w4⟩ := List.cons.inj w2
      subst w3
      subst w4
      have nd1 : (a' :: b' :: (l' ++ r)).Nodup := by
        refine nd.sublist ?_
        refine List.Sublist.cons_cons _ (List.Sublist.cons_cons _ ?_)
        exact List.Sublist.append (List.Sublist.refl _) (List.Sublist.cons _ (List.Sublist.cons _ (List.Sublist.refl _)))
      have := ih (a := a') (b := b') (R := l' ++ r) (by simp) (by simpa using nd1) ha hb
      have nd0 : (a' :: b' :: (l' ++ x :: y :: r)).Nodup := by simpa using nd
      have n1 := (List.nodup_cons.mp nd0).1
      have n2 := (List.nodup_cons.mp (List.nodup_cons.mp nd0).2).1
      have xa : x ≠ a' := fun w => n1 (by simp [← w])
      have xb : x ≠ b' := fun w => n2 (by simp [← w])
      have ya : y ≠ a' := fun w => n1 (by simp [← w])
      have yb : y ≠ b' := fun w => n2 (by simp [← w])
      refine NC.cons (l := l') (r := r) ?_ ?_ this
      · rw [jn_out iv xa xb (by rw [e1]; exact ya) (by rw [e1]; exact yb), e1]
      · rw [jn_out iv ya yb (by rw [e2]; exact xa) (by rw [e2]; exact xb), e2]
theorem NC.join {e : Nat → Nat} (iv : Iv e) {L R : List Nat} {a b : Nat} (h : NC e (L ++ a :: b :: R)) (nd : (L ++ a :: b :: R).Nodup) (ha : e a ≠ a) (hb : e b ≠ b) : NC (jn a b e) (L ++ R) := by
  have h1 : NC e (a :: b :: (R ++ L)) := by
    have := NC.rot (l := L) (r := a :: b :: R) h
    simpa using this
  have n1 : (a :: b :: (R ++ L)).Nodup := by
    have : (L ++ a :: b :: R).Perm (a :: b :: (R ++ L)) := by
      have := List.perm_append_comm (l₁ := L) (l₂ := a :: b :: R)
      simpa using this
    exact this.nodup_iff.mp nd
  exact NC.rot (NC.join0 iv h1 rfl n1 ha hb)
/-- round about, behind j pairs -/
def circ (n m k j : Nat) : List Nat := List.range n ++ ((List.range (m - j)).reverse.map (fun i => n + j + i) ++ ((List.range (m - j)).map (fun i => n + m + j + i) ++ (List.range k).reverse.map (fun i => n + 2 * m + i)))
variable {n m k : Nat} {ra rh : List Nat}
theorem IsMat.pr {n m : Nat} {row : List Nat} (h : IsMat n m row) : Pr (n + m) (rowF row) := by
  intro p hp
  have hl := h.len
  have : row[p]? = some (rowF row p) := by
    unfold rowF
    rw [List.getD_eq_getElem?_getD, List.getElem?_eq_getElem (by omega)]; rfl
  obtain ⟨h1, h2, h3⟩ := h.lt p _ this
  refine ⟨h1, h2, ?_⟩
  show row.getD (rowF row p) 0 = p
  rw [List.getD_eq_getElem?_getD, h3]; rfl
end VS
set_option Elab.async false
set_option linter.all false
set_option maxRecDepth 100000
namespace VS
variable {n m k j : Nat} {row ra rb : List Nat}
theorem mat_of (h0 : 0 < n + m) (hl : row.length = n + m) (pr : Pr (n + m) (rowF row)) (nc : NC (rowF row) (roundL n m)) : IsMat n m row := by
  refine ⟨h0, hl, fun i x h => ?_, nc⟩
  have ge : ∀ p, p < n + m → row[p]? = some (rowF row p) := fun p hp => by
    unfold rowF
    rw [List.getD_eq_getElem?_getD, List.getElem?_eq_getElem (by rw [hl]; exact hp)]; rfl
  have hi : i < n + m := by
    have := (List.getElem?_eq_some_iff.mp h).1
    rwa [hl] at this
  obtain ⟨p1, p2, p3⟩ := pr i hi
  rw [ge i hi] at h
  have h := Option.some.inj h
  subst h
  exact ⟨p1, p2, by rw [ge _ p1, p3]⟩
/-- above and below exchanged -/
def upF (n m x : Nat) : Nat := if n ≤ x then x - n else x + m
def upsR (n m : Nat) (row : List Nat) : List Nat := (row.map (upF n m)).drop n ++ (row.map (upF n m)).take n
theorem ups_len (hl : row.length = n + m) : (upsR n m row).length = m + n := by
  unfold upsR
  rw [List.length_append, List.length_drop, List.length_take, List.length_map]; omega
theorem ups_get (hl : row.length = n + m) {p : Nat} (hp : p < m + n) : rowF (upsR n m row) p = upF n m (rowF row (if p < m then n + p else p - m)) := by
  unfold rowF upsR
  rw [List.getD_eq_getElem?_getD, List.getD_eq_getElem?_getD]
  by_cases c : p < m
  · rw [List.getElem?_append_left (by rw [List.length_drop, List.length_map]; omega), List.getElem?_drop, List.getElem?_map, if_pos c, List.getElem?_eq_getElem (by omega)]; rfl
  · rw [List.getElem?_append_right (by rw [List.length_drop, List.length_map]; omega), List.length_drop, List.length_map, List.getElem?_take, if_pos (by omega), List.getElem?_map, if_neg c, show p - (row.length - n) = p - m by omega, List.getElem?_eq_getElem (by omega)]; rfl
theorem ups_mat (h : IsMat n m row) : IsMat m n (upsR n m row) := by
  have pr := h.pr
  have hl := h.len
  refine mat_of (by have := h.pos; omega) (ups_len hl) (fun p hp => ?_) ?_
  · rw [ups_get hl hp]
    have q : (if p < m then n + p else p - m) < n + m := by split <;> omega
    obtain ⟨q1, q2, q3⟩ := pr _ q
    obtain ⟨x, hx⟩ : ∃ x, x = (if p < m then n + p else p - m) := ⟨_, rfl⟩
    rw [← hx] at q q1 q2 q3 ⊢
    obtain ⟨y, hy⟩ : ∃ y, y = rowF row x := ⟨_, rfl⟩
    rw [← hy] at q1 q2 q3 ⊢
    have yl : upF n m y < m + n := by unfold upF; split <;> omega
    have px : upF n m x = p := by rw [hx]; unfold upF; split <;> split <;> omega
    refine ⟨yl, fun z => q2 ?_, ?_⟩
    · rw [← z] at px
      unfold upF at px
      split at px <;> split at px <;> omega
    · rw [ups_get hl yl]
      have : (if upF n m y < m then n + upF n m y else upF n m y - m) = y := by unfold upF; split <;> split <;> omega
      rw [this, q3, px]
  · have c := NC.map (g := rowF (upsR n m row)) (upF n m) h.nc fun x hx => by
      have hx := mem_roundL.mp hx
      have yl : upF n m x < m + n := by unfold upF; split <;> omega
      rw [ups_get hl yl]
      have : (if upF n m x < m then n + upF n m x else upF n m x - m) = x := by unfold upF; split <;> split <;> omega
      rw [this]; rfl
    have e : ((roundL n m).map (upF n m)).reverse = roundL m n := by
      unfold roundL
      rw [List.map_append, List.reverse_append, List.map_map, ← List.map_reverse, ← List.map_reverse, List.reverse_reverse]
      congr 1
      · conv => rhs; rw [← List.map_id (List.range m)]
        refine List.map_congr_left fun t _ => ?_
        show upF n m (n + t) = t
        unfold upF
        rw [if_pos (by omega)]; omega
      · refine List.map_congr_left fun t ht => ?_
        have := List.mem_range.mp (List.mem_reverse.mp ht)
        unfold upF
        rw [if_neg (by omega)]; omega
    rw [← e]
    exact c.reverse
/-- the one on the left of the other -/
def beA (n k x : Nat) : Nat := if x < n then x else x + k
def beB (n m k x : Nat) : Nat := if x < k then x + n else x + n + m
def besR (n m k : Nat) (ra rb : List Nat) : List Nat := (ra.map (beA n k)).take n ++ (rb.map (beB n m k)).take k ++ (ra.map (beA n k)).drop n ++ (rb.map (beB n m k)).drop k
end VS
set_option Elab.async false
set_option linter.all false
namespace VS
/-! the straight one ahead; how many rings at most -/
theorem el_le (s : Nat × (Nat → Nat)) (p : Nat × Nat) : (el s p).1 ≤ s.1 + 1 := by
  unfold el
  simp only []
  split <;> omega
theorem elL_le : ∀ (L : List (Nat × Nat)) (s : Nat × (Nat → Nat)), (elL s L).1 ≤ s.1 + L.length
  | [], s => Nat.le_refl _
  | p :: L, s => by
    have := elL_le L (el s p)
    have := el_le s p
    show (elL (el s p) L).1 ≤ _
    simp only [List.length_cons]
    omega
theorem bhL_le (ra rh : List Nat) (n m k : Nat) : (bhL ra rh n m k).1 ≤ m := by
  have := elL_le (prs n m (List.range m)) (0, e0 (rowF ra) (rowF rh) n m k)
  show (elL _ _).1 ≤ m
  rw [show (prs n m (List.range m)).length = m by unfold prs; simp] at this
  omega
end VS
set_option Elab.async false
set_option linter.all false
namespace VS
/-! labels of joined ends -/
def lk (L : Nat → Nat) (p : Nat × Nat) (x : Nat) : Nat := if L x = L p.2 then L p.1 else L x
def lkL (L : Nat → Nat) (l : List (Nat × Nat)) : Nat → Nat := l.foldl lk L
/-- the strings told one by one: which ends have one label -/
structure LS (N : Nat) (e : Nat → Nat) (done : List Nat) (L : Nat → Nat) : Prop where
  iff_ : ∀ p q, p < N → q < N → (L p = L q ↔ p = q ∨ (q = e p ∧ (p ∈ done ∨ q ∈ done)))
theorem LS.step {N : Nat} {e : Nat → Nat} (hp : Pr N e) {done : List Nat} {L : Nat → Nat} (h : LS N e done L) (hd : ∀ d ∈ done, d < e d) {a : Nat} (ha : a < N) (hae : a < e a) (hn : a ∉ done) : LS N e (done ++ [a]) (lk L (a, e a)) := by
  obtain ⟨b1, b2, b3⟩ := hp a ha
  have hb : e a ∉ done := fun z => by have := hd _ z; rw [b3] at this; omega
  -- the other end is alone
  have al : ∀ p, p < N → (L p = L (e a) ↔ p = e a) := fun p hpn => by
    rw [h.iff_ p (e a) hpn b1]
    constructor
    · rintro (z | ⟨z, w⟩)
      · exact z
      · have : p = a := by rw [← b3, z, (hp p hpn).2.2]
        subst this
        rcases w with w | w
        · exact absurd w hn
        · exact absurd w hb
    · exact .inl
  have al2 : ∀ p, p < N → (L p = L a ↔ p = a) := fun p hpn => by
    rw [h.iff_ p a hpn ha]
    constructor
    · rintro (z | ⟨z, w⟩)
      · exact z
      · have : p = e a := by rw [z, (hp p hpn).2.2]
        subst this
        rcases w with w | w
        · exact absurd w hb
        · exact absurd w hn
    · exact .inl
  refine ⟨fun p q hpn hqn => ?_⟩
  unfold lk
  simp only
  have e1 := al p hpn
  have e2 := al q hqn
  have f1 := al2 p hpn
  have f2 := al2 q hqn
  have g := h.iff_ p q hpn hqn
  have ep := hp p hpn
  have eq := hp q hqn
  have mm : ∀ x, x ∈ done ++ [a] ↔ x ∈ done ∨ x = a := fun x => by simp
  rw [mm, mm]
  by_cases c1 : p = e a
  · rw [if_pos (e1.mpr c1)]
    by_cases c2 : q = e a
    · rw [if_pos (e2.mpr c2)]
      exact ⟨fun _ => .inl (by rw [c1, c2]), fun _ => rfl⟩
    · rw [if_neg (fun z => c2 (e2.mp z))]
      constructor
      · intro z
        have : q = a := f2.mp z.symm
        subst this
        exact .inr ⟨by rw [c1, b3], .inr (.inr rfl)⟩
      · rintro (z | ⟨z, w⟩)
        · exact absurd (by rw [← z, c1]) c2
        · have : q = a := by rw [z, c1, b3]
          rw [this]
  · rw [if_neg (fun z => c1 (e1.mp z))]
    by_cases c2 : q = e a
    · rw [if_pos (e2.mpr c2)]
      constructor
      · intro z
        have : p = a := f1.mp z
        subst this
        exact .inr ⟨c2, .inl (.inr rfl)⟩
      · rintro (z | ⟨z, w⟩)
        · exact absurd (by rw [z, c2]) c1
        · have : p = a := by rw [← ep.2.2, ← z, c2, b3]
          rw [this]
    · rw [if_neg (fun z => c2 (e2.mp z)), g]
      constructor
      · rintro (z | ⟨z, w | w⟩)
        · exact .inl z
        · exact .inr ⟨z, .inl (.inl w)⟩
        · exact .inr ⟨z, .inr (.inl w)⟩
      · rintro (z | ⟨z, (w | w) | (w | w)⟩)
        · exact .inl z
        · exact .inr ⟨z, .inl w⟩
        · exact absurd (by rw [z, w]) c2
        · exact .inr ⟨z, .inr w⟩
        · have : p = e a := by rw [← w, z, ep.2.2]
          exact absurd this c1
theorem LS.all {N : Nat} {e : Nat → Nat} (hp : Pr N e) : ∀ (l done : List Nat) (L : Nat → Nat), LS N e done L → (∀ d ∈ done, d < e d) → (∀ a ∈ l, a < N ∧ a < e a) → (done ++ l).Nodup → LS N e (done ++ l) (lkL L (l.map fun a => (a, e a)))
  | [], done, L, h, _, _, _ => by rw [List.append_nil]; exact h
  | a :: l, done, L, h, hd, hl, nd => by
    have na : a ∉ done := fun z => by
      rw [List.nodup_append] at nd
      exact nd.2.2 a z a (by simp) rfl
    have st := h.step hp hd (hl a (by simp)).1 (hl a (by simp)).2 na
    have := LS.all hp l (done ++ [a]) _ st (fun d hdd => by
      rcases List.mem_append.mp hdd with z | z
      · exact hd d z
      · rw [List.mem_singleton.mp z]; exact (hl a (by simp)).2) (fun x hx => hl x (by simp [hx])) (by rw [List.append_assoc]; exact nd)
    rw [List.append_assoc] at this
    exact this
/-- all strings told -/
theorem LS.full {N : Nat} {e : Nat → Nat} (hp : Pr N e) : ∀ p q, p < N → q < N → (lkL id (((List.range N).filter fun a => decide (a < e a)).map fun a => (a, e a)) p = lkL id (((List.range N).filter fun a => decide (a < e a)).map fun a => (a, e a)) q ↔ p = q ∨ q = e p) := by
  have h := LS.all hp ((List.range N).filter fun a => decide (a < e a)) [] id ⟨fun p q _ _ => by simp⟩ (by simp) (fun a ha => by
    obtain ⟨h1, h2⟩ := List.mem_filter.mp ha
    exact ⟨List.mem_range.mp h1, of_decide_eq_true h2⟩) (by rw [List.nil_append]; exact List.nodup_range.sublist List.filter_sublist)
  intro p q hpn hqn
  rw [h.iff_ p q hpn hqn]
  obtain ⟨p1, p2, p3⟩ := hp p hpn
  constructor
  · rintro (z | ⟨z, _⟩)
    · exact .inl z
    · exact .inr z
  · rintro (z | z)
    · exact .inl z
    · refine .inr ⟨z, ?_⟩
      rw [List.nil_append]
      rcases Nat.lt_or_gt_of_ne p2 with c | c
      · refine .inr (List.mem_filter.mpr ⟨List.mem_range.mpr hqn, decide_eq_true ?_⟩)
        rw [z, p3]; exact c
      · exact .inl (List.mem_filter.mpr ⟨List.mem_range.mpr hpn, decide_eq_true c⟩)
/-- the labels while ends are joined: R is of the shut rings -/
structure LJ (N : Nat) (L : Nat → Nat) (r : Nat) (e : Nat → Nat) (U : Nat → Prop) (R : List Nat) : Prop where
  iff_ : ∀ x y, x < N → y < N → U x → U y → (L x = L y ↔ x = y ∨ y = e x)
  cl : ∀ x, x < N → U x → e x < N ∧ U (e x) ∧ e x ≠ x ∧ e (e x) = x
  nd : R.Nodup
  len : R.length = r
  rg : ∀ v ∈ R, (∃ p, p < N ∧ L p = v) ∧ ∀ x, x < N → U x → L x ≠ v
  ot : ∀ p, p < N → L p ∈ R ∨ ∃ x, x < N ∧ U x ∧ L x = L p
theorem LJ.step {N : Nat} {L : Nat → Nat} {r : Nat} {e : Nat → Nat} {U : Nat → Prop} {R : List Nat} (h : LJ N L r e U R) {a b : Nat} (ha : a < N) (hb : b < N) (ua : U a) (ub : U b) (hab : a ≠ b) : ∃ R', LJ N (lk L (a, b)) (el (r, e) (a, b)).1 (el (r, e) (a, b)).2 (fun x => U x ∧ x ≠ a ∧ x ≠ b) R' := by
  obtain ⟨ca1, ca2, ca3, ca4⟩ := h.cl a ha ua
  obtain ⟨cb1, cb2, cb3, cb4⟩ := h.cl b hb ub
  have out : ∀ x, x ≠ a → x ≠ b → jn a b e x = if x = e a then e b else if x = e b then e a else e x := fun x h1 h2 => by
    unfold jn; rw [if_neg h1, if_neg h2]
  by_cases c : e a = b
  · have eb : e b = a := by rw [← c, ca4]
    have lab : L a = L b := (h.iff_ a b ha hb ua ub).mpr (.inr c.symm)
    have eL : lk L (a, b) = L := by
      funext x
      unfold lk
      by_cases z : L x = L b
      · simp only; rw [if_pos z, lab, z]
      · simp only; rw [if_neg z]
    have er : (el (r, e) (a, b)).1 = r + 1 := by unfold el; simp only; rw [if_pos c]
    have ee : ∀ x, x ≠ a → x ≠ b → (el (r, e) (a, b)).2 x = e x := fun x h1 h2 => by
      show jn a b e x = e x
      rw [out x h1 h2, c, eb, if_neg h2, if_neg h1]
    rw [eL, er]
    refine ⟨L a :: R, ?_, ?_, ?_, ?_, ?_, ?_⟩
    · rintro x y hx hy ⟨u1, u2, u3⟩ ⟨v1, _, _⟩
      rw [ee x u2 u3]
      exact h.iff_ x y hx hy u1 v1
    · rintro x hx ⟨u1, u2, u3⟩
      obtain ⟨d1, d2, d3, d4⟩ := h.cl x hx u1
      have n1 : e x ≠ a := fun z => u3 (by rw [← c, ← z, d4])
      have n2 : e x ≠ b := fun z => u2 (by rw [← eb, ← z, d4])
      rw [ee x u2 u3]
      exact ⟨d1, ⟨d2, n1, n2⟩, d3, by rw [ee _ n1 n2, d4]⟩
    · exact List.nodup_cons.mpr ⟨fun z => (h.rg _ z).2 a ha ua rfl, h.nd⟩
    · rw [List.length_cons, h.len]
    · intro v hv
      rcases List.mem_cons.mp hv with rfl | hv
      · refine ⟨⟨a, ha, rfl⟩, ?_⟩
        rintro x hx ⟨u1, u2, u3⟩ z
        rcases (h.iff_ a x ha hx ua u1).mp z.symm with w | w
        · exact u2 w.symm
        · exact u3 (by rw [w, c])
      · exact ⟨(h.rg v hv).1, fun x hx u => (h.rg v hv).2 x hx u.1⟩
    · intro p hp
      rcases h.ot p hp with z | ⟨x, hx, ux, z⟩
      · exact .inl (List.mem_cons_of_mem _ z)
      · by_cases c1 : x = a
        · exact .inl (by rw [← z, c1]; simp)
        · by_cases c2 : x = b
          · exact .inl (by rw [← z, c2, ← lab]; simp)
          · exact .inr ⟨x, hx, ⟨ux, c1, c2⟩, z⟩
  · have cb : e b ≠ a := fun z => c (by rw [← z, cb4])
    have lab : L a ≠ L b := fun z => by
      rcases (h.iff_ a b ha hb ua ub).mp z with w | w
      · exact hab w
      · exact c w.symm
    have er : (el (r, e) (a, b)).1 = r := by unfold el; simp only; rw [if_neg c]
    have eab : e a ≠ e b := fun z => hab (by rw [← ca4, z, cb4])
    have ee : ∀ x, x ≠ a → x ≠ b → (el (r, e) (a, b)).2 x = if x = e a then e b else if x = e b then e a else e x := out
    have la : ∀ x, x < N → U x → (L x = L a ↔ x = a ∨ x = e a) := fun x hx ux => by
      rw [eq_comm, h.iff_ a x ha hx ua ux]
      constructor
      · rintro (z | z)
        · exact .inl z.symm
        · exact .inr z
      · rintro (z | z)
        · exact .inl z.symm
        · exact .inr z
    have lb : ∀ x, x < N → U x → (L x = L b ↔ x = b ∨ x = e b) := fun x hx ux => by
      rw [eq_comm, h.iff_ b x hb hx ub ux]
      constructor
      · rintro (z | z)
        · exact .inl z.symm
        · exact .inr z
      · rintro (z | z)
        · exact .inl z.symm
        · exact .inr z
    rw [er]
    refine ⟨R, ?_, ?_, h.nd, h.len, ?_, ?_⟩
    · rintro x y hx hy ⟨u1, u2, u3⟩ ⟨v1, v2, v3⟩
      rw [ee x u2 u3]
      have x1 := la x hx u1
      have x2 := lb x hx u1
      have y1 := la y hy v1
      have y2 := lb y hy v1
      have xy := h.iff_ x y hx hy u1 v1
      unfold lk
      simp only
      by_cases p1 : x = e b
      · have q1 : x ≠ e a := fun z => eab (by rw [← z, p1])
        rw [if_pos (x2.mpr (.inr p1)), if_neg q1, if_pos p1]
        by_cases p2 : y = e b
        · rw [if_pos (y2.mpr (.inr p2))]
          exact ⟨fun _ => .inl (by rw [p1, p2]), fun _ => rfl⟩
        · rw [if_neg (fun z => (y2.mp z).elim v3 p2), eq_comm, y1]
          constructor
          · rintro (z | z)
            · exact absurd z v2
            · exact .inr z
          · rintro (z | z)
            · exact absurd (by rw [← z, p1]) p2
            · exact .inr z
      · rw [if_neg (fun z => (x2.mp z).elim u3 p1)]
        by_cases p2 : y = e b
        · rw [if_pos (y2.mpr (.inr p2)), x1]
          by_cases p3 : x = e a
          · rw [if_pos p3]
            exact ⟨fun _ => .inr p2, fun _ => .inr p3⟩
          · rw [if_neg p3, if_neg p1]
            constructor
            · rintro (z | z)
              · exact absurd z u2
              · exact absurd z p3
            · rintro (z | z)
              · exact absurd (by rw [z, p2]) p1
              · exfalso
                have : x = b := by rw [← (h.cl x hx u1).2.2.2, ← z, p2, cb4]
                exact u3 this
        · rw [if_neg (fun z => (y2.mp z).elim v3 p2)]
          by_cases p3 : x = e a
          · rw [if_pos p3, xy]
            constructor
            · rintro (z | z)
              · exact .inl z
              · exact absurd (by rw [z, p3, ca4]) v2
            · rintro (z | z)
              · exact .inl z
              · exact absurd z p2
          · rw [if_neg p3, if_neg p1]
            exact xy
    · rintro x hx ⟨u1, u2, u3⟩
      obtain ⟨d1, d2, d3, d4⟩ := h.cl x hx u1
      by_cases p1 : x = e a
      · have e1 : (el (r, e) (a, b)).2 x = e b := by rw [ee x u2 u3, if_pos p1]
        have n3 : e b ≠ e a := fun z => eab z.symm
        have e2 : (el (r, e) (a, b)).2 (e b) = e a := by rw [ee _ cb cb3, if_neg n3, if_pos rfl]
        rw [e1]
        exact ⟨cb1, ⟨cb2, cb, cb3⟩, fun z => n3 (by rw [z, p1]), by rw [e2, p1]⟩
      · by_cases p2 : x = e b
        · have e1 : (el (r, e) (a, b)).2 x = e a := by rw [ee x u2 u3, if_neg p1, if_pos p2]
          have e2 : (el (r, e) (a, b)).2 (e a) = e b := by rw [ee _ ca3 c, if_pos rfl]
          rw [e1]
          exact ⟨ca1, ⟨ca2, ca3, c⟩, fun z => p1 z.symm, by rw [e2, p2]⟩
        · have e1 : (el (r, e) (a, b)).2 x = e x := by rw [ee x u2 u3, if_neg p1, if_neg p2]
          have n1 : e x ≠ a := fun z => p1 (by rw [← z, d4])
          have n2 : e x ≠ b := fun z => p2 (by rw [← z, d4])
          have n3 : e x ≠ e a := fun z => u2 (by rw [← d4, z, ca4])
          have n4 : e x ≠ e b := fun z => u3 (by rw [← d4, z, cb4])
          rw [e1]
          exact ⟨d1, ⟨d2, n1, n2⟩, d3, by rw [ee _ n1 n2, if_neg n3, if_neg n4, d4]⟩
    · intro v hv
      obtain ⟨⟨p, hp, e1⟩, e2⟩ := h.rg v hv
      have va : L a ≠ v := e2 a ha ua
      have vb : L b ≠ v := e2 b hb ub
      refine ⟨⟨p, hp, ?_⟩, ?_⟩
      · unfold lk
        simp only
        rw [if_neg (by rw [e1]; exact fun z => vb z.symm), e1]
      · rintro x hx ⟨u1, _, _⟩
        unfold lk
        simp only
        split
        · exact va
        · exact e2 x hx u1
    · intro p hp
      unfold lk
      simp only
      have vis : ∀ x, x < N → U x → L x = L a ∨ L x = L b → ∃ y, y < N ∧ (U y ∧ y ≠ a ∧ y ≠ b) ∧ (if L y = L b then L a else L y) = L a := fun x hx ux hxx => by
        refine ⟨e a, ca1, ⟨ca2, ca3, c⟩, ?_⟩
        have : L (e a) = L a := (la _ ca1 ca2).mpr (.inr rfl)
        rw [this, if_neg lab]
      by_cases z : L p = L b
      · rw [if_pos z]
        exact .inr (vis b hb ub (.inr rfl))
      · rw [if_neg z]
        by_cases z2 : L p = L a
        · rw [z2]
          exact .inr (vis a ha ua (.inl rfl))
        · rcases h.ot p hp with w | ⟨x, hx, ux, w⟩
          · exact .inl w
          · refine .inr ⟨x, hx, ⟨ux, fun q => z2 (by rw [← w, q]), fun q => z (by rw [← w, q])⟩, ?_⟩
            rw [w, if_neg z]
end VS
set_option Elab.async false
set_option linter.all false
namespace VS
/-! how many mats there can be: by the words of opening and shutting -/
def wdS (f : Nat → Nat) : List Nat → List Nat → List Bool
  | _, [] => []
  | S, x :: R => match S with
    | y :: S' => if f x = y then false :: wdS f S' R else true :: wdS f (x :: y :: S') R
    | [] => true :: wdS f [x] R
def shS (f : Nat → Nat) : List Nat → List Nat → List Nat
  | S, [] => S
  | S, x :: R => match S with
    | y :: S' => if f x = y then shS f S' R else shS f (x :: y :: S') R
    | [] => shS f [x] R
def dy : Nat → Nat → List (List Bool)
  | h, 0 => if h = 0 then [[]] else []
  | 0, n + 1 => (dy 1 n).map (true :: ·)
  | h + 1, n + 1 => (dy (h + 2) n).map (true :: ·) ++ (dy h n).map (false :: ·)
theorem len_sub {α : Type} [DecidableEq α] : ∀ {xs ys : List α}, xs.Nodup → (∀ x ∈ xs, x ∈ ys) → xs.length ≤ ys.length
  | [], _, _, _ => Nat.zero_le _
  | x :: xs, ys, nd, h => by
    obtain ⟨n1, n2⟩ := List.nodup_cons.mp nd
    have hx := h x (by simp)
    have := len_sub (ys := ys.erase x) n2 fun y hy => by
      have hne : y ≠ x := fun e => n1 (by rw [← e]; exact hy)
      exact (List.mem_erase_of_ne hne).mpr (h y (by simp [hy]))
    rw [List.length_erase_of_mem hx] at this
    have : 0 < ys.length := List.length_pos_of_mem hx
    simp only [List.length_cons]
    omega
/-- the word of a mat -/
def wdM (n m : Nat) (row : List Nat) : List Bool := wdS (rowF row) [] (roundL n m)
end VS
set_option Elab.async false
set_option linter.all false
namespace VS
theorem LJ.cong {N : Nat} {L : Nat → Nat} {r : Nat} {e : Nat → Nat} {U V : Nat → Prop} {R : List Nat} (h : LJ N L r e U R) (q : ∀ x, U x ↔ V x) : LJ N L r e V R := by
  have : U = V := funext fun x => propext (q x)
  rw [← this]; exact h
theorem LJ.all {N : Nat} : ∀ (l : List (Nat × Nat)) {L : Nat → Nat} {r : Nat} {e : Nat → Nat} {U : Nat → Prop} {R : List Nat}, LJ N L r e U R → (∀ p ∈ l, p.1 < N ∧ p.2 < N ∧ U p.1 ∧ U p.2 ∧ p.1 ≠ p.2) → l.Pairwise Ap → ∃ R', LJ N (lkL L l) (elL (r, e) l).1 (elL (r, e) l).2 (fun x => U x ∧ ¬ Pt l x) R'
  | [], L, r, e, U, R, h, _, _ => ⟨R, h.cong fun x => ⟨fun u => ⟨u, fun ⟨p, hp, _⟩ => by cases hp⟩, fun u => u.1⟩⟩
  | (a, b) :: l, L, r, e, U, R, h, hl, pw => by
    obtain ⟨h1, h2, h3, h4, h5⟩ := hl (a, b) (by simp)
    obtain ⟨R1, s⟩ := h.step h1 h2 h3 h4 h5
    obtain ⟨p1, p2⟩ := List.pairwise_cons.mp pw
    obtain ⟨R2, t⟩ := LJ.all l (L := lk L (a, b)) (r := (el (r, e) (a, b)).1) (e := (el (r, e) (a, b)).2) s (fun p hp => by
      obtain ⟨g1, g2, g3, g4, g5⟩ := hl p (by simp [hp])
      have ap := p1 p hp
      unfold Ap at ap
      simp only at ap
      refine ⟨g1, g2, ⟨g3, ?_, ?_⟩, ⟨g4, ?_, ?_⟩, g5⟩ <;> intro z <;> simp [z] at ap) p2
    refine ⟨R2, ?_⟩
    show LJ N (lkL (lk L (a, b)) l) (elL (el (r, e) (a, b)) l).1 (elL (el (r, e) (a, b)) l).2 _ R2
    refine t.cong fun x => ?_
    unfold Pt
    constructor
    · rintro ⟨⟨u, n1, n2⟩, n3⟩
      refine ⟨u, ?_⟩
      rintro ⟨p, hp, z⟩
      rcases List.mem_cons.mp hp with rfl | hp
      · rcases z with z | z
        · exact n1 z
        · exact n2 z
      · exact n3 ⟨p, hp, z⟩
    · rintro ⟨u, n⟩
      exact ⟨⟨u, fun z => n ⟨(a, b), by simp, .inl z⟩, fun z => n ⟨(a, b), by simp, .inr z⟩⟩, fun ⟨p, hp, z⟩ => n ⟨p, by simp [hp], z⟩⟩
theorem LJ.start {N : Nat} {e : Nat → Nat} (hp : Pr N e) : LJ N (lkL id (((List.range N).filter fun a => decide (a < e a)).map fun a => (a, e a))) 0 e (fun _ => True) [] :=
  ⟨fun x y hx hy _ _ => LS.full hp x y hx hy, fun x hx _ => ⟨(hp x hx).1, trivial, (hp x hx).2.1, (hp x hx).2.2⟩, .nil, rfl, (fun v hv => by cases hv), fun p hpn => .inr ⟨p, hpn, trivial, rfl⟩⟩
theorem len_same {α : Type} [DecidableEq α] {xs ys : List α} (h1 : xs.Nodup) (h2 : ys.Nodup) (h : ∀ v, v ∈ xs ↔ v ∈ ys) : xs.length = ys.length :=
  Nat.le_antisymm (len_sub h1 fun x hx => (h x).mp hx) (len_sub h2 fun x hx => (h x).mpr hx)
/-- how many labels there are: those of the rings and those of the unjoined -/
theorem LJ.count {N : Nat} {L : Nat → Nat} {r : Nat} {e : Nat → Nat} {U : Nat → Prop} {R : List Nat} (h : LJ N L r e U R) {K : List Nat} (hK : ∀ x, x ∈ K ↔ x < N ∧ U x) {l1 l2 : List Int} (n1 : l1.Nodup) (n2 : l2.Nodup) (m1 : ∀ v, v ∈ l1 ↔ v ∈ (List.range N).map fun p => ((L p : Nat) : Int)) (m2 : ∀ v, v ∈ l2 ↔ v ∈ K.map fun p => ((L p : Nat) : Int)) : l1.length = l2.length + r := by
  have nd : (R.map fun v : Nat => (v : Int)).Nodup := by
    unfold List.Nodup
    rw [List.pairwise_map]
    exact h.nd.imp fun {a b} hab z => hab (by omega)
  have key := len_same n1 (ys := l2 ++ R.map fun v : Nat => (v : Int)) (by
    rw [List.nodup_append]
    refine ⟨n2, nd, fun v hv w hw z => ?_⟩
    subst z
    obtain ⟨x, hx, e1⟩ := List.mem_map.mp ((m2 v).mp hv)
    obtain ⟨y, hy, e2⟩ := List.mem_map.mp hw
    obtain ⟨xN, ux⟩ := (hK x).mp hx
    exact (h.rg y hy).2 x xN ux (by omega)) (fun v => by
    rw [m1, List.mem_append, m2]
    constructor
    · intro hv
      obtain ⟨p, hp, rfl⟩ := List.mem_map.mp hv
      have hp := List.mem_range.mp hp
      rcases h.ot p hp with z | ⟨x, hx, ux, z⟩
      · exact .inr (List.mem_map.mpr ⟨_, z, rfl⟩)
      · exact .inl (List.mem_map.mpr ⟨x, (hK x).mpr ⟨hx, ux⟩, by rw [z]⟩)
    · rintro (hv | hv)
      · obtain ⟨x, hx, rfl⟩ := List.mem_map.mp hv
        exact List.mem_map.mpr ⟨x, List.mem_range.mpr ((hK x).mp hx).1, rfl⟩
      · obtain ⟨v', hv', rfl⟩ := List.mem_map.mp hv
        obtain ⟨⟨p, hp, z⟩, _⟩ := h.rg v' hv'
        exact List.mem_map.mpr ⟨p, List.mem_range.mpr hp, by rw [z]⟩)
  rw [key, List.length_append, List.length_map, h.len]
/-- a mat closed at its last pegs, k above and below -/
def prsC (n lo k : Nat) : List (Nat × Nat) := (List.range k).map fun i => (lo + i, n + (lo + i))
end VS
set_option Elab.async false
set_option linter.all false
namespace VS
/-- the ends of a mat's strings, all other points being their own -/
def eR (N : Nat) (row : List Nat) (x : Nat) : Nat := if x < N then rowF row x else x
def clS (n : Nat) (row : List Nat) (lo k : Nat) : Nat × (Nat → Nat) := elL (0, eR (n + n) row) (prsC n lo k)
def Qs (n k : Nat) : List Nat := (List.range k).flatMap fun p => [p, n + p]
end VS
set_option Elab.async false
set_option linter.all false
namespace VS
/-! a mat partly closed -/
def crc (n l : Nat) : List Nat := List.range l ++ (List.range l).reverse.map (n + ·)
def prsD (n k : Nat) : List (Nat × Nat) := (List.range k).map fun i => (n - 1 - i, n + (n - 1 - i))
end VS
set_option Elab.async false
set_option linter.all false
namespace VS
def xq (n l i : Nat) : Nat := if i < l then i else n + (i - l)
def rn (n l y : Nat) : Nat := if y < n then y else y - (n - l)
/-- the mat with the last pegs closed, l being left -/
def cutR (n : Nat) (row : List Nat) (l : Nat) : List Nat := (List.range (l + l)).map fun i => rn n l ((clS n row l (n - l)).2 (xq n l i))
end VS
set_option Elab.async false
set_option linter.all false
namespace VS
end VS
set_option Elab.async false
set_option linter.all false
set_option maxRecDepth 100000
namespace VS
/-! ### how long a walk through two mats can be -/
variable {A H : Nat → Nat} {n m k : Nat}
theorem wk_more : ∀ (f g : Nat) (b : Bool) (a : Nat) (ps : List Bool) (v : Nat × List Bool), wk A H n m f b a ps = some v → f ≤ g → wk A H n m g b a ps = some v
  | 0, g, b, a, ps, v, h, _ => by cases h
  | f + 1, g, b, a, ps, v, h, hg => by
    obtain ⟨g, rfl⟩ : ∃ g', g = g' + 1 := ⟨g - 1, by omega⟩
    cases b with
    | true =>
      rw [wk_t] at h ⊢
      by_cases c : a < n
      · rw [if_pos c] at h ⊢; exact h
      · rw [if_neg c] at h ⊢; exact wk_more f g _ _ _ v h (by omega)
    | false =>
      have e : ∀ f, wk A H n m (f + 1) false a ps = if m ≤ a then some (n + a - m, ps) else wk A H n m f true (A (n + a)) (ps.set a true) := fun _ => rfl
      rw [e] at h ⊢
      by_cases c : m ≤ a
      · rw [if_pos c] at h ⊢; exact h
      · rw [if_neg c] at h ⊢; exact wk_more f g _ _ _ v h (by omega)
theorem Wl.det {e : Nat → Nat} {L : List (Nat × Nat)} (u : ∀ y z z', Glu L y z → Glu L y z' → z = z') : ∀ {j y w : Nat}, Wl e L j y w → ∀ {i w' : Nat}, Wl e L i y w' → i = j := by
  intro j y w h
  induction h with
  | stop hy =>
    intro i w' h'
    cases h' with
    | stop _ => rfl
    | step g _ => exact absurd g.pt hy
  | @step k y z w g h ih =>
    intro i w' h'
    cases h' with
    | stop hy => exact absurd g.pt hy
    | step g' h2 =>
      have := u _ _ _ g g'
      subst this
      rw [ih h2]
theorem Wl.trace {e : Nat → Nat} {L : List (Nat × Nat)} (u : ∀ y z z', Glu L y z → Glu L y z' → z = z') : ∀ {j y w : Nat}, Wl e L j y w → ∃ tr : List Nat, tr.length = j ∧ tr.Nodup ∧ ∀ z ∈ tr, Pt L z ∧ ∃ i v, i ≤ j ∧ Wl e L i z v := by
  intro j y w h
  induction h with
  | stop hy => exact ⟨[], rfl, List.nodup_nil, fun z hz => by cases hz⟩
  | @step k y z w g h ih =>
    obtain ⟨tr, h1, h2, h3⟩ := ih
    refine ⟨y :: tr, by rw [List.length_cons, h1], List.nodup_cons.mpr ⟨fun hy => ?_, h2⟩, fun x hx => ?_⟩
    · obtain ⟨_, i, v, hi, hw⟩ := h3 y hy
      have := Wl.det u (Wl.step g h) hw
      omega
    · rcases List.mem_cons.mp hx with rfl | hx
      · exact ⟨g.pt, k + 1, w, Nat.le_refl _, .step g h⟩
      · obtain ⟨a, i, v, hi, hw⟩ := h3 x hx
        exact ⟨a, i, v, by omega, hw⟩
theorem prs_uni {Q : List Nat} (hl : ∀ q ∈ Q, q < m) (y z z' : Nat) (h : Glu (prs n m Q) y z) (h' : Glu (prs n m Q) y z') : z = z' := by
  unfold Glu at h h'
  simp only [prs_mem, Prod.mk.injEq] at h h'
  rcases h with ⟨q, hq, e1, e2⟩ | ⟨q, hq, e1, e2⟩ <;> rcases h' with ⟨p, hp, e3, e4⟩ | ⟨p, hp, e3, e4⟩ <;> · have := hl q hq; have := hl p hp; omega
theorem Wl.short {e : Nat → Nat} {j y w : Nat} (h : Wl e (prs n m (List.range m)) j y w) : j ≤ 2 * m := by
  obtain ⟨tr, h1, h2, h3⟩ := Wl.trace (prs_uni fun q hq => List.mem_range.mp hq) h
  have h4 : ∀ x ∈ tr.map (fun x => x - n), x < 2 * m := by
    intro x hx
    obtain ⟨z, hz, rfl⟩ := List.mem_map.mp hx
    obtain ⟨q, hq, r⟩ := pt_prs.mp (h3 z hz).1
    have := List.mem_range.mp hq
    omega
  have h5 : (tr.map fun x => x - n).Nodup := by
    unfold List.Nodup
    rw [List.pairwise_map]
    refine List.Pairwise.imp_of_mem ?_ h2
    intro a b ha hb hab
    obtain ⟨q, hq, r⟩ := pt_prs.mp (h3 a ha).1
    obtain ⟨p, hp, s⟩ := pt_prs.mp (h3 b hb).1
    omega
  have := nodup_len h5 h4
  rw [List.length_map, h1] at this
  exact this
theorem st_e0 {p : Nat} (hp : p < n + k) : pt n m (wkS A H n m p).1 (wkS A H n m p).2 = e0 A H n m k (xp n m p) := by
  by_cases c1 : p < n
  · have e1 : xp n m p = p := if_pos c1
    have e2 : wkS A H n m p = (true, A p) := if_pos c1
    rw [e1, e2]
    show A p = e0 A H n m k p
    unfold e0
    rw [if_pos (by omega)]
  · have e1 : xp n m p = p + 2 * m := if_neg c1
    have e2 : wkS A H n m p = (false, H (m + p - n)) := if_neg c1
    rw [e1, e2]
    show n + m + H (m + p - n) = e0 A H n m k (p + 2 * m)
    unfold e0
    rw [if_neg (by omega), if_pos (by omega), show p + 2 * m - (n + m) = m + p - n by omega]
/-- 2 m + 1 looks are enough -/
theorem wk_2m (hA : Pr (n + m) A) (hH : Pr (m + k) H) {p : Nat} {ps : List Bool} {v : Nat × List Bool} (hp : p < n + k) (h : wk A H n m (2 ^ m + 1) (wkS A H n m p).1 (wkS A H n m p).2 ps = some v) : wk A H n m (2 * m + 1) (wkS A H n m p).1 (wkS A H n m p).2 ps = some v := by
  have hx : Oue n m k (xp n m p) := xp_out hp
  have xl : xp n m p < n + 2 * m + k := by unfold xp; split <;> omega
  have sb : (wkS A H n m p).1 = true → (wkS A H n m p).2 < n + m := fun z => by
    unfold wkS at z ⊢
    by_cases c1 : p < n
    · rw [if_pos c1]; exact (hA p (by omega)).1
    · rw [if_neg c1] at z; cases z
  obtain ⟨j, hj, w⟩ := fQ_way hA hH (Q := List.range m) (List.nodup_range) (fun q hq => List.mem_range.mp hq) xl (out_pt (fun q hq => List.mem_range.mp hq) hx)
  have zo : Oue n m k ((fQ A H n m k (List.range m)).2 (xp n m p)) := (bhF_out hA hH hx).1
  obtain ⟨r, ps', hk⟩ := wk_some hA hH zo w _ _ ps (st_e0 hp).symm sb (e0_lt hA hH xl)
  have hs := w.short
  have e1 := wk_more _ (2 ^ m + 1 + (2 * m + 1)) _ _ _ _ h (by omega)
  have e2 := wk_more _ (2 ^ m + 1 + (2 * m + 1)) _ _ _ _ hk (by generalize 2 ^ m = t; omega)
  rw [e1] at e2
  cases e2
  exact wk_more _ _ _ _ _ _ hk (by omega)
/-! ### a ring's marks in so many steps -/
def cF (ps : List Bool) : Nat := ps.count false
theorem cF_le (ps : List Bool) : cF ps ≤ ps.length := List.count_le_length
theorem cF_set {ps : List Bool} (q : Nat) : cF (ps.set q true) ≤ cF ps := by
  unfold cF
  by_cases h : q < ps.length
  · rw [List.count_set h]
    simp
  · rw [List.set_eq_of_length_le (by omega)]
    exact Nat.le_refl _
theorem cF_setF {ps : List Bool} {q : Nat} (h : q < ps.length) (hb : bt ps q = false) : cF (ps.set q true) + 1 ≤ cF ps := by
  have h0 : ps[q] = false := by
    unfold bt at hb
    simpa [List.getD_eq_getElem?_getD, h] using hb
  have hm : 0 < ps.count false := List.count_pos_iff.mpr (h0 ▸ List.getElem_mem h)
  unfold cF
  rw [List.count_set h, h0]
  simp
  omega
end VS
set_option Elab.async false
set_option linter.all false
set_option maxRecDepth 100000
namespace VS
/-! ### the same joining under other names -/
structure Rlb (S : Nat → Prop) (φ : Nat → Nat) (e e' : Nat → Nat) : Prop where
  inj : ∀ x y, S x → S y → φ x = φ y → x = y
  cl : ∀ x, S x → S (e x)
  at_ : ∀ x, S x → e' (φ x) = φ (e x)
def mapP2 (φ : Nat → Nat) (L : List (Nat × Nat)) : List (Nat × Nat) := L.map fun p => (φ p.1, φ p.2)
theorem jn_rlb {S : Nat → Prop} {φ e e' : Nat → Nat} {a b : Nat} (h : Rlb S φ e e') (ha : S a) (hb : S b) : Rlb S φ (jn a b e) (jn (φ a) (φ b) e') := by
  refine ⟨h.inj, fun x hx => ?_, fun x hx => ?_⟩
  · unfold jn
    split
    · exact ha
    · split
      · exact hb
      · split
        · exact h.cl b hb
        · split
          · exact h.cl a ha
          · exact h.cl x hx
  · have i1 : φ x = φ a ↔ x = a := ⟨h.inj x a hx ha, fun z => by rw [z]⟩
    have i2 : φ x = φ b ↔ x = b := ⟨h.inj x b hx hb, fun z => by rw [z]⟩
    have i3 : φ x = φ (e a) ↔ x = e a := ⟨h.inj x _ hx (h.cl a ha), fun z => by rw [z]⟩
    have i4 : φ x = φ (e b) ↔ x = e b := ⟨h.inj x _ hx (h.cl b hb), fun z => by rw [z]⟩
    unfold jn
    rw [h.at_ a ha, h.at_ b hb, h.at_ x hx]
    simp only [i1, i2, i3, i4]
    split
    · rfl
    · split
      · rfl
      · split
        · rfl
        · split <;> rfl
theorem elL_rlb {S : Nat → Prop} {φ : Nat → Nat} : ∀ (L : List (Nat × Nat)) (r : Nat) (e e' : Nat → Nat), Rlb S φ e e' → (∀ p ∈ L, S p.1 ∧ S p.2) → (elL (r, e') (mapP2 φ L)).1 = (elL (r, e) L).1 ∧ (∀ x, S x → (elL (r, e') (mapP2 φ L)).2 (φ x) = φ ((elL (r, e) L).2 x)) ∧ ∀ z, (∀ x, S x → z ≠ φ x) → (elL (r, e') (mapP2 φ L)).2 z = e' z
  | [], r, e, e', h, _ => ⟨rfl, fun x hx => h.at_ x hx, fun z _ => rfl⟩
  | p :: L, r, e, e', h, hp => by
    obtain ⟨h1, h2⟩ := hp p (by simp)
    have j := jn_rlb h h1 h2
    have e1 : el (r, e') (φ p.1, φ p.2) = ((el (r, e) p).1, jn (φ p.1) (φ p.2) e') := by
      refine Prod.ext ?_ rfl
      show (if e' (φ p.1) = φ p.2 then r + 1 else r) = if e p.1 = p.2 then r + 1 else r
      rw [h.at_ _ h1]
      by_cases c : e p.1 = p.2
      · rw [if_pos c, if_pos (by rw [c])]
      · rw [if_neg c, if_neg fun z => c (h.inj _ _ (h.cl _ h1) h2 z)]
    have e2 : el (r, e) p = ((el (r, e) p).1, jn p.1 p.2 e) := rfl
    obtain ⟨q1, q2, q3⟩ := elL_rlb L (el (r, e) p).1 _ _ j fun q hq => hp q (by simp [hq])
    have t1 : elL (r, e') (mapP2 φ (p :: L)) = elL ((el (r, e) p).1, jn (φ p.1) (φ p.2) e') (mapP2 φ L) := by
      show elL (el (r, e') (φ p.1, φ p.2)) (mapP2 φ L) = _
      rw [e1]
    have t2 : elL (r, e) (p :: L) = elL ((el (r, e) p).1, jn p.1 p.2 e) L := rfl
    rw [t1, t2]
    refine ⟨q1, q2, fun z hz => ?_⟩
    rw [q3 z hz]
    unfold jn
    rw [if_neg (hz _ h1), if_neg (hz _ h2), h.at_ _ h1, h.at_ _ h2, if_neg (hz _ (h.cl _ h1)), if_neg (hz _ (h.cl _ h2))]
/-! ### three mats behind one another, either way -/
section
variable {n m k j : Nat} {ra rb rc : List Nat}
/-- the strings of all three -/
def e3 (ra rb rc : List Nat) (n m k j : Nat) (x : Nat) : Nat := if x < n + 2 * m + k then e0 (rowF ra) (rowF rb) n m k x else if x < n + 2 * m + 2 * k + j then n + 2 * m + k + rowF rc (x - (n + 2 * m + k)) else x
def P1 (n m : Nat) : List (Nat × Nat) := prs n m (List.range m)
def P2 (n m k : Nat) : List (Nat × Nat) := prs (n + 2 * m) k (List.range k)
end
end VS
set_option Elab.async false
set_option linter.all false
namespace VS
/-! ### mats of one size in a row, joined round -/
/-- the mates in a row of mats with N pegs each -/
def eL (N : Nat) : List (List Nat) → Nat → Nat
  | [], x => x
  | r :: rs, x => if x < N then rowF r x else N + eL N rs (x - N)
def blk (n o : Nat) : List (Nat × Nat) := (List.range n).map fun p => (o + n + p, o + (n + n) + p)
def clo (n o : Nat) : List (Nat × Nat) := (List.range n).map fun p => (o + n + p, p)
def jC (n : Nat) : Nat → Nat → List (Nat × Nat)
  | _, 0 => []
  | o, k + 1 => blk n o ++ jC n (o + (n + n)) k
def jM (n u : Nat) : List (Nat × Nat) := jC n 0 u ++ clo n (u * (n + n))
/-- the rings of a row of mats, joined round -/
def rowM (n : Nat) (rs : List (List Nat)) : Nat := (elL (0, eL (n + n) rs) (jM n (rs.length - 1))).1
def PrL (N : Nat) (rs : List (List Nat)) : Prop := ∀ r ∈ rs, Pr N (rowF r)
theorem PrL.head {N : Nat} {r : List Nat} {rs : List (List Nat)} (h : PrL N (r :: rs)) : Pr N (rowF r) := h r (List.mem_cons_self ..)
theorem PrL.tail {N : Nat} {r : List Nat} {rs : List (List Nat)} (h : PrL N (r :: rs)) : PrL N rs := fun x hx => h x (List.mem_cons_of_mem _ hx)
/-! pairs turned about -/
theorem jn_swap {a b : Nat} {e : Nat → Nat} (h : Iv e) (hab : a ≠ b) : jn b a e = jn a b e := by
  funext x
  unfold jn
  by_cases c1 : x = a
  · subst c1
    rw [if_neg hab, if_pos rfl, if_pos rfl]
  · by_cases c2 : x = b
    · subst c2
      rw [if_pos rfl, if_neg c1, if_pos rfl]
    · rw [if_neg c2, if_neg c1, if_neg c1, if_neg c2]
      by_cases c3 : x = e a
      · by_cases c4 : x = e b
        · have : e (e a) = e (e b) := by rw [← c3, ← c4]
          rw [h a, h b] at this
          exact absurd this hab
        · rw [if_neg c4, if_pos c3, if_pos c3]
      · rw [if_neg c3]
        by_cases c4 : x = e b
        · rw [if_pos c4, if_neg c3]
        · rw [if_neg c4, if_neg c3]
theorem el_swap {a b r : Nat} {e : Nat → Nat} (h : Iv e) (hab : a ≠ b) : el (r, e) (b, a) = el (r, e) (a, b) := by
  unfold el
  rw [jn_swap h hab]
  have : (e b = a) ↔ (e a = b) := ⟨fun q => by rw [← q, h], fun q => by rw [← q, h]⟩
  simp only [this]
theorem elL_swap : ∀ (L : List (Nat × Nat)) (r : Nat) (e : Nat → Nat), OkL e L → elL (r, e) (L.map fun p => (p.2, p.1)) = elL (r, e) L
  | [], r, e, _ => rfl
  | p :: L, r, e, h => by
    show elL (el (r, e) (p.2, p.1)) _ = elL (el (r, e) p) L
    rw [el_swap h.iv (h.own p (List.mem_cons_self ..)).1]
    exact elL_swap L _ _ h.tail
end VS
set_option Elab.async false
set_option linter.all false
set_option maxRecDepth 100000
namespace VS
/-! ### one mat behind another, upside down -/
def fU (n m k x : Nat) : Nat := if x < n then x + k + 2 * m else if x < n + m then x - n + k + m else if x < n + 2 * m then x - n - m + k else x - n - 2 * m
theorem fU_xp {n m k p : Nat} (h : p < k + n) : fU n m k (xp n m (if p < k then n + p else p - k)) = xp k m p := by
  by_cases c : p < k
  · have e1 : xp n m (n + p) = n + p + 2 * m := if_neg (by omega)
    have e2 : xp k m p = p := if_pos c
    rw [if_pos c, e1, e2]
    unfold fU
    rw [if_neg (by omega), if_neg (by omega), if_neg (by omega)]; omega
  · have e1 : xp n m (p - k) = p - k := if_pos (by omega)
    have e2 : xp k m p = p + 2 * m := if_neg c
    rw [if_neg c, e1, e2]
    unfold fU
    rw [if_pos (by omega)]; omega
theorem fU_num {n m k z : Nat} (h : Oue n m k z) : num k m (fU n m k z) = upF n k (num n m z) := by
  rcases h with c | ⟨c1, c2⟩
  · have e1 : num n m z = z := if_pos c
    have e2 : fU n m k z = z + k + 2 * m := if_pos c
    rw [e1, e2]
    unfold num upF
    rw [if_neg (by omega), if_neg (by omega)]; omega
  · have e1 : num n m z = z - 2 * m := if_neg (by omega)
    have e2 : fU n m k z = z - n - 2 * m := by unfold fU; rw [if_neg (by omega), if_neg (by omega), if_neg (by omega)]
    rw [e1, e2]
    unfold num upF
    rw [if_pos (by omega), if_pos (by omega)]; omega
theorem row_eq {a b : List Nat} (hl : a.length = b.length) (h : ∀ p, p < a.length → rowF a p = rowF b p) : a = b := by
  refine List.ext_getElem hl fun i h1 h2 => ?_
  have := h i h1
  unfold rowF at this
  rw [List.getD_eq_getElem?_getD, List.getD_eq_getElem?_getD, List.getElem?_eq_getElem h1, List.getElem?_eq_getElem h2] at this
  exact this
theorem bh_ups {n m k : Nat} {ra rh : List Nat} (ha : ra.length = n + m) (hh : rh.length = m + k) (hA : Pr (n + m) (rowF ra)) (hH : Pr (m + k) (rowF rh)) (hA' : Pr (k + m) (rowF (upsR m k rh))) (hH' : Pr (m + n) (rowF (upsR n m ra))) : bhL (upsR m k rh) (upsR n m ra) k m n = ((bhL ra rh n m k).1, upsR n k (bhL ra rh n m k).2) := by
  have rl : Rlb (fun x => x < n + 2 * m + k) (fU n m k) (e0 (rowF ra) (rowF rh) n m k) (e0 (rowF (upsR m k rh)) (rowF (upsR n m ra)) k m n) := by
    refine ⟨fun x y hx hy e => ?_, fun x hx => e0_lt hA hH hx, fun x hx => ?_⟩
    · unfold fU at e
      split at e <;> split at e <;> (try split at e) <;> (try split at e) <;> (try split at e) <;> (try split at e) <;> omega
    · skip
      have up1 : ∀ q, q < n + m → k + m + upF n m (rowF ra q) = fU n m k (rowF ra q) := fun q hq => by
        have := (hA q hq).1
        unfold upF fU
        by_cases c : n ≤ rowF ra q
        · rw [if_pos c, if_neg (by omega), if_pos (by omega)]; omega
        · rw [if_neg c, if_pos (by omega)]; omega
      have up2 : ∀ q, q < m + k → upF m k (rowF rh q) = fU n m k (n + m + rowF rh q) := fun q hq => by
        have := (hH q hq).1
        unfold upF fU
        by_cases c : m ≤ rowF rh q
        · rw [if_pos c, if_neg (by omega), if_neg (by omega), if_neg (by omega)]; omega
        · rw [if_neg c, if_neg (by omega), if_neg (by omega), if_pos (by omega)]; omega
      by_cases c1 : x < n
      · have e1 : fU n m k x = x + k + 2 * m := if_pos c1
        rw [e1]
        unfold e0
        rw [if_neg (by omega), if_pos (by omega), if_pos (by omega), ups_get ha (by omega), if_neg (by omega), show x + k + 2 * m - (k + m) - m = x by omega]
        exact up1 x (by omega)
      · by_cases c2 : x < n + m
        · have e1 : fU n m k x = x - n + k + m := by unfold fU; rw [if_neg c1, if_pos c2]
          rw [e1]
          unfold e0
          rw [if_neg (by omega), if_pos (by omega), if_pos (by omega), ups_get ha (by omega), if_pos (by omega), show n + (x - n + k + m - (k + m)) = x by omega]
          exact up1 x (by omega)
        · by_cases c3 : x < n + 2 * m
          · have e1 : fU n m k x = x - n - m + k := by unfold fU; rw [if_neg c1, if_neg c2, if_pos c3]
            rw [e1]
            unfold e0
            rw [if_pos (by omega), if_neg (by omega), if_pos (by omega), ups_get hh (by omega), if_neg (by omega), show x - n - m + k - k = x - (n + m) by omega]
            exact up2 _ (by omega)
          · have e1 : fU n m k x = x - n - 2 * m := by unfold fU; rw [if_neg c1, if_neg c2, if_neg c3]
            rw [e1]
            unfold e0
            rw [if_pos (by omega), if_neg (by omega), if_pos (by omega), ups_get hh (by omega), if_pos (by omega), show m + (x - n - 2 * m) = x - (n + m) by omega]
            exact up2 _ (by omega)
  have mp : mapP2 (fU n m k) (prs n m (List.range m)) = (prs k m (List.range m)).map fun p => (p.2, p.1) := by
    unfold mapP2 prs
    rw [List.map_map, List.map_map]
    refine List.map_congr_left fun q hq => ?_
    have := List.mem_range.mp hq
    show (fU n m k (n + q), fU n m k (n + m + q)) = (k + m + q, k + q)
    unfold fU
    rw [if_neg (by omega), if_pos (by omega), if_neg (by omega), if_neg (by omega), if_pos (by omega)]
    congr 1 <;> omega
  obtain ⟨q1, q2, _⟩ := elL_rlb (prs n m (List.range m)) 0 _ _ rl (fun p hp => by
    obtain ⟨q, hq, rfl⟩ := prs_mem.mp hp
    have := List.mem_range.mp hq
    simp only
    omega)
  rw [mp, elL_swap _ 0 _ (prs_ok hA' hH' List.nodup_range fun q hq => List.mem_range.mp hq)] at q1 q2
  refine Prod.ext q1 ?_
  have l1 : (bhL ra rh n m k).2.length = n + k := bhL_len ra rh
  refine row_eq (by rw [bhL_len]; exact (ups_len l1).symm) fun p hp => ?_
  rw [bhL_len] at hp
  rw [bhL_get hp, ups_get l1 hp]
  have hi : (if p < k then n + p else p - k) < n + k := by split <;> omega
  rw [bhL_get hi]
  have ho := bhF_out hA hH (xp_out (n := n) (m := m) (k := k) hi)
  rw [← fU_num ho.1, ← fU_xp hp]
  have lt : xp n m (if p < k then n + p else p - k) < n + 2 * m + k := by
    rcases xp_out (n := n) (m := m) (k := k) hi with h | h <;> omega
  exact congrArg (num k m) (q2 _ lt)
end VS
set_option Elab.async false
set_option linter.all false
set_option maxRecDepth 100000
namespace VS
/-! ### a pair either way round -/
theorem ups_ups {n m : Nat} {row : List Nat} (hl : row.length = n + m) (pr : Pr (n + m) (rowF row)) : upsR m n (upsR n m row) = row := by
  have l1 : (upsR n m row).length = m + n := ups_len hl
  refine row_eq (by rw [ups_len l1, hl]) fun p hp => ?_
  rw [ups_len l1] at hp
  rw [ups_get l1 hp]
  have q1 : (if p < n then m + p else p - n) < m + n := by split <;> omega
  rw [ups_get hl q1]
  have q2 : (if (if p < n then m + p else p - n) < m then n + (if p < n then m + p else p - n) else (if p < n then m + p else p - n) - m) = p := by
    by_cases c : p < n
    · rw [if_pos c, if_neg (by omega)]; omega
    · rw [if_neg c, if_pos (by omega)]; omega
  rw [q2]
  have := (pr p hp).1
  unfold upF
  by_cases c : n ≤ rowF row p
  · rw [if_pos c, if_neg (by omega)]; omega
  · rw [if_neg c, if_pos (by omega)]; omega
/-- if all above go below, all below go above -/
theorem all_down {k : Nat} {f : Nat → Nat} (pr : Pr (k + k) f) (h : ∀ p, p < k → k ≤ f p) : ∀ p, p < k → f (k + p) < k := by
  intro p hp
  refine Classical.byContradiction fun hc => ?_
  have b0 := pr (k + p) (by omega)
  have hl : ∀ x ∈ (List.range k).map (fun q => f q - k) ++ [p], x < k := fun x hx => by
    rcases List.mem_append.mp hx with h1 | h1
    · obtain ⟨q, hq, rfl⟩ := List.mem_map.mp h1
      have hq := List.mem_range.mp hq
      have := (pr q (by omega)).1
      have := h q hq
      omega
    · obtain rfl : x = p := by simpa using h1
      exact hp
  have nd : ((List.range k).map (fun q => f q - k) ++ [p]).Nodup := by
    rw [List.nodup_append]
    refine ⟨?_, by simp, fun a ha b hb e => ?_⟩
    · unfold List.Nodup
      rw [List.pairwise_map]
      refine List.Pairwise.imp_of_mem ?_ List.nodup_range
      intro a b ha hb hab e
      have ha := List.mem_range.mp ha
      have hb := List.mem_range.mp hb
      have h1 := h a ha
      have h2 := h b hb
      have e2 : f a = f b := by omega
      have e3 := (pr a (by omega)).2.2
      have e4 := (pr b (by omega)).2.2
      rw [e2, e4] at e3
      exact hab e3.symm
    · obtain rfl : b = p := by simpa using hb
      obtain ⟨q, hq, rfl⟩ := List.mem_map.mp ha
      have hq := List.mem_range.mp hq
      have h1 := h q hq
      have e2 : f q = k + b := by omega
      have e3 := (pr q (by omega)).2.2
      rw [e2] at e3
      omega
  have := nodup_len nd hl
  simp at this
  omega
def dnB (k : Nat) (row : List Nat) : Prop := ∀ p, p < k → k ≤ rowF row p
theorem dn_ups {k : Nat} {row : List Nat} (hl : row.length = k + k) (pr : Pr (k + k) (rowF row)) (h : dnB k row) : dnB k (upsR k k row) := by
  intro p hp
  rw [ups_get hl (by omega), if_pos hp]
  have := all_down pr h p hp
  unfold upF
  rw [if_neg (by omega)]
  omega
end VS
set_option Elab.async false
set_option linter.all false
set_option maxRecDepth 100000
namespace VS
open PySem PySem.Spec PyProof.Rows L2
/-! ### values as data; a list bears whether it is owned -/
inductive D where
  | non | bl (b : Bool) | int (i : Int) | str (s : Str)
  | tup (xs : List D) | lst (o : Bool) (xs : List D) | ty (n : String) | scr (ns : List Int)
  | exc (n : Str) (d : D)
  | dct (o : Bool) (kvs : List (Int × Int))
mutual
def noOwn : D → Bool
  | .tup xs => noOwns xs
  | .lst o xs => !o && noOwns xs
  | .dct o _ => !o
  | _ => true
def noOwns : List D → Bool
  | [] => true
  | x :: r => noOwn x && noOwns r
end
mutual
def freeze : D → D
  | .tup xs => .tup (freezes xs)
  | .lst _ xs => .lst false (freezes xs)
  | .dct _ kvs => .dct false kvs
  | d => d
def freezes : List D → List D
  | [] => []
  | x :: r => freeze x :: freezes r
end
/-- a dict of whole numbers, as the kit tells it -/
def kvK (kvs : List (Int × Int)) : List (Key × V) := kvs.map fun p => (.inl p.1, .int p.2)
/-- what may be owned -/
inductive LD : HO → Prop
  | l (vs : List V) : LD (.lst vs)
  | d (kvs : List (Key × V)) : LD (.dK kvs)
/-- a caught exception, tracked -/
def ExV (a C dd : Addr) : HO := .ext fun h => ∃ (oe : Obj) (vs : Array Value), h.get? a = some oe ∧ L2N.Zn (.ref C) (some dd) oe ∧ oe.data = .fields vs
/-- the class that a name of the module's means -/
def ClsAt (K : PySem.W.Frag) (n : Str) (C : Addr) : Prop := PySem.W.nsIn K mainGlobals n = some (some (.ref C))
variable (K : PySem.W.Frag)
mutual
inductive Rep (K : PySem.W.Frag) (G H : Hp) : V → D → List Addr → Prop
  | non : Rep K G H .non .non []
  | bl (b : Bool) : Rep K G H (.bl b) (.bl b) []
  | int (i : Int) : Rep K G H (.int i) (.int i) []
  | str (s : Str) : Rep K G H (.str s) (.str s) []
  | ty (n : String) : Rep K G H (.ty n) (.ty n) []
  | tup {a : Addr} {vs : List V} {xs : List D} {L : List Addr} : SqT K G a vs → Reps K G H vs xs L → Rep K G H (.ref a) (.tup xs) L
  | scr {a : Addr} {ns : List Int} : SqL K G a (ns.map V.int) → Rep K G H (.ref a) (.scr ns) []
  | exc {a C dd : Addr} {n : Str} {v : V} {d : D} : G a = some (ExV a C dd) → G dd = some (.xd [(("value" : Str), v)]) → ClsAt K n C → Rep K G H v d [] → Rep K G H (.ref a) (.exc n d) []
  | lstS {a : Addr} {vs : List V} {xs : List D} {L : List Addr} : G a = some (.lst vs) → Reps K G H vs xs L → L = [] → Rep K G H (.ref a) (.lst false xs) L
  | lstO {a : Addr} {vs : List V} {xs : List D} {L : List Addr} : G a = none → H a = some (.lst vs) → a ∉ L → Reps K G H vs xs L → Rep K G H (.ref a) (.lst true xs) (a :: L)
  | dctS {a : Addr} {kvs : List (Int × Int)} : G a = some (.dK (kvK kvs)) → Rep K G H (.ref a) (.dct false kvs) []
  | dctO {a : Addr} {kvs : List (Int × Int)} : G a = none → H a = some (.dK (kvK kvs)) → Rep K G H (.ref a) (.dct true kvs) [a]
inductive Reps (K : PySem.W.Frag) (G H : Hp) : List V → List D → List Addr → Prop
  | nil : Reps K G H [] [] []
  | cons {v : V} {d : D} {L M : List Addr} {vs : List V} {ds : List D} : Rep K G H v d L → Reps K G H vs ds M → (∀ a, a ∈ L → a ∉ M) → Reps K G H (v :: vs) (d :: ds) (L ++ M)
end
section
variable {K : PySem.W.Frag} {G H G' H' : Hp}
theorem Same.rd {a : Addr} {u : HO} (e : Same G G') (h : Rd G a u) : Rd G' a u := by
  rcases h with h | ⟨o, h⟩
  · exact .inl (e a _ h)
  · exact .inr ⟨o, e a _ h⟩
theorem Same.seqT {a : Addr} {xs : List V} (e : Same G G') (h : SqT K G a xs) : SqT K G' a xs := by
  rcases h with h | h
  · exact .inl (Same.rd e h)
  · exact .inr h
/-- what is owned stands in H, not in G -/
structure Keep (G H G' H' : Hp) (L : List Addr) : Prop where
  g : Same G G'
  o : ∀ a ∈ L, G a = none → G' a = none
  h : ∀ a ∈ L, H' a = H a
theorem Keep.sub {L M : List Addr} (k : Keep G H G' H' L) (h : ∀ a, a ∈ M → a ∈ L) : Keep G H G' H' M := ⟨k.g, fun a ha => k.o a (h a ha), fun a ha => k.h a (h a ha)⟩
mutual
theorem Rep.keep {v : V} {d : D} {L : List Addr} (r : Rep K G H v d L) (k : Keep G H G' H' L) : Rep K G' H' v d L := by
  cases r with
  | non => exact .non
  | bl b => exact .bl b
  | int i => exact .int i
  | str s => exact .str s
  | ty n => exact .ty n
  | tup h r => exact .tup (Same.seqT k.g h) (Reps.keep r k)
  | scr h => exact .scr (Same.seq k.g h)
  | exc h1 h2 h3 r => exact .exc (k.g _ _ h1) (k.g _ _ h2) h3 (Rep.keep r (k.sub fun a z => nomatch z))
  | lstS h r e => exact .lstS (k.g _ _ h) (Reps.keep r k) e
  | dctS h => exact .dctS (k.g _ _ h)
  | dctO hg hh => exact .dctO (k.o _ (List.mem_cons_self) hg) ((k.h _ List.mem_cons_self).trans hh)
  | lstO hg hh hn r => exact .lstO (k.o _ (List.mem_cons_self) hg) ((k.h _ List.mem_cons_self).trans hh) hn (Reps.keep r (k.sub fun a ha => List.mem_cons_of_mem _ ha))
theorem Reps.keep {vs : List V} {ds : List D} {L : List Addr} (r : Reps K G H vs ds L) (k : Keep G H G' H' L) : Reps K G' H' vs ds L := by
  cases r with
  | nil => exact .nil
  | cons h r n => exact .cons (Rep.keep h (k.sub fun a ha => List.mem_append_left _ ha)) (Reps.keep r (k.sub fun a ha => List.mem_append_right _ ha)) n
end
mutual
theorem Rep.owned {v : V} {d : D} {L : List Addr} (r : Rep K G H v d L) : ∀ a ∈ L, G a = none ∧ ∃ o, H a = some o ∧ LD o := by
  cases r with
  | non => intro a h; cases h
  | bl b => intro a h; cases h
  | int i => intro a h; cases h
  | str s => intro a h; cases h
  | ty n => intro a h; cases h
  | scr q => intro a h; cases h
  | exc _ _ _ _ => intro a h; cases h
  | tup h r => exact Reps.owned r
  | lstS h r e => exact Reps.owned r
  | lstO hg hh hn r =>
    intro a ha
    rcases List.mem_cons.mp ha with e | e
    · subst e; exact ⟨hg, _, hh, .l _⟩
    · exact Reps.owned r a e
  | dctS h => intro a h; cases h
  | dctO hg hh =>
    intro a ha
    obtain rfl := List.mem_singleton.mp ha
    exact ⟨hg, _, hh, .d _⟩
theorem Reps.owned {vs : List V} {ds : List D} {L : List Addr} (r : Reps K G H vs ds L) : ∀ a ∈ L, G a = none ∧ ∃ o, H a = some o ∧ LD o := by
  cases r with
  | nil => intro a h; cases h
  | cons h r n =>
    intro a ha
    rcases List.mem_append.mp ha with e | e
    · exact Rep.owned h a e
    · exact Reps.owned r a e
end
mutual
theorem Rep.noL {v : V} {d : D} {L : List Addr} (r : Rep K G H v d L) (h : noOwn d = true) : L = [] := by
  cases r with
  | non => rfl
  | bl b => rfl
  | int i => rfl
  | str s => rfl
  | ty n => rfl
  | scr _ => rfl
  | exc _ _ _ _ => rfl
  | tup _ r => exact Reps.noL r h
  | lstS _ r e => exact e
  | lstO _ _ _ r => exact absurd h (by simp [noOwn])
  | dctS _ => rfl
  | dctO _ _ => exact absurd h (by simp [noOwn])
theorem Reps.noL {vs : List V} {ds : List D} {L : List Addr} (r : Reps K G H vs ds L) (h : noOwns ds = true) : L = [] := by
  cases r with
  | nil => rfl
  | cons q r n =>
    simp only [noOwns, Bool.and_eq_true] at h
    rw [Rep.noL q h.1, Reps.noL r h.2]
    rfl
end
mutual
theorem Rep.ofL {v : V} {d : D} {L : List Addr} (r : Rep K G H v d L) (h : L = []) : noOwn d = true := by
  cases r with
  | non => rfl
  | bl b => rfl
  | int i => rfl
  | str s => rfl
  | ty n => rfl
  | scr _ => rfl
  | exc _ _ _ _ => rfl
  | tup _ r => exact Reps.ofL r h
  | lstS _ r e => simp only [noOwn, Reps.ofL r e]; rfl
  | lstO _ _ _ r => cases h
  | dctS _ => rfl
  | dctO _ _ => cases h
theorem Reps.ofL {vs : List V} {ds : List D} {L : List Addr} (r : Reps K G H vs ds L) (h : L = []) : noOwns ds = true := by
  cases r with
  | nil => rfl
  | cons q r n =>
    obtain ⟨h1, h2⟩ := List.append_eq_nil_iff.mp h
    simp only [noOwns, Rep.ofL q h1, Reps.ofL r h2]; rfl
end
theorem Reps.length {vs : List V} {ds : List D} {L : List Addr} (r : Reps K G H vs ds L) : vs.length = ds.length := by
  induction ds generalizing vs L with
  | nil => cases r; rfl
  | cons d ds ih => cases r with | cons _ r _ => simp [ih r]
end
end VS
set_option Elab.async false
set_option linter.all false
set_option maxRecDepth 100000
namespace VS
open PySem PySem.Spec PyProof.Rows L2
section
variable {K : PySem.W.Frag} {G H G' H' : Hp}
mutual
theorem Rep.frz {v : V} {d : D} {L : List Addr} (r : Rep K G H v d L) (k : Same G G') (h : ∀ a ∈ L, G' a = H a) : Rep K G' H v (freeze d) [] := by
  cases r with
  | non => exact .non
  | bl b => exact .bl b
  | int i => exact .int i
  | str s => exact .str s
  | ty n => exact .ty n
  | scr q => exact .scr (Same.seq k q)
  | exc h1 h2 h3 r => exact .exc (k _ _ h1) (k _ _ h2) h3 (r.keep ⟨k, fun _ z _ => (nomatch z), fun _ z => (nomatch z)⟩)
  | tup q r => exact .tup (Same.seqT k q) (Reps.frz r k h)
  | lstS q r e => exact .lstS (k _ _ q) (Reps.frz r k h) rfl
  | lstO hg hh hn r =>
    exact .lstS ((h _ List.mem_cons_self).trans hh) (Reps.frz r k fun a ha => h a (List.mem_cons_of_mem _ ha)) rfl
  | dctS q => exact .dctS (k _ _ q)
  | dctO hg hh => exact .dctS ((h _ List.mem_cons_self).trans hh)
theorem Reps.frz {vs : List V} {ds : List D} {L : List Addr} (r : Reps K G H vs ds L) (k : Same G G') (h : ∀ a ∈ L, G' a = H a) : Reps K G' H vs (freezes ds) [] := by
  cases r with
  | nil => exact .nil
  | cons q r n =>
    have := Reps.cons (Rep.frz q k fun a ha => h a (List.mem_append_left _ ha)) (Reps.frz r k fun a ha => h a (List.mem_append_right _ ha)) (fun a ha => by cases ha)
    exact this
end
end
mutual
theorem noOwn_frz : ∀ d : D, noOwn (freeze d) = true
  | .tup xs => by simp only [freeze, noOwn]; exact noOwns_frz xs
  | .lst o xs => by simp only [freeze, noOwn]; rw [noOwns_frz xs]; rfl
  | .non => rfl
  | .bl _ => rfl
  | .int _ => rfl
  | .str _ => rfl
  | .ty _ => rfl
  | .scr _ => rfl
  | .exc _ _ => rfl
  | .dct _ _ => rfl
theorem noOwns_frz : ∀ ds : List D, noOwns (freezes ds) = true
  | [] => rfl
  | d :: ds => by simp only [freezes, noOwns]; rw [noOwn_frz d, noOwns_frz ds]; rfl
end
/-! ### what a step does to the heaps: G is frozen for good, A is what it may change -/
structure Tr (G H : Hp) (A : Addr → Prop) (G' H' : Hp) (A' : Addr → Prop) : Prop where
  g : Same G G'
  sub : Same G' H'
  keep : ∀ a o, H a = some o → ¬ A a → H' a = some o
  keepG : ∀ a o, H a = some o → ¬ A a → G' a = G a
  new : ∀ a, A' a → A a ∨ H a = none
  dom : ∀ a, H' a = none → H a = none
section
variable {K : PySem.W.Frag} {G H G' H' G1 H1 G2 H2 : Hp} {A A' A1 A2 B : Addr → Prop}
theorem Tr.refl (h : Same G H) : Tr G H A G H A := ⟨Same.refl G, h, fun _ _ e _ => e, fun _ _ _ _ => rfl, fun _ h => .inl h, fun _ h => h⟩
theorem Tr.trans (a : Tr G H A G1 H1 A1) (b : Tr G1 H1 A1 G2 H2 A2) : Tr G H A G2 H2 A2 := by
  have k1 : ∀ x o, H x = some o → ¬ A x → ¬ A1 x := fun x o e n h => by
    rcases a.new x h with q | q
    · exact n q
    · rw [q] at e; cases e
  refine ⟨a.g.trans b.g, b.sub, fun x o e n => b.keep x o (a.keep x o e n) (k1 x o e n), fun x o e n => (b.keepG x o (a.keep x o e n) (k1 x o e n)).trans (a.keepG x o e n), fun x h => ?_, fun x h => a.dom x (b.dom x h)⟩
  rcases b.new x h with q | q
  · exact a.new x q
  · exact .inr (a.dom x q)
/-- more may be changed, less is borne behind -/
theorem Tr.wk (a : Tr G H A G1 H1 A1) (h : ∀ x, A x → B x) (h' : ∀ x, A2 x → A1 x ∨ B x ∨ H x = none) : Tr G H B G1 H1 A2 :=
  ⟨a.g, a.sub, fun x o e n => a.keep x o e fun q => n (h x q), fun x o e n => a.keepG x o e fun q => n (h x q), fun x q => by
    rcases h' x q with q | q | q
    · rcases a.new x q with q | q
      · exact .inl (h x q)
      · exact .inr q
    · exact .inl q
    · exact .inr q, a.dom⟩
theorem Tr.post (a : Tr G H A G1 H1 A1) (h : ∀ x, A2 x → A1 x) : Tr G H A G1 H1 A2 := a.wk (fun _ h => h) fun x q => .inl (h x q)
/-- what stands apart -/
theorem Tr.keeps (t : Tr G H A G' H' A') {L : List Addr} (ho : ∀ a ∈ L, G a = none ∧ ∃ o, H a = some o ∧ LD o) (n : ∀ a ∈ L, ¬ A a) : Keep G H G' H' L := by
  refine ⟨t.g, fun a ha hg => ?_, fun a ha => ?_⟩
  · obtain ⟨_, vs, e, _⟩ := ho a ha
    exact (t.keepG a _ e (n a ha)).trans hg
  · obtain ⟨_, vs, e, _⟩ := ho a ha
    rw [e]; exact t.keep a _ e (n a ha)
theorem Rep.tr {v : V} {d : D} {L : List Addr} (r : Rep K G H v d L) (t : Tr G H A G' H' A') (n : ∀ a ∈ L, ¬ A a) : Rep K G' H' v d L := r.keep (t.keeps r.owned n)
theorem Reps.tr {vs : List V} {ds : List D} {L : List Addr} (r : Reps K G H vs ds L) (t : Tr G H A G' H' A') (n : ∀ a ∈ L, ¬ A a) : Reps K G' H' vs ds L := r.keep (t.keeps r.owned n)
/-- .. is still apart -/
theorem Tr.apart (t : Tr G H A G' H' A') {L : List Addr} (ho : ∀ a ∈ L, G a = none ∧ ∃ o, H a = some o ∧ LD o) (n : ∀ a ∈ L, ¬ A a) : ∀ a ∈ L, ¬ A' a := fun a ha h => by
  obtain ⟨_, vs, e, _⟩ := ho a ha
  rcases t.new a h with q | q
  · exact n a ha q
  · rw [q] at e; cases e
/-- a new object, frozen -/
theorem Tr.newG {p : Addr} {o : HO} (h : Same G H) (hp : H p = none) : Tr G H A (upd G p o) (upd H p o) A := by
  have gp : G p = none := h.free hp
  refine ⟨fun a u e => by rw [upd_ne (ne_of_none e gp)]; exact e, fun a u e => ?_, fun a u e _ => by rw [upd_ne (ne_of_none e hp)]; exact e, fun a u e _ => by rw [upd_ne (ne_of_none e hp)], fun _ q => .inl q, fun a e => ?_⟩
  · by_cases q : a = p
    · subst q; rw [upd_same] at e ⊢; exact e
    · rw [upd_ne q] at e ⊢; exact h a u e
  · by_cases q : a = p
    · subst q; exact hp
    · rw [upd_ne q] at e; exact e
/-- a new list, owned -/
theorem Tr.newO {p : Addr} {o : HO} (h : Same G H) (hp : H p = none) : Tr G H A G (upd H p o) (fun a => A a ∨ a = p) := by
  have gp : G p = none := h.free hp
  refine ⟨Same.refl G, fun a u e => by rw [upd_ne (ne_of_none e gp)]; exact h a u e, fun a u e _ => by rw [upd_ne (ne_of_none e hp)]; exact e, fun _ _ _ _ => rfl, fun a q => ?_, fun a e => ?_⟩
  · rcases q with q | q
    · exact .inl q
    · subst q; exact .inr hp
  · by_cases q : a = p
    · subst q; exact hp
    · rw [upd_ne q] at e; exact e
/-- an owned list written -/
theorem Tr.write {p : Addr} {o : HO} (h : Same G H) (hg : G p = none) (ha : A p) (hH : ∃ o, H p = some o) : Tr G H A G (upd H p o) A := by
  refine ⟨Same.refl G, fun a u e => by rw [upd_ne (ne_of_none e hg)]; exact h a u e, fun a u e n => ?_, fun _ _ _ _ => rfl, fun a q => .inl q, fun a e => ?_⟩
  · by_cases q : a = p
    · subst q; exact absurd ha n
    · rw [upd_ne q]; exact e
  · by_cases q : a = p
    · subst q; rw [upd_same] at e; cases e
    · rw [upd_ne q] at e; exact e
end
/-! ### the slots -/
abbrev Env := List (Option D)
def getS (ρ : Env) (i : Nat) : Option D := (ρ[i]?).join
structure REnv (K : PySem.W.Frag) (G H : Hp) (σ : L2.St) (ρ : Env) (F : Nat → List Addr) : Prop where
  sub : Same G H
  len : σ.length = ρ.length
  at_ : ∀ i d, getS ρ i = some d → ∃ v, σ[i]? = some (some v) ∧ Rep K G H v d (F i)
  off : ∀ i, getS ρ i = none → F i = []
  dis : ∀ i j, i ≠ j → ∀ a, a ∈ F i → a ∉ F j
def own (F : Nat → List Addr) (a : Addr) : Prop := ∃ i, a ∈ F i
section
variable {K : PySem.W.Frag} {G H G' H' : Hp} {σ : L2.St} {ρ : Env} {F : Nat → List Addr} {A A' : Addr → Prop}
theorem REnv.owned (r : REnv K G H σ ρ F) (i : Nat) : ∀ a ∈ F i, G a = none ∧ ∃ o, H a = some o ∧ LD o := fun a ha => by
  cases q : getS ρ i with
  | none => rw [r.off i q] at ha; cases ha
  | some d => obtain ⟨v, _, h⟩ := r.at_ i d q; exact h.owned a ha
theorem REnv.tr (r : REnv K G H σ ρ F) (t : Tr G H A G' H' A') (n : ∀ a, own F a → ¬ A a) : REnv K G' H' σ ρ F := by
  refine ⟨t.sub, r.len, fun i d q => ?_, r.off, r.dis⟩
  obtain ⟨v, e, h⟩ := r.at_ i d q
  exact ⟨v, e, h.tr t fun a ha => n a ⟨i, ha⟩⟩
theorem REnv.lt (r : REnv K G H σ ρ F) {i : Nat} {d : D} (q : getS ρ i = some d) : i < ρ.length := by
  unfold getS at q
  cases e : ρ[i]? with
  | none => rw [e] at q; cases q
  | some o => exact (List.getElem?_eq_some_iff.mp e).1
def fset (F : Nat → List Addr) (i : Nat) (L : List Addr) : Nat → List Addr := fun j => if j = i then L else F j
theorem fset_same {i : Nat} {L : List Addr} : fset F i L i = L := if_pos rfl
theorem fset_ne {i j : Nat} {L : List Addr} (h : j ≠ i) : fset F i L j = F j := if_neg h
theorem getS_set {ρ : Env} {i j : Nat} {o : Option D} : getS (ρ.set i o) j = if j = i ∧ i < ρ.length then o else getS ρ j := by
  unfold getS
  rw [List.getElem?_set]
  by_cases h : i = j
  · subst h
    by_cases h2 : i < ρ.length
    · simp [h2]
    · simp [h2]
  · rw [if_neg h, if_neg (by rintro ⟨rfl, _⟩; exact h rfl)]
/-- a slot of the data is given up -/
theorem REnv.drop (r : REnv K G H σ ρ F) (i : Nat) : REnv K G H σ (ρ.set i none) (fset F i []) := by
  refine ⟨r.sub, by rw [List.length_set]; exact r.len, fun j d q => ?_, fun j q => ?_, fun j k n a ha => ?_⟩
  · rw [getS_set] at q
    by_cases h : j = i
    · subst h
      by_cases h2 : j < ρ.length
      · rw [if_pos ⟨rfl, h2⟩] at q; cases q
      · rw [if_neg (fun z => h2 z.2)] at q; exact absurd (r.lt q) h2
    · rw [if_neg (fun z => h z.1)] at q
      rw [fset_ne h]; exact r.at_ j d q
  · by_cases h : j = i
    · subst h; exact fset_same
    · rw [fset_ne h]; rw [getS_set, if_neg (fun z => h z.1)] at q; exact r.off j q
  · by_cases h : j = i
    · subst h; rw [fset_same] at ha; cases ha
    · rw [fset_ne h] at ha
      by_cases h2 : k = i
      · subst h2; rw [fset_same]; exact List.not_mem_nil
      · rw [fset_ne h2]; exact r.dis j k n a ha
/-- a slot gets a value: its place too -/
theorem REnv.put (r : REnv K G H σ ρ F) {i : Nat} (hi : i < ρ.length) {v : V} {d : D} {L : List Addr} (h : Rep K G H v d L) (n : ∀ a ∈ L, ∀ j, j ≠ i → a ∉ F j) : REnv K G H (σ.set i (some v)) (ρ.set i (some d)) (fset F i L) := by
  refine ⟨r.sub, by rw [List.length_set, List.length_set]; exact r.len, fun j e q => ?_, fun j q => ?_, fun j k ne a ha => ?_⟩
  · rw [getS_set] at q
    by_cases hj : j = i
    · subst hj
      rw [if_pos ⟨rfl, hi⟩] at q; cases q
      exact ⟨v, by rw [List.getElem?_set_self (by rw [r.len]; exact hi)], by rw [fset_same]; exact h⟩
    · rw [if_neg (fun z => hj z.1)] at q
      obtain ⟨w, e1, e2⟩ := r.at_ j e q
      exact ⟨w, by rw [List.getElem?_set_ne (Ne.symm hj)]; exact e1, by rw [fset_ne hj]; exact e2⟩
  · rw [getS_set] at q
    by_cases hj : j = i
    · subst hj; rw [if_pos ⟨rfl, hi⟩] at q; cases q
    · rw [if_neg (fun z => hj z.1)] at q; rw [fset_ne hj]; exact r.off j q
  · by_cases hj : j = i
    · subst hj
      rw [fset_same] at ha
      rw [fset_ne (Ne.symm ne)]
      exact n a ha k (Ne.symm ne)
    · rw [fset_ne hj] at ha
      by_cases hk : k = i
      · subst hk
        rw [fset_same]
        exact fun q => n a q j hj ha
      · rw [fset_ne hk]; exact r.dis j k ne a ha
/-- .. the data alone (the place holds the value already) -/
theorem REnv.re (r : REnv K G H σ ρ F) {i : Nat} (hi : i < ρ.length) {v : V} {d : D} {L : List Addr} (hv : σ[i]? = some (some v)) (h : Rep K G H v d L) (n : ∀ a ∈ L, ∀ j, j ≠ i → a ∉ F j) : REnv K G H σ (ρ.set i (some d)) (fset F i L) := by
  have q := r.put hi h n
  have e : σ.set i (some v) = σ := by
    apply List.ext_getElem?
    intro j
    by_cases hj : i = j
    · subst hj; rw [List.getElem?_set_self (by rw [r.len]; exact hi), hv]
    · rw [List.getElem?_set_ne hj]
  rw [e] at q
  exact q
end
end VS
set_option Elab.async false
set_option linter.all false
set_option maxRecDepth 100000
namespace VS
open PySem PySem.Spec PyProof.Rows L2
abbrev FE := Env → Option (D × Env)
abbrev FB := Env → Option (Bool × Env)
/-- an operand: a slot that is read where the operation is done, or a value made ahead of it -/
inductive Op where
  | b (i : Nat) | t (f : FE)
def litF (d : D) : FE := fun ρ => some (d, ρ)
/-- a name as a value: what it owns is frozen -/
def varF (i : Nat) : FE := fun ρ => (getS ρ i).bind fun d => if noOwn d = true then some (d, ρ) else some (freeze d, ρ.set i (some (freeze d)))
/-- a name's value is moved out -/
def movF (i : Nat) : FE := fun ρ => (getS ρ i).bind fun d => some (d, ρ.set i none)
def evOps : List Op → Env → Option (List (Option D) × Env)
  | [], ρ => some ([], ρ)
  | .b i :: r, ρ => (getS ρ i).bind fun _ => (evOps r ρ).bind fun p => some (none :: p.1, p.2)
  | .t f :: r, ρ => (f ρ).bind fun q => (evOps r q.2).bind fun p => some (some q.1 :: p.1, p.2)
def fetch : List Op → List (Option D) → Env → Option (List D)
  | .b i :: r, _ :: ts, ρ => (getS ρ i).bind fun d => (fetch r ts ρ).bind fun ds => some (d :: ds)
  | .t _ :: r, some d :: ts, ρ => (fetch r ts ρ).bind fun ds => some (d :: ds)
  | [], _, _ => some []
  | _, _, _ => none
/-- an operation that reads its operands -/
def opF (g : List D → Option D) (ops : List Op) : FE := fun ρ => (evOps ops ρ).bind fun p => (fetch ops p.1 p.2).bind fun ds => (g ds).bind fun d => some (d, p.2)
section
variable (K : PySem.W.Frag)
def SimE (te : TE) (f : FE) : Prop := ∀ ρ d ρ', f ρ = some (d, ρ') → ∀ (σ : L2.St) (G H : Hp) (F : Nat → List Addr), REnv K G H σ ρ F → ∀ Q : VK,
  (∀ v G' H' F' L, Tr G H (own F) G' H' (fun a => own F' a ∨ a ∈ L) → REnv K G' H' σ ρ' F' → Rep K G' H' v d L → (∀ a ∈ L, ¬ own F' a) → Q v H') → te σ H Q
def SimT (tt : TT) (f : FB) : Prop := ∀ ρ b ρ', f ρ = some (b, ρ') → ∀ (σ : L2.St) (G H : Hp) (F : Nat → List Addr), REnv K G H σ ρ F → ∀ Q : Bool → Hp → Prop,
  (∀ G' H' F', Tr G H (own F) G' H' (own F') → REnv K G' H' σ ρ' F' → Q b H') → tt σ H Q
def SimO (te : TE) (o : Op) : Prop := match o with
  | .b i => te = tVar i
  | .t f => SimE K te f
inductive OpsOk (G H : Hp) (σ : L2.St) : List Op → List (Option D) → List V → List Addr → Prop
  | nil : OpsOk G H σ [] [] [] []
  | b {i : Nat} {v : V} {o : Option D} {ops ts vs M} : σ[i]? = some (some v) → OpsOk G H σ ops ts vs M → OpsOk G H σ (.b i :: ops) (o :: ts) (v :: vs) M
  | t {f : FE} {v : V} {d : D} {L : List Addr} {ops ts vs M} : Rep K G H v d L → (∀ a ∈ L, a ∉ M) → OpsOk G H σ ops ts vs M → OpsOk G H σ (.t f :: ops) (some d :: ts) (v :: vs) (L ++ M)
def SimA (ta : TA) (ops : List Op) : Prop := ∀ ρ ts ρ', evOps ops ρ = some (ts, ρ') → ∀ (σ : L2.St) (G H : Hp) (F : Nat → List Addr), REnv K G H σ ρ F → ∀ Q : List V → Hp → Prop,
  (∀ vs G' H' F' M, Tr G H (own F) G' H' (fun a => own F' a ∨ a ∈ M) → REnv K G' H' σ ρ' F' → OpsOk K G' H' σ ops ts vs M → (∀ a ∈ M, ¬ own F' a) → Q vs H') → ta σ H Q
end
section
variable {K : PySem.W.Frag}
theorem simE_lit {v : V} {d : D} (h : ∀ G H, Rep K G H v d []) : SimE K (tC v) (litF d) := by
  intro ρ d' ρ' e σ G H F r Q q
  cases e
  exact q v G H F [] ((Tr.refl r.sub).post fun a h => h.elim id fun z => nomatch z) r (h _ _) (fun a z => nomatch z)
theorem simE_var (i : Nat) : SimE K (tVar i) (varF i) := by
  intro ρ d ρ' e σ G H F r Q q
  unfold varF at e
  cases hd : getS ρ i with
  | none => rw [hd] at e; cases e
  | some d0 =>
    rw [hd] at e
    obtain ⟨v, hv, hr⟩ := r.at_ i d0 hd
    by_cases hn : noOwn d0 = true
    · have e' : some (d0, ρ) = some (d, ρ') := by rw [← e]; simp [hn]
      cases e'
      have e0 := hr.noL hn
      rw [e0] at hr
      exact ⟨v, hv, q v G H F [] ((Tr.refl r.sub).post fun a h => h.elim id fun z => nomatch z) r hr (fun a z => nomatch z)⟩
    · have e' : some (freeze d0, ρ.set i (some (freeze d0))) = some (d, ρ') := by rw [← e]; simp [hn]
      cases e'
      have own' : ∀ a ∈ F i, G a = none ∧ ∃ o, H a = some o ∧ LD o := r.owned i
      have hG : ∀ a, a ∉ F i → (fun a => if a ∈ F i then H a else G a) a = G a := fun a h => if_neg h
      have hG1 : ∀ a ∈ F i, (fun a => if a ∈ F i then H a else G a) a = H a := fun a h => if_pos h
      generalize (fun a => if a ∈ F i then H a else G a : Hp) = G1 at hG hG1
      have s1 : Same G G1 := fun a o h => by
        have : a ∉ F i := fun z => by rw [(own' a z).1] at h; cases h
        rw [hG a this]; exact h
      have s2 : Same G1 H := fun a o h => by
        by_cases z : a ∈ F i
        · rw [hG1 a z] at h; exact h
        · rw [hG a z] at h; exact r.sub a o h
      have hr' := hr.frz s1 hG1
      have renv : REnv K G1 H σ ρ F → False ∨ True := fun _ => .inr trivial
      have r1 : REnv K G1 H σ (ρ.set i none) (fset F i []) := by
        have rd := r.drop i
        refine ⟨s2, rd.len, fun j e h => ?_, rd.off, rd.dis⟩
        obtain ⟨w, e1, e2⟩ := rd.at_ j e h
        refine ⟨w, e1, e2.keep ⟨s1, fun a ha hg => ?_, fun a _ => rfl⟩⟩
        have : a ∉ F i := fun z => by
          by_cases hj : j = i
          · subst hj; rw [fset_same] at ha; cases ha
          · rw [fset_ne hj] at ha; exact r.dis j i hj a ha z
        rw [hG a this]; exact hg
      have r2 := r1.re (i := i) (by rw [List.length_set]; exact r.lt hd) hv hr' (fun a z => nomatch z)
      rw [List.set_set] at r2
      have hf : ∀ a, own (fset (fset F i []) i []) a → own F a := fun a ⟨j, h⟩ => by
        by_cases hj : j = i
        · subst hj; rw [fset_same] at h; cases h
        · rw [fset_ne hj, fset_ne hj] at h; exact ⟨j, h⟩
      refine ⟨v, hv, q v G1 H _ [] ⟨s1, s2, fun _ _ h _ => h, fun a o h n => hG a fun z => n ⟨i, z⟩, fun a h => .inl (h.elim (hf a) fun z => nomatch z), fun _ h => h⟩ r2 hr' (fun a z => nomatch z)⟩
theorem simE_mov (i : Nat) : SimE K (tVar i) (movF i) := by
  intro ρ d ρ' e σ G H F r Q q
  unfold movF at e
  cases hd : getS ρ i with
  | none => rw [hd] at e; cases e
  | some d0 =>
    rw [hd] at e
    obtain ⟨v, hv, hr⟩ := r.at_ i d0 hd
    have e' : some (d0, ρ.set i none) = some (d, ρ') := e
    cases e'
    refine ⟨v, hv, q v G H _ (F i) ((Tr.refl r.sub).post fun a h => ?_) (r.drop i) hr fun a ha ⟨j, h⟩ => ?_⟩
    · rcases h with ⟨j, h⟩ | h
      · by_cases hj : j = i
        · subst hj; rw [fset_same] at h; cases h
        · rw [fset_ne hj] at h; exact ⟨j, h⟩
      · exact ⟨i, h⟩
    · by_cases hj : j = i
      · subst hj; rw [fset_same] at h; cases h
      · rw [fset_ne hj] at h; exact r.dis j i hj a h ha
theorem simA_nil : SimA K tNil [] := by
  intro ρ ts ρ' e σ G H F r Q q
  cases e
  exact q [] G H F [] ((Tr.refl r.sub).post fun a h => h.elim id fun z => nomatch z) r .nil (fun a z => nomatch z)
theorem simA_cons {te : TE} {ta : TA} {o : Op} {ops : List Op} (h1 : SimO K te o) (h2 : SimA K ta ops) : SimA K (tCons te ta) (o :: ops) := by
  intro ρ ts ρ' e σ G H F r Q q
  cases o with
  | b i =>
    unfold evOps at e
    cases hd : getS ρ i with
    | none => rw [hd] at e; cases e
    | some d =>
      rw [hd] at e
      obtain ⟨v, hv, _⟩ := r.at_ i d hd
      cases he : evOps ops ρ with
      | none => rw [he] at e; cases e
      | some p =>
        obtain ⟨ts1, ρ1⟩ := p
        rw [he] at e
        have e' : some (none :: ts1, ρ1) = some (ts, ρ') := e
        cases e'
        have h1' : te = tVar i := h1
        subst h1'
        exact ⟨v, hv, h2 ρ ts1 _ he σ G H F r _ fun vs G' H' F' M t r' ok n => q (v :: vs) G' H' F' M t r' (.b hv ok) n⟩
  | t f =>
    unfold evOps at e
    cases hf : f ρ with
    | none => rw [hf] at e; cases e
    | some p =>
      obtain ⟨d, ρ1⟩ := p
      rw [hf] at e
      cases he : evOps ops ρ1 with
      | none => have e2 : (evOps ops ρ1).bind (fun p => some (some d :: p.1, p.2)) = some (ts, ρ') := e; rw [he] at e2; cases e2
      | some p =>
        obtain ⟨ts1, ρ2⟩ := p
        have e2 : (evOps ops ρ1).bind (fun p => some (some d :: p.1, p.2)) = some (ts, ρ') := e
        rw [he] at e2
        have e' : some (some d :: ts1, ρ2) = some (ts, ρ') := e2
        cases e'
        have h1' : SimE K te f := h1
        refine h1' ρ d ρ1 hf σ G H F r _ fun v G1 H1 F1 L t1 r1 rv n1 => ?_
        refine h2 ρ1 ts1 _ he σ G1 H1 F1 r1 _ fun vs G2 H2 F2 M t2 r2 ok n2 => ?_
        have ap := t2.apart (L := L) rv.owned n1
        refine q (v :: vs) G2 H2 F2 (L ++ M) ?_ r2 (.t (rv.tr t2 n1) (fun a ha hm => ap a ha (.inr hm)) ok) fun a ha => ?_
        · refine (Tr.trans (t1.post fun a h => .inl h) t2).wk (fun _ h => h) fun a h => ?_
          rcases h with h | h
          · exact .inl (.inl h)
          · rcases List.mem_append.mp h with h | h
            · rcases t1.new a (.inr h) with z | z
              · exact .inr (.inl z)
              · exact .inr (.inr z)
            · exact .inl (.inr h)
        · rcases List.mem_append.mp ha with h | h
          · exact fun z => ap a h (.inl z)
          · exact n2 a h
/-- operands by their data -/
inductive RepL (K : PySem.W.Frag) (G H : Hp) : List V → List D → Prop
  | nil : RepL K G H [] []
  | cons {v : V} {d : D} {L : List Addr} {vs : List V} {ds : List D} : Rep K G H v d L → RepL K G H vs ds → RepL K G H (v :: vs) (d :: ds)
theorem OpsOk.get {G H : Hp} {σ : L2.St} {ρ : Env} {F : Nat → List Addr} (r : REnv K G H σ ρ F) : ∀ {ops : List Op} {ts : List (Option D)} {vs : List V} {M : List Addr} {ds : List D}, OpsOk K G H σ ops ts vs M → fetch ops ts ρ = some ds → RepL K G H vs ds
  | _, _, _, _, ds, .nil, e => by
    unfold fetch at e; cases e; exact .nil
  | .b i :: ops, o :: ts, v :: vs, M, ds, .b hv ok, e => by
    unfold fetch at e
    cases hd : getS ρ i with
    | none => rw [hd] at e; cases e
    | some d =>
      rw [hd] at e
      cases he : fetch ops ts ρ with
      | none => have e2 : (fetch ops ts ρ).bind (fun ds => some (d :: ds)) = some ds := e; rw [he] at e2; cases e2
      | some ds1 =>
        have e2 : (fetch ops ts ρ).bind (fun ds => some (d :: ds)) = some ds := e
        rw [he] at e2; cases e2
        obtain ⟨w, hw, hr⟩ := r.at_ i d hd
        rw [hv] at hw; cases hw
        exact .cons hr (ok.get r he)
  | .t f :: ops, some d :: ts, v :: vs, _, ds, .t hr _ ok, e => by
    unfold fetch at e
    cases he : fetch ops ts ρ with
    | none => rw [he] at e; cases e
    | some ds1 => rw [he] at e; cases e; exact .cons hr (ok.get r he)
/-- an operation on values that reads them and makes one -/
def VOk (K : PySem.W.Frag) (r : List V → Hp → VK → Prop) (g : List D → Option D) : Prop := ∀ (G H : Hp) (vs : List V) (ds : List D) (d : D), Same G H → RepL K G H vs ds → g ds = some d → ∀ Q : VK,
  (∀ v G' H' L, Tr G H (fun _ => False) G' H' (fun a => a ∈ L) → Rep K G' H' v d L → Q v H') → r vs H Q
theorem simE_op {ta : TA} {ops : List Op} {r : List V → Hp → VK → Prop} {g : List D → Option D} (h : SimA K ta ops) (hv : VOk K r g) : SimE K (fun σ H Q => ta σ H fun vs H1 => r vs H1 Q) (opF g ops) := by
  intro ρ d ρ' e σ G H F r Q q
  unfold opF at e
  cases he : evOps ops ρ with
  | none => rw [he] at e; cases e
  | some p =>
    obtain ⟨ts, ρ1⟩ := p
    rw [he] at e
    cases hf : fetch ops ts ρ1 with
    | none => have e2 : (fetch ops ts ρ1).bind (fun ds => (g ds).bind fun d => some (d, ρ1)) = some (d, ρ') := e; rw [hf] at e2; cases e2
    | some ds =>
      have e2 : (fetch ops ts ρ1).bind (fun ds => (g ds).bind fun d => some (d, ρ1)) = some (d, ρ') := e
      rw [hf] at e2
      cases hg : g ds with
      | none => have e3 : (g ds).bind (fun d => some (d, ρ1)) = some (d, ρ') := e2; rw [hg] at e3; cases e3
      | some d1 =>
        have e3 : (g ds).bind (fun d => some (d, ρ1)) = some (d, ρ') := e2
        rw [hg] at e3; cases e3
        refine h ρ ts _ he σ G H F r _ fun vs G1 H1 F1 M t1 r1 ok n1 => ?_
        refine hv G1 H1 vs ds d r1.sub (ok.get r1 hf) hg Q fun v G2 H2 L t2 rv => ?_
        have r2 := r1.tr t2 (fun _ _ z => z)
        refine q v G2 H2 F1 L ?_ r2 rv fun a ha ⟨j, hj⟩ => ?_
        · refine (t1.trans (t2.wk (A2 := fun a => own F1 a ∨ a ∈ L) (B := fun a => own F1 a ∨ a ∈ M) (fun _ z => z.elim) fun a h => ?_))
          rcases h with h | h
          · exact .inr (.inl (.inl h))
          · exact .inl h
        · rcases t2.new a ha with z | z
          · exact z
          · obtain ⟨_, vs, e, _⟩ := r1.owned j a hj
            rw [z] at e; cases e
end
end VS
set_option Elab.async false
set_option linter.all false
set_option maxRecDepth 100000
namespace VS
open PySem PySem.Spec PyProof.Rows L2
inductive Out where
  | nx (ρ : Env) | rt (d : D) (ρ : Env) | bk (ρ : Env) | ct (ρ : Env) | rz (n : Str) (d : D) (ρ : Env)
abbrev FS := Env → Option Out
def Pin (pn : Nat → Bool) (σ σ' : L2.St) : Prop := σ'.length = σ.length ∧ ∀ i, pn i = true → σ'[i]? = σ[i]?
theorem Pin.refl {pn : Nat → Bool} {σ : L2.St} : Pin pn σ σ := ⟨rfl, fun _ _ => rfl⟩
theorem Pin.trans {pn : Nat → Bool} {σ σ1 σ2 : L2.St} (a : Pin pn σ σ1) (b : Pin pn σ1 σ2) : Pin pn σ σ2 := ⟨b.1.trans a.1, fun i h => (b.2 i h).trans (a.2 i h)⟩
theorem Pin.set {pn : Nat → Bool} {σ : L2.St} {i : Nat} {o : Option V} (h : pn i = false) : Pin pn σ (σ.set i o) := ⟨List.length_set, fun j hj => by
  have : i ≠ j := fun e => by subst e; rw [h] at hj; cases hj
  exact List.getElem?_set_ne this⟩
section
variable (K : PySem.W.Frag) (pn : Nat → Bool) (W : WX)
def PostE (σ : L2.St) (G H : Hp) (A : Addr → Prop) (ρ' : Env) (R : L2.St → Hp → Prop) : Prop := ∀ σ' G' H' F', Tr G H A G' H' (own F') → REnv K G' H' σ' ρ' F' → Pin pn σ σ' → R σ' H'
def PostR (σ : L2.St) (G H : Hp) (A : Addr → Prop) (d : D) (ρ' : Env) (R : VK) : Prop := ∀ v σ' G' H' F' L, Tr G H A G' H' (fun a => own F' a ∨ a ∈ L) → REnv K G' H' σ' ρ' F' → Pin pn σ σ' → Rep K G' H' v d L → (∀ a ∈ L, ¬ own F' a) → R v H'
/-- an exception that leaves: its class by name, its value -/
def PostX (σ : L2.St) (G H : Hp) (A : Addr → Prop) (n : Str) (d : D) (ρ' : Env) : Prop := ∀ σ' G' H' F' (C dd : Addr) (v : V), Tr G H A G' H' (own F') → REnv K G' H' σ' ρ' F' → Pin pn σ σ' → ClsAt K n C → G' dd = some (.xd [(("value" : Str), v)]) → Rep K G' H' v d [] → W (.ref C) (some dd) σ' H'
def Post (σ : L2.St) (G H : Hp) (A : Addr → Prop) (E : Ends) : Out → Prop
  | .nx ρ' => PostE K pn σ G H A ρ' E.nx
  | .bk ρ' => PostE K pn σ G H A ρ' E.bk
  | .ct ρ' => PostE K pn σ G H A ρ' E.ct
  | .rt d ρ' => PostR K pn σ G H A d ρ' E.rt
  | .rz n d ρ' => PostX K pn W σ G H A n d ρ'
def SimS (t : TS) (f : FS) : Prop := ∀ ρ o, f ρ = some o → ∀ (σ : L2.St) (G H : Hp) (F : Nat → List Addr), REnv K G H σ ρ F → ∀ E : Ends, Post K pn W σ G H (own F) E o → t E σ H
def SimG (g : TG) (f : D → Env → Option Env) : Prop := ∀ d ρ ρ', f d ρ = some ρ' → ∀ v (σ : L2.St) (G H : Hp) (F : Nat → List Addr) (L : List Addr), REnv K G H σ ρ F → Rep K G H v d L → (∀ a ∈ L, ¬ own F a) → ∀ Q : L2.St → Hp → Prop,
  PostE K pn σ G H (fun a => own F a ∨ a ∈ L) ρ' Q → g v σ H Q
def SimGs (g : TGs) (f : List D → Env → Option Env) : Prop := ∀ ds ρ ρ', f ds ρ = some ρ' → ∀ vs (σ : L2.St) (G H : Hp) (F : Nat → List Addr) (L : List Addr), REnv K G H σ ρ F → Reps K G H vs ds L → (∀ a ∈ L, ¬ own F a) → ∀ Q : L2.St → Hp → Prop,
  PostE K pn σ G H (fun a => own F a ∨ a ∈ L) ρ' Q → g vs σ H Q
end
def passF : FS := fun ρ => some (.nx ρ)
def brkF : FS := fun ρ => some (.bk ρ)
def cntF : FS := fun ρ => some (.ct ρ)
def seqF (f g : FS) : FS := fun ρ => (f ρ).bind fun o => match o with
  | .nx ρ1 => g ρ1
  | o => some o
def asgF (f : FE) (g : D → Env → Option Env) : FS := fun ρ => (f ρ).bind fun p => (g p.1 p.2).bind fun ρ' => some (.nx ρ')
def dropF (f : FE) : FS := fun ρ => (f ρ).bind fun p => some (.nx p.2)
def retF (f : FE) : FS := fun ρ => (f ρ).bind fun p => some (.rt p.1 p.2)
def retN : FS := fun ρ => some (.rt .non ρ)
def neverF : FS := fun _ => none
def ifF (c : FB) (f g : FS) : FS := fun ρ => (c ρ).bind fun p => if p.1 = true then f p.2 else g p.2
def tgN (i : Nat) : D → Env → Option Env := fun d ρ => some (ρ.set i (some d))
def tgNil : List D → Env → Option Env := fun ds ρ => match ds with
  | [] => some ρ
  | _ => none
def tgCons (g : D → Env → Option Env) (gs : List D → Env → Option Env) : List D → Env → Option Env := fun ds ρ => match ds with
  | d :: r => (g d ρ).bind fun ρ1 => gs r ρ1
  | [] => none
def tgT (n : Nat) (gs : List D → Env → Option Env) : D → Env → Option Env := fun d ρ => match d with
  | .tup xs => if xs.length = n then gs xs ρ else none
  | _ => none
/-- x[i] = v, x a name -/
def subPut (ρ : Env) (k : Nat) (d : D) : List D → Option D → Option Env
  | [.int i], some (.lst true xs) => (ixN xs.length i).bind fun j => some (ρ.set k (some (.lst true (xs.set j d))))
  | _, _ => none
def tgSub (k : Nat) (oi : Op) : D → Env → Option Env := fun d ρ => (getS ρ k).bind fun _ => (evOps [oi] ρ).bind fun p => (fetch [oi] p.1 p.2).bind fun ds => subPut p.2 k d ds (getS p.2 k)
section
variable {K : PySem.W.Frag} {pn : Nat → Bool} {W : WX}
theorem own_set {F : Nat → List Addr} {i : Nat} {L : List Addr} {a : Addr} (h : own (fset F i L) a) : own F a ∨ a ∈ L := by
  obtain ⟨j, h⟩ := h
  by_cases hj : j = i
  · subst hj; rw [fset_same] at h; exact .inr h
  · rw [fset_ne hj] at h; exact .inl ⟨j, h⟩
theorem REnv.put' {G H : Hp} {σ : L2.St} {ρ : Env} {F : Nat → List Addr} (r : REnv K G H σ ρ F) (i : Nat) {v : V} {d : D} {L : List Addr} (h : Rep K G H v d L) (n : ∀ a ∈ L, ¬ own F a) :
    ∃ F', REnv K G H (σ.set i (some v)) (ρ.set i (some d)) F' ∧ ∀ a, own F' a → own F a ∨ a ∈ L := by
  by_cases hi : i < ρ.length
  · exact ⟨_, r.put hi h fun a ha j _ z => n a ha ⟨j, z⟩, fun a h => own_set h⟩
  · refine ⟨F, ?_, fun a h => .inl h⟩
    have hl := r.len
    rw [List.set_eq_of_length_le (l := σ) (by omega), List.set_eq_of_length_le (l := ρ) (by omega)]
    exact r
theorem simG_name {i : Nat} (hp : pn i = false) : SimG K pn (gName i) (tgN i) := by
  intro d ρ ρ' e v σ G H F L r h n Q q
  cases e
  obtain ⟨F', r', o⟩ := r.put' i h n
  exact q _ G H F' ((Tr.refl r.sub).post o) r' (Pin.set hp)
theorem simGs_nil : SimGs K pn gNil tgNil := by
  intro ds ρ ρ' e vs σ G H F L r h n Q q
  cases ds with
  | nil =>
    cases h
    cases e
    exact ⟨rfl, q σ G H F ((Tr.refl r.sub).post fun a h => .inl h) r Pin.refl⟩
  | cons _ _ => cases e
theorem simGs_cons {g : TG} {gs : TGs} {f : D → Env → Option Env} {fs : List D → Env → Option Env} (h1 : SimG K pn g f) (h2 : SimGs K pn gs fs) : SimGs K pn (gCons g gs) (tgCons f fs) := by
  intro ds ρ ρ' e vs σ G H F L r h n Q q
  cases h with
  | nil => cases e
  | cons hv hr nn =>
    rename_i v d L1 L2 vs ds
    have e1 : (f d ρ).bind (fun ρ1 => fs ds ρ1) = some ρ' := e
    cases hf : f d ρ with
    | none => rw [hf] at e1; cases e1
    | some ρ1 =>
      rw [hf] at e1
      refine ⟨v, vs, rfl, h1 d ρ ρ1 hf v σ G H F L1 r hv (fun a ha => n a (List.mem_append_left _ ha)) _ fun σ1 G1 H1 F1 t1 r1 p1 => ?_⟩
      have n2 : ∀ a ∈ L2, ¬ (own F a ∨ a ∈ L1) := fun a ha z => z.elim (n a (List.mem_append_right _ ha)) fun z => nn a z ha
      refine h2 ds ρ1 ρ' e1 vs σ1 G1 H1 F1 L2 r1 (hr.tr t1 n2) (t1.apart hr.owned n2) Q fun σ2 G2 H2 F2 t2 r2 p2 => ?_
      refine q σ2 G2 H2 F2 (Tr.trans (t1.wk (A2 := fun a => own F1 a ∨ a ∈ L2) (fun a h => ?_) fun a h => ?_) t2) r2 (p1.trans p2)
      · exact h.imp id fun z => List.mem_append_left _ z
      · rcases h with h | h
        · exact .inl h
        · exact .inr (.inl (.inr (List.mem_append_right _ h)))
theorem simG_tup {n : Nat} {gs : TGs} {fs : List D → Env → Option Env} (h : SimGs K pn gs fs) : SimG K pn (gTup K n gs) (tgT n fs) := by
  intro d ρ ρ' e v σ G H F L r hv nn Q q
  cases d with
  | tup xs =>
    cases hv with
    | tup hs hr =>
      rename_i a vs
      have e1 : (if xs.length = n then fs xs ρ else none) = some ρ' := e
      by_cases hn : xs.length = n
      · rw [if_pos hn] at e1
        exact ⟨a, vs, rfl, Same.seqT r.sub hs, by rw [hr.length]; exact hn, h xs ρ ρ' e1 vs σ G H F L r hr nn Q q⟩
      · rw [if_neg hn] at e1; cases e1
  | _ => cases e
theorem simS_pass : SimS K pn W tNext passF := by
  intro ρ o e σ G H F r E q
  cases e
  exact q σ G H F (Tr.refl r.sub) r Pin.refl
theorem simS_brk : SimS K pn W tBreak brkF := by
  intro ρ o e σ G H F r E q
  cases e
  exact q σ G H F (Tr.refl r.sub) r Pin.refl
theorem simS_never : SimS K pn W tNever neverF := by
  intro ρ o e; cases e
theorem PostE.mono {σ σ1 : L2.St} {G H G1 H1 : Hp} {A A1 : Addr → Prop} {ρ' : Env} {R : L2.St → Hp → Prop} (q : PostE K pn σ G H A ρ' R) (t : Tr G H A G1 H1 A1) (p : Pin pn σ σ1) : PostE K pn σ1 G1 H1 A1 ρ' R :=
  fun σ' G' H' F' t' r' p' => q σ' G' H' F' (t.trans t') r' (p.trans p')
theorem Post.mono {σ σ1 : L2.St} {G H G1 H1 : Hp} {A A1 : Addr → Prop} {o : Out} {E : Ends} (q : Post K pn W σ G H A E o) (t : Tr G H A G1 H1 A1) (p : Pin pn σ σ1) : Post K pn W σ1 G1 H1 A1 E o := by
  cases o with
  | nx ρ' => exact PostE.mono q t p
  | bk ρ' => exact PostE.mono q t p
  | ct ρ' => exact PostE.mono q t p
  | rt d ρ' => exact fun v σ' G' H' F' L t' r' p' => q v σ' G' H' F' L (t.trans t') r' (p.trans p')
  | rz n d ρ' => exact fun σ' G' H' F' C dd v t' r' p' => q σ' G' H' F' C dd v (t.trans t') r' (p.trans p')
theorem simS_seq {t u : TS} {f g : FS} (h1 : SimS K pn W t f) (h2 : SimS K pn W u g) : SimS K pn W (tSeq t u) (seqF f g) := by
  intro ρ o e σ G H F r E q
  unfold seqF at e
  cases hf : f ρ with
  | none => rw [hf] at e; cases e
  | some o1 =>
    rw [hf] at e
    refine h1 ρ o1 hf σ G H F r _ ?_
    cases o1 with
    | nx ρ1 => exact fun σ1 G1 H1 F1 t1 r1 p1 => h2 ρ1 o e σ1 G1 H1 F1 r1 E (q.mono t1 p1)
    | bk ρ1 => cases e; exact q
    | ct ρ1 => cases e; exact q
    | rt d ρ1 => cases e; exact q
    | rz n d ρ1 => cases e; exact q
theorem simS_asg {te : TE} {g : TG} {f : FE} {fg : D → Env → Option Env} (h1 : SimE K te f) (h2 : SimG K pn g fg) : SimS K pn W (tAsg te g) (asgF f fg) := by
  intro ρ o e σ G H F r E q
  unfold asgF at e
  cases hf : f ρ with
  | none => rw [hf] at e; cases e
  | some p =>
    obtain ⟨d, ρ1⟩ := p
    rw [hf] at e
    have e1 : (fg d ρ1).bind (fun ρ' => some (Out.nx ρ')) = some o := e
    cases hg : fg d ρ1 with
    | none => rw [hg] at e1; cases e1
    | some ρ2 =>
      rw [hg] at e1; cases e1
      refine h1 ρ d ρ1 hf σ G H F r _ fun v G1 H1 F1 L t1 r1 rv n1 => ?_
      refine h2 d ρ1 ρ2 hg v σ G1 H1 F1 L r1 rv n1 _ fun σ2 G2 H2 F2 t2 r2 p2 => ?_
      exact q σ2 G2 H2 F2 (t1.trans t2) r2 p2
theorem simS_drop {te : TE} {f : FE} (h1 : SimE K te f) : SimS K pn W (tDrop te) (dropF f) := by
  intro ρ o e σ G H F r E q
  unfold dropF at e
  cases hf : f ρ with
  | none => rw [hf] at e; cases e
  | some p =>
    obtain ⟨d, ρ1⟩ := p
    rw [hf] at e; cases e
    exact h1 ρ d ρ1 hf σ G H F r _ fun v G1 H1 F1 L t1 r1 rv n1 => q σ G1 H1 F1 (t1.post fun a h => .inl h) r1 Pin.refl
theorem simS_ret {te : TE} {f : FE} (h1 : SimE K te f) : SimS K pn W (tRet te) (retF f) := by
  intro ρ o e σ G H F r E q
  unfold retF at e
  cases hf : f ρ with
  | none => rw [hf] at e; cases e
  | some p =>
    obtain ⟨d, ρ1⟩ := p
    rw [hf] at e; cases e
    exact h1 ρ d ρ1 hf σ G H F r _ fun v G1 H1 F1 L t1 r1 rv n1 => q v σ G1 H1 F1 L t1 r1 Pin.refl rv n1
theorem simS_if {c : TT} {t u : TS} {fc : FB} {f g : FS} (h0 : SimT K c fc) (h1 : SimS K pn W t f) (h2 : SimS K pn W u g) : SimS K pn W (tIfS c t u) (ifF fc f g) := by
  intro ρ o e σ G H F r E q
  unfold ifF at e
  cases hf : fc ρ with
  | none => rw [hf] at e; cases e
  | some p =>
    obtain ⟨b, ρ1⟩ := p
    rw [hf] at e
    refine h0 ρ b ρ1 hf σ G H F r _ fun G1 H1 F1 t1 r1 => ?_
    cases b with
    | true => rw [if_pos rfl]; exact h1 ρ1 o e σ G1 H1 F1 r1 E (q.mono t1 Pin.refl)
    | false => rw [if_neg Bool.false_ne_true]; exact h2 ρ1 o e σ G1 H1 F1 r1 E (q.mono t1 Pin.refl)
/-- a value is frozen -/
theorem REnv.frz {G H : Hp} {σ : L2.St} {ρ : Env} {F : Nat → List Addr} {v : V} {d : D} {L : List Addr} (r : REnv K G H σ ρ F) (h : Rep K G H v d L) (n : ∀ a ∈ L, ¬ own F a) :
    ∃ G1, Tr G H (fun a => own F a ∨ a ∈ L) G1 H (own F) ∧ REnv K G1 H σ ρ F ∧ Rep K G1 H v (freeze d) [] := by
  have ho := h.owned
  refine ⟨fun a => if a ∈ L then H a else G a, ?_⟩
  have hG : ∀ a, a ∉ L → (fun a => if a ∈ L then H a else G a : Hp) a = G a := fun a h => if_neg h
  have hG1 : ∀ a ∈ L, (fun a => if a ∈ L then H a else G a : Hp) a = H a := fun a h => if_pos h
  generalize (fun a => if a ∈ L then H a else G a : Hp) = G1 at hG hG1
  have s1 : Same G G1 := fun a o h => by
    have : a ∉ L := fun z => by rw [(ho a z).1] at h; cases h
    rw [hG a this]; exact h
  have s2 : Same G1 H := fun a o h => by
    by_cases z : a ∈ L
    · rw [hG1 a z] at h; exact h
    · rw [hG a z] at h; exact r.sub a o h
  refine ⟨⟨s1, s2, fun _ _ h _ => h, fun a o h n => hG a fun z => n (.inr z), fun a h => .inl (.inl h), fun _ h => h⟩, ⟨s2, r.len, fun i e q => ?_, r.off, r.dis⟩, h.frz s1 hG1⟩
  obtain ⟨w, e1, e2⟩ := r.at_ i e q
  exact ⟨w, e1, e2.keep ⟨s1, fun a ha hg => by rw [hG a fun z => n a z ⟨i, ha⟩]; exact hg, fun a _ => rfl⟩⟩
end
/-! ### a bool as a test, and the other way -/
def truD : D → Option Bool
  | .non => some false
  | .bl b => some b
  | .int i => some (i != 0)
  | .str y => if y.length ≤ sizeLine then some ((y.length : Int) != 0) else none
  | .tup xs => some (!xs.isEmpty)
  | .lst _ xs => some (!xs.isEmpty)
  | .ty _ => none
  | .scr ns => some (!ns.isEmpty)
  | .exc _ _ => none
  | .dct _ kvs => some (!kvs.isEmpty)
/-- an expression's truth -/
def tstF (o : Op) : FB := fun ρ => (evOps [o] ρ).bind fun p => (fetch [o] p.1 p.2).bind fun ds => match ds with
  | [d] => (truD d).bind fun b => some (b, p.2)
  | _ => none
def notF (f : FB) : FB := fun ρ => (f ρ).bind fun p => some (!p.1, p.2)
def andF (f g : FB) : FB := fun ρ => (f ρ).bind fun p => if p.1 = true then g p.2 else some (false, p.2)
def orF (f g : FB) : FB := fun ρ => (f ρ).bind fun p => if p.1 = true then some (true, p.2) else g p.2
/-- a test's answer as a value -/
def bE (f : FB) : FE := fun ρ => (f ρ).bind fun p => some (.bl p.1, p.2)
def bT (f : FE) : FB := fun ρ => (f ρ).bind fun p => match p.1 with
  | .bl b => some (b, p.2)
  | _ => none
def ifE (c : FB) (f g : FE) : FE := fun ρ => (c ρ).bind fun p => if p.1 = true then f p.2 else g p.2
def andV (f g : FE) : FE := fun ρ => (f ρ).bind fun p => match p.1 with
  | .bl true => g p.2
  | .bl false => some (.bl false, p.2)
  | _ => none
def orV (f g : FE) : FE := fun ρ => (f ρ).bind fun p => match p.1 with
  | .bl false => g p.2
  | .bl true => some (.bl true, p.2)
  | _ => none
def notV (f : FE) : FE := fun ρ => (f ρ).bind fun p => match p.1 with
  | .bl b => some (.bl (!b), p.2)
  | _ => none
section
variable {K : PySem.W.Frag}
theorem len_emp {vs : List V} {xs : List D} (h : vs.length = xs.length) : (!xs.isEmpty) = !vs.isEmpty := by
  cases vs <;> cases xs <;> first | rfl | cases h
theorem Rep.tru {G H : Hp} {v : V} {d : D} {L : List Addr} {b : Bool} (hs : Same G H) (r : Rep K G H v d L) (h : truD d = some b) : TruV K v H b := by
  cases r with
  | non => cases h; rfl
  | bl c => cases h; rfl
  | int i => cases h; rfl
  | ty n => cases h
  | exc _ _ _ _ => cases h
  | str s =>
    have h' : (if s.length ≤ sizeLine then some ((s.length : Int) != 0) else none) = some b := h
    by_cases hl : s.length ≤ sizeLine
    · rw [if_pos hl] at h'; cases h'; exact ⟨hl, rfl⟩
    · rw [if_neg hl] at h'; cases h'
  | tup q r =>
    cases h
    exact .inr (.inl ⟨_, Same.seqT hs q, len_emp r.length⟩)
  | scr q =>
    cases h
    exact .inl ⟨_, Same.seq hs q, by cases ‹List Int› <;> rfl⟩
  | lstS q r e =>
    cases h
    exact .inl ⟨_, SqL.of (hs _ _ q), len_emp r.length⟩
  | lstO _ q _ r =>
    cases h
    exact .inl ⟨_, SqL.of q, len_emp r.length⟩
  | dctS q =>
    cases h
    exact .inr (.inr ⟨_, hs _ _ q, by cases ‹List (Int × Int)› <;> rfl⟩)
  | dctO _ q =>
    cases h
    exact .inr (.inr ⟨_, q, by cases ‹List (Int × Int)› <;> rfl⟩)
theorem simT_tst {te : TE} {o : Op} (h : SimO K te o) : SimT K (fun σ H Q => te σ H fun x H' => ∃ k, TruV K x H' k ∧ Q k H') (tstF o) := by
  intro ρ b ρ' e σ G H F r Q q
  unfold tstF at e
  cases he : evOps [o] ρ with
  | none => rw [he] at e; cases e
  | some p =>
    obtain ⟨ts, ρ1⟩ := p
    rw [he] at e
    cases hf : fetch [o] ts ρ1 with
    | none =>
      have e2 : (fetch [o] ts ρ1).bind (fun ds => match ds with | [d] => (truD d).bind fun b => some (b, ρ1) | _ => none) = some (b, ρ') := e
      rw [hf] at e2; cases e2
    | some ds =>
      have e2 : (fetch [o] ts ρ1).bind (fun ds => match ds with | [d] => (truD d).bind fun b => some (b, ρ1) | _ => none) = some (b, ρ') := e
      rw [hf] at e2
      have key := simA_cons (ta := tNil) (ops := []) h simA_nil ρ ts ρ1 he σ G H F r (fun vs H1 => ∀ x, vs = [x] → ∃ k, TruV K x H1 k ∧ Q k H1) fun vs G1 H1 F1 M t1 r1 ok n1 x ev => ?_
      · have : te σ H fun x H1 => ∀ y, [x] = [y] → ∃ k, TruV K y H1 k ∧ Q k H1 := key
        have m : (fun (x : V) H1 => ∀ y, [x] = [y] → ∃ k, TruV K y H1 k ∧ Q k H1) = (fun x H1 => ∃ k, TruV K x H1 k ∧ Q k H1) := by
          funext x H1
          exact propext ⟨fun h => h x rfl, fun h y e => by cases e; exact h⟩
        rw [m] at this
        exact this
      · subst ev
        have rl := ok.get r1 hf
        cases rl with
        | cons rv rr =>
          cases rr
          rename_i d L
          cases ht : truD d with
          | none => have e3 : (truD d).bind (fun b => some (b, ρ1)) = some (b, ρ') := e2; rw [ht] at e3; cases e3
          | some b1 =>
            have e3 : (truD d).bind (fun b => some (b, ρ1)) = some (b, ρ') := e2
            rw [ht] at e3; cases e3
            exact ⟨b, rv.tru r1.sub ht, q G1 H1 F1 (t1.post fun a h => .inl h) r1⟩
theorem simT_of {te : TE} {f : FE} (h : SimE K te f) : SimT K (fun σ H Q => te σ H fun x H' => ∃ k, x = .bl k ∧ Q k H') (bT f) := by
  intro ρ b ρ' e σ G H F r Q q
  unfold bT at e
  cases hf : f ρ with
  | none => rw [hf] at e; cases e
  | some p =>
    obtain ⟨d, ρ1⟩ := p
    rw [hf] at e
    cases d with
    | bl c =>
      cases e
      refine h ρ _ _ hf σ G H F r _ fun v G1 H1 F1 L t1 r1 rv n1 => ?_
      cases rv
      exact ⟨_, rfl, q G1 H1 F1 (t1.post fun a h => .inl h) r1⟩
    | _ => cases e
theorem simT_not {t : TT} {f : FB} (h : SimT K t f) : SimT K (tNot t) (notF f) := by
  intro ρ b ρ' e σ G H F r Q q
  unfold notF at e
  cases hf : f ρ with
  | none => rw [hf] at e; cases e
  | some p =>
    rw [hf] at e; cases e
    exact h ρ _ _ hf σ G H F r _ fun G1 H1 F1 t1 r1 => q G1 H1 F1 t1 r1
theorem simT_and {t u : TT} {f g : FB} (h1 : SimT K t f) (h2 : SimT K u g) : SimT K (tAnd t u) (andF f g) := by
  intro ρ b ρ' e σ G H F r Q q
  unfold andF at e
  cases hf : f ρ with
  | none => rw [hf] at e; cases e
  | some p =>
    obtain ⟨c, ρ1⟩ := p
    rw [hf] at e
    refine h1 ρ c ρ1 hf σ G H F r _ fun G1 H1 F1 t1 r1 => ?_
    cases c with
    | true => rw [if_pos rfl]; exact h2 ρ1 b ρ' e σ G1 H1 F1 r1 Q fun G2 H2 F2 t2 r2 => q G2 H2 F2 (t1.trans t2) r2
    | false => cases e; rw [if_neg Bool.false_ne_true]; exact q G1 H1 F1 t1 r1
theorem simT_or {t u : TT} {f g : FB} (h1 : SimT K t f) (h2 : SimT K u g) : SimT K (tOr t u) (orF f g) := by
  intro ρ b ρ' e σ G H F r Q q
  unfold orF at e
  cases hf : f ρ with
  | none => rw [hf] at e; cases e
  | some p =>
    obtain ⟨c, ρ1⟩ := p
    rw [hf] at e
    refine h1 ρ c ρ1 hf σ G H F r _ fun G1 H1 F1 t1 r1 => ?_
    cases c with
    | true => cases e; rw [if_pos rfl]; exact q G1 H1 F1 t1 r1
    | false => rw [if_neg Bool.false_ne_true]; exact h2 ρ1 b ρ' e σ G1 H1 F1 r1 Q fun G2 H2 F2 t2 r2 => q G2 H2 F2 (t1.trans t2) r2
theorem simE_if {t : TT} {ta tb : TE} {c : FB} {f g : FE} (h0 : SimT K t c) (h1 : SimE K ta f) (h2 : SimE K tb g) : SimE K (tIf t ta tb) (ifE c f g) := by
  intro ρ d ρ' e σ G H F r Q q
  unfold ifE at e
  cases hf : c ρ with
  | none => rw [hf] at e; cases e
  | some p =>
    obtain ⟨b, ρ1⟩ := p
    rw [hf] at e
    refine h0 ρ b ρ1 hf σ G H F r _ fun G1 H1 F1 t1 r1 => ?_
    cases b with
    | true => rw [if_pos rfl]; exact h1 ρ1 d ρ' e σ G1 H1 F1 r1 Q fun v G2 H2 F2 L t2 r2 => q v G2 H2 F2 L (t1.trans t2) r2
    | false => rw [if_neg Bool.false_ne_true]; exact h2 ρ1 d ρ' e σ G1 H1 F1 r1 Q fun v G2 H2 F2 L t2 r2 => q v G2 H2 F2 L (t1.trans t2) r2
theorem simE_andV {ta tb : TE} {f g : FE} (h1 : SimE K ta f) (h2 : SimE K tb g) : SimE K (tAndV ta tb) (andV f g) := by
  intro ρ d ρ' e σ G H F r Q q
  unfold andV at e
  cases hf : f ρ with
  | none => rw [hf] at e; cases e
  | some p =>
    obtain ⟨b, ρ1⟩ := p
    rw [hf] at e
    refine h1 ρ b ρ1 hf σ G H F r _ fun v G1 H1 F1 L t1 r1 rv n1 => ?_
    cases b with
    | bl c =>
      cases rv
      refine ⟨c, rfl, ?_⟩
      have t1' : Tr G H (own F) G1 H1 (own F1) := t1.post fun a h => .inl h
      cases c with
      | true => rw [if_pos rfl]; exact h2 ρ1 d ρ' e σ G1 H1 F1 r1 Q fun v G2 H2 F2 L t2 r2 => q v G2 H2 F2 L (t1'.trans t2) r2
      | false => cases e; rw [if_neg Bool.false_ne_true]; exact q _ G1 H1 F1 [] (t1.post fun a h => .inl (h.elim id fun z => nomatch z)) r1 (.bl false) (fun a z => nomatch z)
    | _ => cases e
theorem simE_orV {ta tb : TE} {f g : FE} (h1 : SimE K ta f) (h2 : SimE K tb g) : SimE K (tOrV ta tb) (orV f g) := by
  intro ρ d ρ' e σ G H F r Q q
  unfold orV at e
  cases hf : f ρ with
  | none => rw [hf] at e; cases e
  | some p =>
    obtain ⟨b, ρ1⟩ := p
    rw [hf] at e
    refine h1 ρ b ρ1 hf σ G H F r _ fun v G1 H1 F1 L t1 r1 rv n1 => ?_
    cases b with
    | bl c =>
      cases rv
      refine ⟨c, rfl, ?_⟩
      have t1' : Tr G H (own F) G1 H1 (own F1) := t1.post fun a h => .inl h
      cases c with
      | false => rw [if_neg Bool.false_ne_true]; exact h2 ρ1 d ρ' e σ G1 H1 F1 r1 Q fun v G2 H2 F2 L t2 r2 => q v G2 H2 F2 L (t1'.trans t2) r2
      | true => cases e; rw [if_pos rfl]; exact q _ G1 H1 F1 [] (t1.post fun a h => .inl (h.elim id fun z => nomatch z)) r1 (.bl true) (fun a z => nomatch z)
    | _ => cases e
theorem simE_notV {ta : TE} {f : FE} (h1 : SimE K ta f) : SimE K (tNotV ta) (notV f) := by
  intro ρ d ρ' e σ G H F r Q q
  unfold notV at e
  cases hf : f ρ with
  | none => rw [hf] at e; cases e
  | some p =>
    obtain ⟨b, ρ1⟩ := p
    rw [hf] at e
    refine h1 ρ b ρ1 hf σ G H F r _ fun v G1 H1 F1 L t1 r1 rv n1 => ?_
    cases b with
    | bl c =>
      cases rv; cases e
      exact ⟨c, rfl, q _ G1 H1 F1 [] (t1.post fun a h => .inl (h.elim id fun z => nomatch z)) r1 (.bl _) (fun a z => nomatch z)⟩
    | _ => cases e
end
end VS
set_option Elab.async false
set_option linter.all false
set_option maxRecDepth 100000
namespace VS
open PySem PySem.Spec PyProof.Rows L2
/-! ### loops -/
abbrev FI := Env → Option (List D × Env)
def goFor (tg : D → Env → Option Env) (body : FS) : List D → Env → Option Out
  | [], ρ => some (.nx ρ)
  | d :: ds, ρ => (tg d ρ).bind fun ρ1 => (body ρ1).bind fun o => match o with
    | .nx ρ2 => goFor tg body ds ρ2
    | .ct ρ2 => goFor tg body ds ρ2
    | .bk ρ2 => some (.nx ρ2)
    | .rt d ρ2 => some (.rt d ρ2)
    | .rz n d ρ2 => some (.rz n d ρ2)
def forF (it : FI) (tg : D → Env → Option Env) (body : FS) : FS := fun ρ => (it ρ).bind fun p => goFor tg body p.1 p.2
structure JOk (K : PySem.W.Frag) (J : It) (G0 : Hp) (ds : List D) : Prop where
  goes : ∀ i H, i < ds.length → Same G0 H → J.go i H
  stops : ∀ H, Same G0 H → J.stop ds.length H
  yields : ∀ i d G H x H', ds[i]? = some d → Same G0 G → Same G H → J.yld i H x H' → ∃ G', Tr G H (fun _ => False) G' H' (fun _ => False) ∧ Rep K G' H' x d []
def SimI (K : PySem.W.Frag) (wi : TI) (fi : FI) : Prop := ∀ ρ ds ρ', fi ρ = some (ds, ρ') → ∀ (σ : L2.St) (G H : Hp) (F : Nat → List Addr), REnv K G H σ ρ F → ∀ R : It → Hp → Prop,
  (∀ J G' H' F', Tr G H (own F) G' H' (own F') → REnv K G' H' σ ρ' F' → JOk K J G' ds → R J H') → wi σ H R
section
variable {K : PySem.W.Frag} {pn : Nat → Bool} {W : WX}
theorem simS_for {wi : TI} {g : TG} {tb : TS} {fi : FI} {fg : D → Env → Option Env} {fb : FS} (hi : SimI K wi fi) (hg : SimG K pn g fg) (hb : SimS K pn W tb fb) : SimS K pn W (tFor wi g tb) (forF fi fg fb) := by
  intro ρ o e σ G H F r E q
  unfold forF at e
  cases hf : fi ρ with
  | none => rw [hf] at e; cases e
  | some p =>
    obtain ⟨ds, ρ1⟩ := p
    rw [hf] at e
    have e0 : goFor fg fb ds ρ1 = some o := e
    refine hi ρ ds ρ1 hf σ G H F r _ fun J G1 H1 F1 t1 r1 jo => ?_
    refine ⟨fun i m σ' H' => m = ds.length - i ∧ i ≤ ds.length ∧ ∃ ρi Gi Fi, goFor fg fb (ds.drop i) ρi = some o ∧ REnv K Gi H' σ' ρi Fi ∧ Tr G1 H1 (own F1) Gi H' (own Fi) ∧ Pin pn σ σ',
      ⟨ds.length, by omega, Nat.zero_le _, ρ1, G1, F1, e0, r1, Tr.refl r1.sub, Pin.refl⟩, ?_⟩
    rintro i m σ' H' ⟨rfl, hle, ρi, Gi, Fi, eg, ri, ti, pi⟩
    have sG : Same G1 Gi := ti.g
    have sH : Same G1 H' := ti.g.trans ti.sub
    have qi := q.mono (t1.trans ti) pi
    by_cases hlt : i < ds.length
    · refine .inr ⟨jo.goes i H' hlt sH, fun σ2 H2 => ∃ m', m' < ds.length - i ∧ (m' = ds.length - (i + 1) ∧ i + 1 ≤ ds.length ∧ ∃ ρj Gj Fj, goFor fg fb (ds.drop (i + 1)) ρj = some o ∧ REnv K Gj H2 σ2 ρj Fj ∧ Tr G1 H1 (own F1) Gj H2 (own Fj) ∧ Pin pn σ σ2), fun _ _ h => h, fun x H2 hy => ?_⟩
      have hd : ds[i]? = some ds[i] := List.getElem?_eq_getElem hlt
      obtain ⟨G2, t2, rv⟩ := jo.yields i ds[i] Gi H' x H2 hd sG ri.sub hy
      have r2 := ri.tr t2 (fun _ _ z => z)
      have t2' : Tr Gi H' (own Fi) G2 H2 (own Fi) := t2.wk (fun _ z => z.elim) fun a h => .inr (.inl h)
      rw [show ds.drop i = ds[i] :: ds.drop (i + 1) from List.drop_eq_getElem_cons hlt] at eg
      have eg1 : (fg ds[i] ρi).bind (fun ρ1 => (fb ρ1).bind fun o => match o with | .nx ρ2 => goFor fg fb (ds.drop (i + 1)) ρ2 | .ct ρ2 => goFor fg fb (ds.drop (i + 1)) ρ2 | .bk ρ2 => some (.nx ρ2) | .rt d ρ2 => some (.rt d ρ2) | .rz n d ρ2 => some (.rz n d ρ2)) = some o := eg
      cases hg1 : fg ds[i] ρi with
      | none => rw [hg1] at eg1; cases eg1
      | some ρ2 =>
        rw [hg1] at eg1
        have eg2 : (fb ρ2).bind (fun o => match o with | .nx ρ2 => goFor fg fb (ds.drop (i + 1)) ρ2 | .ct ρ2 => goFor fg fb (ds.drop (i + 1)) ρ2 | .bk ρ2 => some (Out.nx ρ2) | .rt d ρ2 => some (.rt d ρ2) | .rz n d ρ2 => some (.rz n d ρ2)) = some o := eg1
        refine hg ds[i] ρi ρ2 hg1 x σ' G2 H2 Fi [] r2 rv (fun a z => nomatch z) _ fun σ3 G3 H3 F3 t3 r3 p3 => ?_
        have t3' : Tr G2 H2 (own Fi) G3 H3 (own F3) := t3.wk (fun a h => h.elim id fun z => nomatch z) fun a h => .inl h
        have q3 := qi.mono (t2'.trans t3') p3
        have tt : Tr G1 H1 (own F1) G3 H3 (own F3) := ti.trans (t2'.trans t3')
        cases hb1 : fb ρ2 with
        | none => rw [hb1] at eg2; cases eg2
        | some o2 =>
          rw [hb1] at eg2
          refine hb ρ2 o2 hb1 σ3 G3 H3 F3 r3 _ ?_
          have go : ∀ ρ4, goFor fg fb (ds.drop (i + 1)) ρ4 = some o → PostE K pn σ3 G3 H3 (own F3) ρ4 (fun σ2 H2 => ∃ m', m' < ds.length - i ∧ (m' = ds.length - (i + 1) ∧ i + 1 ≤ ds.length ∧ ∃ ρj Gj Fj, goFor fg fb (ds.drop (i + 1)) ρj = some o ∧ REnv K Gj H2 σ2 ρj Fj ∧ Tr G1 H1 (own F1) Gj H2 (own Fj) ∧ Pin pn σ σ2)) :=
            fun ρ4 e4 σ4 G4 H4 F4 t4 r4 p4 => ⟨_, by omega, rfl, hlt, ρ4, G4, F4, e4, r4, tt.trans t4, pi.trans (p3.trans p4)⟩
          cases o2 with
          | nx ρ4 => exact go ρ4 eg2
          | ct ρ4 => exact go ρ4 eg2
          | bk ρ4 => cases eg2; exact q3
          | rt d ρ4 => cases eg2; exact q3
          | rz n d ρ4 => cases eg2; exact q3
    · have ei : i = ds.length := by omega
      subst ei
      rw [List.drop_length] at eg
      cases eg
      exact .inl ⟨jo.stops H' sH, qi σ' Gi H' Fi (Tr.refl ri.sub) ri Pin.refl⟩
/-! ### while, by fuel -/
def goWhile (c : FB) (body : FS) : Nat → Env → Option Out
  | 0, _ => none
  | n + 1, ρ => (c ρ).bind fun p => if p.1 = true then (body p.2).bind fun o => match o with
      | .nx ρ2 => goWhile c body n ρ2
      | .ct ρ2 => goWhile c body n ρ2
      | .bk ρ2 => some (.nx ρ2)
      | .rt d ρ2 => some (.rt d ρ2)
      | .rz n d ρ2 => some (.rz n d ρ2)
    else some (.nx p.2)
def whF (n : Nat) (c : FB) (body : FS) : FS := fun ρ => goWhile c body n ρ
theorem simS_while {c : TT} {tb : TS} {fc : FB} {fb : FS} (n : Nat) (hc : SimT K c fc) (hb : SimS K pn W tb fb) : SimS K pn W (tWhile c tb) (whF n fc fb) := by
  intro ρ o e σ G H F r E q
  have e0 : goWhile fc fb n ρ = some o := e
  refine ⟨fun m σ' H' => ∃ ρi Gi Fi, goWhile fc fb m ρi = some o ∧ REnv K Gi H' σ' ρi Fi ∧ Tr G H (own F) Gi H' (own Fi) ∧ Pin pn σ σ', ⟨n, ρ, G, F, e0, r, Tr.refl r.sub, Pin.refl⟩, ?_⟩
  rintro m σ' H' ⟨ρi, Gi, Fi, eg, ri, ti, pi⟩
  have qi := q.mono ti pi
  cases m with
  | zero => cases eg
  | succ m =>
    have eg1 : (fc ρi).bind (fun p => if p.1 = true then (fb p.2).bind (fun o => match o with | .nx ρ2 => goWhile fc fb m ρ2 | .ct ρ2 => goWhile fc fb m ρ2 | .bk ρ2 => some (.nx ρ2) | .rt d ρ2 => some (.rt d ρ2) | .rz n d ρ2 => some (.rz n d ρ2)) else some (.nx p.2)) = some o := eg
    cases hc1 : fc ρi with
    | none => rw [hc1] at eg1; cases eg1
    | some p =>
      obtain ⟨b, ρ2⟩ := p
      rw [hc1] at eg1
      refine hc ρi b ρ2 hc1 σ' Gi H' Fi ri _ fun G2 H2 F2 t2 r2 => ?_
      have q2 := qi.mono t2 Pin.refl
      cases b with
      | false =>
        rw [if_neg Bool.false_ne_true]
        cases eg1
        exact q2 σ' G2 H2 F2 (Tr.refl r2.sub) r2 Pin.refl
      | true =>
        rw [if_pos rfl]
        have eg2 : (fb ρ2).bind (fun o => match o with | .nx ρ2 => goWhile fc fb m ρ2 | .ct ρ2 => goWhile fc fb m ρ2 | .bk ρ2 => some (Out.nx ρ2) | .rt d ρ2 => some (.rt d ρ2) | .rz n d ρ2 => some (.rz n d ρ2)) = some o := eg1
        refine ⟨fun σ3 H3 => ∃ m', m' < m + 1 ∧ ∃ ρi Gi Fi, goWhile fc fb m' ρi = some o ∧ REnv K Gi H3 σ3 ρi Fi ∧ Tr G H (own F) Gi H3 (own Fi) ∧ Pin pn σ σ3, fun _ _ h => h, ?_⟩
        cases hb1 : fb ρ2 with
        | none => rw [hb1] at eg2; cases eg2
        | some o2 =>
          rw [hb1] at eg2
          refine hb ρ2 o2 hb1 σ' G2 H2 F2 r2 _ ?_
          have go : ∀ ρ4, goWhile fc fb m ρ4 = some o → PostE K pn σ' G2 H2 (own F2) ρ4 (fun σ3 H3 => ∃ m', m' < m + 1 ∧ ∃ ρi Gi Fi, goWhile fc fb m' ρi = some o ∧ REnv K Gi H3 σ3 ρi Fi ∧ Tr G H (own F) Gi H3 (own Fi) ∧ Pin pn σ σ3) :=
            fun ρ4 e4 σ4 G4 H4 F4 t4 r4 p4 => ⟨m, Nat.lt_succ_self m, ρ4, G4, F4, e4, r4, ti.trans (t2.trans t4), pi.trans p4⟩
          cases o2 with
          | nx ρ4 => exact go ρ4 eg2
          | ct ρ4 => exact go ρ4 eg2
          | bk ρ4 => cases eg2; exact q2
          | rt d ρ4 => cases eg2; exact q2
          | rz n d ρ4 => cases eg2; exact q2
/-! ### what is walked -/
theorem Rep.far {G H G1 H1 : Hp} {v : V} {d : D} (r : Rep K G H v d []) (k : Same G G1) : Rep K G1 H1 v d [] := r.keep ⟨k, fun _ z _ => (nomatch z), fun _ z => (nomatch z)⟩
theorem Reps.far {G H G1 H1 : Hp} {v : List V} {d : List D} (r : Reps K G H v d []) (k : Same G G1) : Reps K G1 H1 v d [] := r.keep ⟨k, fun _ z _ => (nomatch z), fun _ z => (nomatch z)⟩
theorem Reps.get0 {G H : Hp} : ∀ {vs : List V} {ds : List D} {L : List Addr} {i : Nat} {v : V} {d : D}, Reps K G H vs ds L → vs[i]? = some v → ds[i]? = some d → ∃ M, Rep K G H v d M ∧ ∀ a ∈ M, a ∈ L
  | _, _, _, i, _, _, .nil, h, _ => by simp at h
  | _, _, _, 0, _, _, .cons hv _ _, h1, h2 => by
    simp at h1 h2; subst h1; subst h2
    exact ⟨_, hv, fun a ha => List.mem_append_left _ ha⟩
  | _, _, _, i + 1, _, _, .cons _ hr _, h1, h2 => by
    obtain ⟨M, q, s⟩ := hr.get0 (i := i) (by simpa using h1) (by simpa using h2)
    exact ⟨M, q, fun a ha => List.mem_append_right _ (s a ha)⟩
theorem jok_list {G0 H0 : Hp} {a : Addr} {vs : List V} {ds : List D} (h : SqL K G0 a vs) (r : Reps K G0 H0 vs ds []) : JOk K (Itl K a) G0 ds := by
  have hl := r.length
  have w := walk_list (K := K) (a := a) (xs := vs)
  refine ⟨fun i H hi s => w.goes i H (by omega) (Same.seq s h), fun H s => by rw [← hl]; exact w.stops H (Same.seq s h), fun i d G H x H' hd s1 s2 y => ?_⟩
  have hi : i < vs.length := by rw [hl]; exact (List.getElem?_eq_some_iff.mp hd).1
  obtain ⟨e, hx⟩ := w.yields i H x H' hi (Same.seq (s1.trans s2) h) y
  subst e
  obtain ⟨M, q, s⟩ := r.get0 hx hd
  have : M = [] := List.eq_nil_iff_forall_not_mem.mpr fun a ha => nomatch s a ha
  subst this
  exact ⟨G, Tr.refl s2, q.far s1⟩
theorem jok_tup {G0 H0 : Hp} {a : Addr} {vs : List V} {ds : List D} (h : SqT K G0 a vs) (r : Reps K G0 H0 vs ds []) : JOk K (Itt K a) G0 ds := by
  have hl := r.length
  have w := walk_tup (K := K) (a := a) (xs := vs)
  refine ⟨fun i H hi s => w.goes i H (by omega) (Same.seqT s h), fun H s => by rw [← hl]; exact w.stops H (Same.seqT s h), fun i d G H x H' hd s1 s2 y => ?_⟩
  have hi : i < vs.length := by rw [hl]; exact (List.getElem?_eq_some_iff.mp hd).1
  obtain ⟨e, hx⟩ := w.yields i H x H' hi (Same.seqT (s1.trans s2) h) y
  subst e
  obtain ⟨M, q, s⟩ := r.get0 hx hd
  have : M = [] := List.eq_nil_iff_forall_not_mem.mpr fun a ha => nomatch s a ha
  subst this
  exact ⟨G, Tr.refl s2, q.far s1⟩
def intsTo (lo : Int) (n : Nat) : List D := (List.range n).map fun i => .int (lo + (i : Nat))
theorem jok_range {G0 : Hp} {lo : Int} {n : Nat} : JOk K (Itr lo n) G0 (intsTo lo n) := by
  have w := walk_range (lo := lo) (n := n)
  have hl : (intsTo lo n).length = n := by unfold intsTo; rw [List.length_map, List.length_range]
  refine ⟨fun i H hi _ => w.goes i H (by omega) trivial, fun H _ => by rw [hl]; exact w.stops H trivial, fun i d G H x H' hd s1 s2 y => ?_⟩
  have hi : i < n := by rw [← hl]; exact (List.getElem?_eq_some_iff.mp hd).1
  obtain ⟨e, hx⟩ := w.yields i H x H' hi trivial y
  subst e
  have : d = .int (lo + (i : Nat)) := by
    unfold intsTo at hd
    rw [List.getElem?_map, List.getElem?_range hi] at hd
    exact (Option.some.inj hd).symm
  subst this
  rw [hx]
  exact ⟨G, Tr.refl s2, .int _⟩
def intsBy (lo c : Int) (n : Nat) : List D := (List.range n).map fun i => .int (lo + (i : Nat) * c)
theorem jok_rangeC {G0 : Hp} {lo c : Int} {n : Nat} : JOk K (Itc lo c n) G0 (intsBy lo c n) := by
  have w := walk_rangeC (lo := lo) (c := c) (n := n)
  have hl : (intsBy lo c n).length = n := by unfold intsBy; rw [List.length_map, List.length_range]
  refine ⟨fun i H hi _ => w.goes i H (by omega) trivial, fun H _ => by rw [hl]; exact w.stops H trivial, fun i d G H x H' hd s1 s2 y => ?_⟩
  have hi : i < n := by rw [← hl]; exact (List.getElem?_eq_some_iff.mp hd).1
  obtain ⟨e, hx⟩ := w.yields i H x H' hi trivial y
  subst e
  have : d = .int (lo + (i : Nat) * c) := by
    unfold intsBy at hd
    rw [List.getElem?_map, List.getElem?_range hi] at hd
    exact (Option.some.inj hd).symm
  subst this
  rw [hx]
  exact ⟨G, Tr.refl s2, .int _⟩
/-- an iterator that gives new pairs -/
theorem jok_pair {G0 : Hp} {J : It} {n : Nat} {P : Hp → Prop} {xs ys : Nat → Option V} {ds es : List D} (w : Walk J n P (YPair xs ys)) (hP : ∀ H, Same G0 H → P H) (hl : ds.length = n) (hl2 : es.length = n)
    (hx : ∀ i d x G H, ds[i]? = some d → xs i = some x → Same G0 G → Rep K G H x d []) (hy : ∀ i d x G H, es[i]? = some d → ys i = some x → Same G0 G → Rep K G H x d []) : JOk K J G0 ((ds.zip es).map fun p => .tup [p.1, p.2]) := by
  have hz : ((ds.zip es).map fun p => D.tup [p.1, p.2]).length = n := by rw [List.length_map, List.length_zip]; omega
  refine ⟨fun i H hi s => w.goes i H (by omega) (hP H s), fun H s => by rw [hz]; exact w.stops H (hP H s), fun i d G H x H' hd s1 s2 y => ?_⟩
  have hi : i < n := by rw [← hz]; exact (List.getElem?_eq_some_iff.mp hd).1
  obtain ⟨T, u, v, rfl, hT, rfl, h1, h2⟩ := w.yields i H x H' hi (hP H (s1.trans s2)) y
  have i1 : i < ds.length := by omega
  have i2 : i < es.length := by omega
  have : d = .tup [ds[i], es[i]] := by
    have hzz : (ds.zip es)[i]? = some (ds[i], es[i]) := List.getElem?_zip_eq_some.mpr ⟨List.getElem?_eq_getElem i1, List.getElem?_eq_getElem i2⟩
    rw [List.getElem?_map, hzz] at hd
    exact (Option.some.inj hd).symm
  subst this
  refine ⟨_, Tr.newG s2 hT, .tup (.inl (.inl upd_same)) ?_⟩
  have sn : Same G (upd G T (.tup [u, v])) := (Tr.newG (A := fun _ => False) s2 hT).g
  have r1 := hx i _ u (upd G T (.tup [u, v])) (upd H T (.tup [u, v])) (List.getElem?_eq_getElem i1) h1 (s1.trans sn)
  have r2 := hy i _ v (upd G T (.tup [u, v])) (upd H T (.tup [u, v])) (List.getElem?_eq_getElem i2) h2 (s1.trans sn)
  exact .cons r1 (.cons r2 .nil fun a z => nomatch z) fun a z => nomatch z
end
end VS
set_option Elab.async false
set_option linter.all false
set_option maxRecDepth 100000
namespace VS
open PySem PySem.Spec PyProof.Rows L2
/-! ### the program's text and its data: the readings told by the data alone -/
section
variable (K : PySem.W.Frag) (pn : Nat → Bool) (W : WX)
def teOf (f : FE) : TE := fun σ H Q => ∃ ρ d ρ' G F, f ρ = some (d, ρ') ∧ REnv K G H σ ρ F ∧ ∀ v G' H' F' L, Tr G H (own F) G' H' (fun a => own F' a ∨ a ∈ L) → REnv K G' H' σ ρ' F' → Rep K G' H' v d L → (∀ a ∈ L, ¬ own F' a) → Q v H'
def ttOf (f : FB) : TT := fun σ H Q => ∃ ρ b ρ' G F, f ρ = some (b, ρ') ∧ REnv K G H σ ρ F ∧ ∀ G' H' F', Tr G H (own F) G' H' (own F') → REnv K G' H' σ ρ' F' → Q b H'
def taOf (ops : List Op) : TA := fun σ H Q => ∃ ρ ts ρ' G F, evOps ops ρ = some (ts, ρ') ∧ REnv K G H σ ρ F ∧ ∀ vs G' H' F' M, Tr G H (own F) G' H' (fun a => own F' a ∨ a ∈ M) → REnv K G' H' σ ρ' F' → OpsOk K G' H' σ ops ts vs M → (∀ a ∈ M, ¬ own F' a) → Q vs H'
def tsOf (f : FS) : TS := fun E σ H => ∃ ρ o G F, f ρ = some o ∧ REnv K G H σ ρ F ∧ Post K pn W σ G H (own F) E o
def tgOf (f : D → Env → Option Env) : TG := fun v σ H Q => ∃ d ρ ρ' G F L, f d ρ = some ρ' ∧ REnv K G H σ ρ F ∧ Rep K G H v d L ∧ (∀ a ∈ L, ¬ own F a) ∧ PostE K pn σ G H (fun a => own F a ∨ a ∈ L) ρ' Q
def tgsOf (f : List D → Env → Option Env) : TGs := fun vs σ H Q => ∃ ds ρ ρ' G F L, f ds ρ = some ρ' ∧ REnv K G H σ ρ F ∧ Reps K G H vs ds L ∧ (∀ a ∈ L, ¬ own F a) ∧ PostE K pn σ G H (fun a => own F a ∨ a ∈ L) ρ' Q
def tiOf (f : FI) : TI := fun σ H R => ∃ ρ ds ρ' G F, f ρ = some (ds, ρ') ∧ REnv K G H σ ρ F ∧ ∀ J G' H' F', Tr G H (own F) G' H' (own F') → REnv K G' H' σ ρ' F' → JOk K J G' ds → R J H'
end
section
variable {K : PySem.W.Frag} {pn : Nat → Bool} {W : WX}
theorem simE_of (f : FE) : SimE K (teOf K f) f := fun ρ d ρ' e σ G H F r Q q => ⟨ρ, d, ρ', G, F, e, r, q⟩
theorem simT_of' (f : FB) : SimT K (ttOf K f) f := fun ρ b ρ' e σ G H F r Q q => ⟨ρ, b, ρ', G, F, e, r, q⟩
theorem simA_of (f : List Op) : SimA K (taOf K f) f := fun ρ ts ρ' e σ G H F r Q q => ⟨ρ, ts, ρ', G, F, e, r, q⟩
theorem simS_of (f : FS) : SimS K pn W (tsOf K pn W f) f := fun ρ o e σ G H F r E q => ⟨ρ, o, G, F, e, r, q⟩
theorem simG_of (f : D → Env → Option Env) : SimG K pn (tgOf K pn f) f := fun d ρ ρ' e v σ G H F L r h n Q q => ⟨d, ρ, ρ', G, F, L, e, r, h, n, q⟩
theorem simGs_of (f : List D → Env → Option Env) : SimGs K pn (tgsOf K pn f) f := fun d ρ ρ' e v σ G H F L r h n Q q => ⟨d, ρ, ρ', G, F, L, e, r, h, n, q⟩
theorem simI_of (f : FI) : SimI K (tiOf K f) f := fun ρ ds ρ' e σ G H F r R q => ⟨ρ, ds, ρ', G, F, e, r, q⟩
end
section
variable (X : Cx) (pn : Nat → Bool) (W : WX)
abbrev PEf (e : Expr) (f : FE) : Prop := PE X e (teOf X.K f)
abbrev PTf (e : Expr) (f : FB) : Prop := PT X e (ttOf X.K f)
abbrev PWf (e : Expr) (f : FB) : Prop := PW X e (ttOf X.K f)
def POf (e : Expr) : Op → Prop
  | .b i => PE X e (tVar i)
  | .t f => PEf X e f
abbrev PAf (es : List Expr) (ops : List Op) : Prop := PA X es (taOf X.K ops)
abbrev PSf (st : Stmt) (f : FS) : Prop := PS X st (tsOf X.K pn W f)
abbrev PSsf (st : List Stmt) (f : FS) : Prop := PSs X st (tsOf X.K pn W f)
abbrev PGf (e : Expr) (f : D → Env → Option Env) : Prop := PG X e (tgOf X.K pn f)
abbrev PGsf (es : List Expr) (f : List D → Env → Option Env) : Prop := PGs X es (tgsOf X.K pn f)
abbrev PIf (tg e : Expr) (f : FI) : Prop := PI X tg e (tiOf X.K f)
end
section
variable {X : Cx} {pn : Nat → Bool} {W : WX} {e a b : Expr} {es : List Expr} {pos : Pos}
theorem PEf.mk {te : TE} {f : FE} (h : PE X e te) (s : SimE X.K te f) : PEf X e f := ⟨fun pins sh σ H Q I ⟨ρ, d, ρ', G, F, ee, r, q⟩ => h.run pins sh σ H Q I (s ρ d ρ' ee σ G H F r Q q)⟩
theorem PTf.mk {te : TT} {f : FB} (h : PT X e te) (s : SimT X.K te f) : PTf X e f := ⟨fun pins sh σ H Q I ⟨ρ, d, ρ', G, F, ee, r, q⟩ => h.run pins sh σ H Q I (s ρ d ρ' ee σ G H F r Q q)⟩
theorem PWf.mk {te : TT} {f : FB} (h : PW X e te) (s : SimT X.K te f) : PWf X e f := ⟨fun w pins sh σ H Q I ⟨ρ, d, ρ', G, F, ee, r, q⟩ => h.run w pins sh σ H Q I (s ρ d ρ' ee σ G H F r Q q)⟩
theorem PAf.mk {te : TA} {f : List Op} (h : PA X es te) (s : SimA X.K te f) : PAf X es f := ⟨fun p pins sh σ H Q I ⟨ρ, d, ρ', G, F, ee, r, q⟩ => h.run p pins sh σ H Q I (s ρ d ρ' ee σ G H F r Q q)⟩
theorem PSf.mk {st : Stmt} {te : TS} {f : FS} (h : PS X st te) (s : SimS X.K pn W te f) : PSf X pn W st f := ⟨fun pins sh σ H Q I ⟨ρ, d, G, F, ee, r, q⟩ => h.run pins sh σ H Q I (s ρ d ee σ G H F r Q q)⟩
theorem PSsf.mk {st : List Stmt} {te : TS} {f : FS} (h : PSs X st te) (s : SimS X.K pn W te f) : PSsf X pn W st f := ⟨fun pins sh σ H Q I ⟨ρ, d, G, F, ee, r, q⟩ => h.run pins sh σ H Q I (s ρ d ee σ G H F r Q q)⟩
theorem PGf.mk {te : TG} {f : D → Env → Option Env} (h : PG X e te) (s : SimG X.K pn te f) : PGf X pn e f := ⟨fun pins sh σ H v u Q I rv ⟨d, ρ, ρ', G, F, L, ee, r, hr, n, q⟩ => h.run pins sh σ H v u Q I rv (s d ρ ρ' ee v σ G H F L r hr n Q q)⟩
theorem PGsf.mk {te : TGs} {f : List D → Env → Option Env} (h : PGs X es te) (s : SimGs X.K pn te f) : PGsf X pn es f := ⟨fun pins sh σ H v u Q I rv ⟨d, ρ, ρ', G, F, L, ee, r, hr, n, q⟩ => h.run pins sh σ H v u Q I rv (s d ρ ρ' ee v σ G H F L r hr n Q q)⟩
theorem PIf.mk {tg : Expr} {te : TI} {f : FI} (h : PI X tg e te) (s : SimI X.K te f) : PIf X tg e f := ⟨fun pins sh σ H R I ⟨ρ, ds, ρ', G, F, ee, r, q⟩ => h.run pins sh σ H R I (s ρ ds ρ' ee σ G H F r R q)⟩
theorem POf.ex {o : Op} (h : POf X e o) : ∃ te, PE X e te ∧ SimO X.K te o := by
  cases o with
  | b i => exact ⟨_, h, rfl⟩
  | t f => exact ⟨_, h, simE_of f⟩
theorem po_b {i : Nat} (h : PE X e (tVar i)) : POf X e (.b i) := h
theorem po_t {f : FE} (h : PEf X e f) : POf X e (.t f) := h
theorem pf_var {i : Nat} (h : PE X e (tVar i)) : PEf X e (varF i) := .mk h (simE_var i)
theorem pf_mov {i : Nat} (h : PE X e (tVar i)) : PEf X e (movF i) := .mk h (simE_mov i)
theorem pf_int {i : Int} {j} : PEf X (.Constant (.int i) j pos) (litF (.int i)) := .mk pe_int (simE_lit fun _ _ => .int i)
theorem pf_bl {i : Bool} {j} : PEf X (.Constant (.bool i) j pos) (litF (.bl i)) := .mk pe_bl (simE_lit fun _ _ => .bl i)
theorem pf_non {j} : PEf X (.Constant .none j pos) (litF .non) := .mk pe_non (simE_lit fun _ _ => .non)
theorem paf_nil : PAf X [] [] := .mk pa_nil simA_nil
theorem paf_cons {o : Op} {ops : List Op} (h1 : POf X e o) (h2 : PAf X es ops) (hs : starEach (e :: es) X.env = (false, eval e X.env) :: starEach es X.env := by rfl) : PAf X (e :: es) (o :: ops) := by
  obtain ⟨te, p1, s1⟩ := h1.ex
  exact .mk (pa_cons p1 h2 hs) (simA_cons s1 (simA_of _))
/-- a two-place rule on a list of two -/
def r2L (r : R2) : List V → Hp → VK → Prop := fun vs H Q => match vs with
  | [x, y] => r x y H Q
  | _ => False
def r1L (r : V → Hp → VK → Prop) : List V → Hp → VK → Prop := fun vs H Q => match vs with
  | [x] => r x H Q
  | _ => False
theorem pf_bin {op : Operator} {r : R2} {g : List D → Option D} {o1 o2 : Op} (ho : OpR X (binaryOp op) r) (hv : VOk X.K (r2L r) g) (h1 : POf X a o1) (h2 : POf X b o2) : PEf X (.BinOp a op b pos) (opF g [o1, o2]) := by
  obtain ⟨ta, p1, s1⟩ := h1.ex
  obtain ⟨tb, p2, s2⟩ := h2.ex
  exact .mk (pe_op ho p1 p2) (simE_op (simA_cons s1 (simA_cons s2 simA_nil)) hv)
theorem pf_un {op : UnaryOp} {r : V → Hp → VK → Prop} {g : List D → Option D} {o1 : Op} (ho : UnR X (unaryOp op) r) (hv : VOk X.K (r1L r) g) (h1 : POf X a o1) : PEf X (.UnaryOp op a pos) (opF g [o1]) := by
  obtain ⟨ta, p1, s1⟩ := h1.ex
  exact .mk (pe_un ho p1) (simE_op (simA_cons s1 simA_nil) hv)
theorem pf_cmp {op : CmpOp} {r : R2} {g : List D → Option D} {o1 o2 : Op} (ho : OpR X (compareOp op) r) (hv : VOk X.K (r2L r) g) (h1 : POf X a o1) (h2 : POf X b o2) (hm : behindInMarks op b = false) : PEf X (.Compare a [op] [b] pos) (opF g [o1, o2]) := by
  obtain ⟨ta, p1, s1⟩ := h1.ex
  obtain ⟨tb, p2, s2⟩ := h2.ex
  exact .mk (pe_cmpR ho p1 p2 hm) (simE_op (simA_cons s1 (simA_cons s2 simA_nil)) hv)
theorem pt_cmpf {op : CmpOp} {r : R2} {g : List D → Option D} {o1 o2 : Op} (ho : OpR X (compareOp op) r) (hv : VOk X.K (r2L r) g) (h1 : POf X a o1) (h2 : POf X b o2) (hm : behindInMarks op b = false) : PTf X (.Compare a [op] [b] pos) (bT (opF g [o1, o2])) := by
  obtain ⟨ta, p1, s1⟩ := h1.ex
  obtain ⟨tb, p2, s2⟩ := h2.ex
  exact .mk (pt_cmpR ho p1 p2 hm) (simT_of (simE_op (simA_cons s1 (simA_cons s2 simA_nil)) hv))
theorem pf_ix {r : R2} {g : List D → Option D} {o1 o2 : Op} (ho : IxR X r) (hv : VOk X.K (r2L r) g) (h1 : POf X a o1) (h2 : POf X b o2) (hs : PlainIx b) : PEf X (.Subscript a b pos) (opF g [o1, o2]) := by
  obtain ⟨ta, p1, s1⟩ := h1.ex
  obtain ⟨tb, p2, s2⟩ := h2.ex
  exact .mk (pe_ix ho p1 p2 hs) (simE_op (simA_cons s1 (simA_cons s2 simA_nil)) hv)
theorem pf_callB {id : String} {x : Str} {p : Pos} {o : Op} {r : List V → Hp → VK → Prop} {g : List D → Option D} {ops : List Op} (hc : CallR X (.builtin id) r) (hv' : VOk X.K r g) (hg : Gl X x) (hm : X.mg x = none) (hv : bootBuiltins x = some (.builtin id)) (ha : PAf X (e :: es) (o :: ops)) (hn : x ≠ "__name__" := by decide) (hdb : (x == ("__debug__" : Str)) = false := by decide)
    (he : starEach (e :: es) X.env = (false, eval e X.env) :: starEach es X.env := by rfl) (hpl : (backTo pos (starEach es X.env)).any (·.1) = false := by rfl) : PEf X (.Call (.Name x p) (e :: es) [] pos) (opF g (o :: ops)) :=
  .mk (pe_callB hc hg hm hv ha hn hdb he hpl) (simE_op (simA_of _) hv')
theorem pf_callTy {T : String} {x : Str} {p : Pos} {o : Op} {r : List V → Hp → VK → Prop} {g : List D → Option D} {ops : List Op} (hc : CallR X (.type T) r) (hv' : VOk X.K r g) (hg : Gl X x) (hm : X.mg x = none) (hv : bootBuiltins x = some (.type T)) (ha : PAf X (e :: es) (o :: ops)) (hn : x ≠ "__name__" := by decide) (hdb : (x == ("__debug__" : Str)) = false := by decide)
    (he : starEach (e :: es) X.env = (false, eval e X.env) :: starEach es X.env := by rfl) (hpl : (backTo pos (starEach es X.env)).any (·.1) = false := by rfl) : PEf X (.Call (.Name x p) (e :: es) [] pos) (opF g (o :: ops)) :=
  .mk (pe_callTy hc hg hm hv ha hn hdb he hpl) (simE_op (simA_of _) hv')
/-! tests -/
theorem pt_tst {o : Op} (h : POf X e o) (he : ∀ whole, isTrue e X.env whole = (do let v ← whole; standAt e.pos; holding [v] (truthy v)) := by intro _; rfl) : PTf X e (tstF o) := by
  obtain ⟨te, p1, s1⟩ := h.ex
  exact .mk (pt_truth p1 he) (simT_tst s1)
theorem ptf_not {f : FB} (h : PTf X a f) : PTf X (.UnaryOp .Not a pos) (notF f) := .mk (pt_not h) (simT_not (simT_of' f))
theorem pwf_and1 {f : FB} (h : PTf X a f) : PWf X (.BoolOp .And [a] pos) f := pw_and1 h
theorem pwf_or1 {f : FB} (h : PTf X a f) : PWf X (.BoolOp .Or [a] pos) f := pw_or1 h
theorem pwf_and {rest : List Expr} {f g : FB} (h : PTf X a f) (h2 : PWf X (.BoolOp .And (b :: rest) pos) g) : PWf X (.BoolOp .And (a :: b :: rest) pos) (andF f g) := .mk (pw_and h h2) (simT_and (simT_of' f) (simT_of' g))
theorem pwf_or {rest : List Expr} {f g : FB} (h : PTf X a f) (h2 : PWf X (.BoolOp .Or (b :: rest) pos) g) : PWf X (.BoolOp .Or (a :: b :: rest) pos) (orF f g) := .mk (pw_or h h2) (simT_or (simT_of' f) (simT_of' g))
theorem PWf.pt {f : FB} (h : PWf X e f) : PTf X e f := L2.PW.pt h
theorem pf_one {op} {f : FE} (h : PEf X a f) : PEf X (.BoolOp op [a] pos) f := pe_one h
theorem pf_and {rest : List Expr} {f g : FE} (h : PEf X a f) (h2 : PEf X (.BoolOp .And (b :: rest) pos) g) : PEf X (.BoolOp .And (a :: b :: rest) pos) (andV f g) := .mk (pe_and h h2) (simE_andV (simE_of f) (simE_of g))
theorem pf_or {rest : List Expr} {f g : FE} (h : PEf X a f) (h2 : PEf X (.BoolOp .Or (b :: rest) pos) g) : PEf X (.BoolOp .Or (a :: b :: rest) pos) (orV f g) := .mk (pe_or h h2) (simE_orV (simE_of f) (simE_of g))
theorem pf_not {f : FE} (h : PEf X a f) : PEf X (.UnaryOp .Not a pos) (notV f) := .mk (pe_not h) (simE_notV (simE_of f))
theorem pf_if {c : Expr} {fc : FB} {f g : FE} (hc : PTf X c fc) (h1 : PEf X a f) (h2 : PEf X b g) : PEf X (.IfExp c a b pos) (ifE fc f g) := .mk (pe_ifExp hc h1 h2) (simE_if (simT_of' fc) (simE_of f) (simE_of g))
/-! statements -/
theorem psf_nil : PSsf X pn W [] passF := .mk pss_nil simS_pass
theorem psf_cons {st : Stmt} {rest : List Stmt} {f g : FS} (h1 : PSf X pn W st f) (h2 : PSsf X pn W rest g) : PSsf X pn W (st :: rest) (seqF f g) := .mk (pss_cons h1 h2) (simS_seq (simS_of f) (simS_of g))
theorem psf_one {st : Stmt} {f : FS} (h1 : PSf X pn W st f) : PSsf X pn W [st] f := pss_one h1
theorem psf_brk : PSf X pn W (.Break pos) brkF := .mk ps_break simS_brk
theorem psf_never {st : Stmt} : PSf X pn W st neverF := .mk ps_never simS_never
theorem psf_expr {f : FE} (h : PEf X e f) (hs : swapsWith e none pos.line X.env = pure false := by rfl) : PSf X pn W (.Expr e pos) (dropF f) := .mk (ps_expr h hs) (simS_drop (simE_of f))
theorem psf_ret {f : FE} (h : PEf X e f) : PSf X pn W (.Return (some e) pos) (retF f) := .mk (ps_ret h) (simS_ret (simE_of f))
theorem psf_if {c : Expr} {A B : List Stmt} {fc : FB} {f g : FS} (hc : PTf X c fc) (h1 : PSsf X pn W A f) (h2 : PSsf X pn W B g) : PSf X pn W (.If c A B pos) (ifF fc f g) := .mk (ps_if hc h1 h2) (simS_if (simT_of' fc) (simS_of f) (simS_of g))
theorem psf_asg {tg : Expr} {f : FE} {g : D → Env → Option Env} (h : PEf X e f) (hg : PGf X pn tg g) (hs : swapsWithSole [tg] e pos.line X.env = pure false := by rfl) (hw : swappedStores [tg] e X.env = pure none := by rfl)
    (h1 : (assignEach [tg] X.env).map (·.2) = [assign tg X.env] := by rfl) : PSf X pn W (.Assign [tg] e pos) (asgF f g) := .mk (ps_asg h hg hs hw h1) (simS_asg (simE_of f) (simG_of g))
theorem psf_set {i : Nat} {x : Str} {pos' : Pos} {f : FE} (hN : X.N.Nodup) (hi : X.N[i]? = some x) (hx : Loc X.env.scope x) (hp : pn i = false) (h : PEf X e f) (hs : swapsWith e (some (.Name x pos')) pos.line X.env = pure false := by rfl) (hf : X.fn x = true ∨ X.env.scope.names.lookup x = some .local := by first | exact .inl rfl | exact .inr rfl | assumption) :
    PSf X pn W (.Assign [.Name x pos'] e pos) (asgF f (tgN i)) := .mk (ps_set hN hi hx h hs hf) (simS_asg (simE_of f) (simG_name hp))
theorem pgf_name {i : Nat} {x : Str} (hN : X.N.Nodup) (hi : X.N[i]? = some x) (hx : Loc X.env.scope x) (hp : pn i = false) (hf : X.fn x = true ∨ X.env.scope.names.lookup x = some .local := by first | exact .inl rfl | exact .inr rfl | assumption) : PGf X pn (.Name x pos) (tgN i) := .mk (pg_name hN hi hx hf) (simG_name hp)
theorem pgsf_nil : PGsf X pn [] tgNil := .mk pgs_nil simGs_nil
theorem pgsf_cons {g : D → Env → Option Env} {gs : List D → Env → Option Env} (h1 : PGf X pn e g) (h2 : PGsf X pn es gs) (hs : (assignEach (e :: es) X.env).map (·.2) = assign e X.env :: (assignEach es X.env).map (·.2) := by rfl) : PGsf X pn (e :: es) (tgCons g gs) := .mk (pgs_cons h1 h2 hs) (simGs_cons (simG_of g) (simGs_of gs))
theorem pgf_tup {k n : Nat} {gs : List D → Env → Option Env} (hc : X.calm = true) (h : PGsf X pn es gs) (hn : (assignEach es X.env).length = n := by rfl) (hst : (assignEach es X.env).findIdx? (·.1) = none := by rfl) : PGf X pn (.Tuple es k pos) (tgT n gs) := .mk (pg_tup hc h hn hst) (simG_tup (simGs_of gs))
theorem psf_for {tg iter : Expr} {body : List Stmt} {fi : FI} {g : D → Env → Option Env} {f : FS} (hp : PassesOwn (model X.prog X.w) X.A X.env X.xe) (hc : X.calm = true) (hi : PIf X tg iter fi) (hg : PGf X pn tg g) (hb : PSsf X pn W body f)
    (hs : ∀ x, foldedSetIterable iter X.env x = pure x := by intro _; rfl) : PSf X pn W (.For tg iter body [] pos) (forF fi g f) := .mk (ps_for hp hc hi hg hb hs) (simS_for (simI_of fi) (simG_of g) (simS_of f))
theorem psf_while {c : Expr} {body : List Stmt} {fc : FB} {f : FS} (n : Nat) (hp : PassesOwn (model X.prog X.w) X.A X.env X.xe) (hc : PTf X c fc) (hb : PSsf X pn W body f) : PSf X pn W (.While c body [] pos) (whF n fc f) := .mk (ps_while hp hc hb) (simS_while n (simT_of' fc) (simS_of f))
end
end VS
set_option Elab.async false
set_option linter.all false
set_option maxRecDepth 100000
namespace VS
open PySem PySem.Spec PyProof.Rows L2
/-! ### operands that are kept: what is read off a slot bears nothing owned -/
def takeN : List Op → List (Option D) → Env → Option (List D)
  | .b i :: r, _ :: ts, ρ => (getS ρ i).bind fun d => if noOwn d = true then (takeN r ts ρ).bind fun ds => some (d :: ds) else none
  | .t _ :: r, some d :: ts, ρ => (takeN r ts ρ).bind fun ds => some (d :: ds)
  | [], _, _ => some []
  | _, _, _ => none
def smallL : Nat := 100000
def tupF (ops : List Op) : FE := fun ρ => (evOps ops ρ).bind fun p => (takeN ops p.1 p.2).bind fun ds => if ds.length ≤ smallL then some (.tup ds, p.2) else none
def lstF (ops : List Op) : FE := fun ρ => (evOps ops ρ).bind fun p => (takeN ops p.1 p.2).bind fun ds => if ds.length ≤ smallL then some (.lst true ds, p.2) else none
/-- a method of a list that stands in a slot -/
def mutF (i : Nat) (g : List D → List D → Option (D × List D)) (ops : List Op) : FE := fun ρ => match getS ρ i with
  | some (.lst true _) => (evOps ops ρ).bind fun p => (takeN ops p.1 p.2).bind fun ds => match getS p.2 i with
    | some (.lst true xs) => (g xs ds).bind fun q => some (q.1, p.2.set i (some (.lst true q.2)))
    | _ => none
  | _ => none
section
variable {K : PySem.W.Frag} {pn : Nat → Bool} {W : WX}
theorem small_line {n : Nat} (h : n ≤ smallL) : n ≤ sizeLine := Nat.le_trans h (by decide)
theorem OpsOk.take {G H : Hp} {σ : L2.St} {ρ : Env} {F : Nat → List Addr} (r : REnv K G H σ ρ F) : ∀ {ops : List Op} {ts : List (Option D)} {vs : List V} {M : List Addr} {ds : List D}, OpsOk K G H σ ops ts vs M → takeN ops ts ρ = some ds → Reps K G H vs ds M
  | _, _, _, _, ds, .nil, e => by
    unfold takeN at e; cases e; exact .nil
  | .b i :: ops, o :: ts, v :: vs, M, ds, .b hv ok, e => by
    unfold takeN at e
    cases hd : getS ρ i with
    | none => rw [hd] at e; cases e
    | some d =>
      rw [hd] at e
      have e1 : (if noOwn d = true then (takeN ops ts ρ).bind fun ds => some (d :: ds) else none) = some ds := e
      by_cases hn : noOwn d = true
      · rw [if_pos hn] at e1
        cases he : takeN ops ts ρ with
        | none => rw [he] at e1; cases e1
        | some ds1 =>
          rw [he] at e1; cases e1
          obtain ⟨w, hw, hr⟩ := r.at_ i d hd
          rw [hv] at hw; cases hw
          have h0 := hr.noL hn
          rw [h0] at hr
          have := Reps.cons hr (ok.take r he) (fun a z => nomatch z)
          exact this
      · rw [if_neg hn] at e1; cases e1
  | .t f :: ops, some d :: ts, v :: vs, _, ds, .t hr hn ok, e => by
    unfold takeN at e
    cases he : takeN ops ts ρ with
    | none => rw [he] at e; cases e
    | some ds1 => rw [he] at e; cases e; exact .cons hr (ok.take r he) hn
theorem simE_disp {ta : TA} {ops : List Op} {mk : List V → HO} {f : FE} {mkD : List D → D} (h : SimA K ta ops)
    (hf : ∀ ρ d ρ', f ρ = some (d, ρ') → ∃ ts ds, evOps ops ρ = some (ts, ρ') ∧ takeN ops ts ρ' = some ds ∧ ds.length ≤ smallL ∧ d = mkD ds)
    (hm : ∀ (G H : Hp) (vs : List V) (ds : List D) (M : List Addr) (p : Addr), Same G H → H p = none → Reps K G H vs ds M → ∃ G' L, Tr G H (fun a => a ∈ M) G' (upd H p (mk vs)) (fun a => a ∈ L) ∧ (∀ a, H a ≠ none → a ∉ M → a ∉ L) ∧ Rep K G' (upd H p (mk vs)) (.ref p) (mkD ds) L) :
    SimE K (fun σ H Q => ta σ H fun xs H1 => xs.length ≤ sizeLine ∧ ∀ p, H1 p = none → Q (.ref p) (upd H1 p (mk xs))) f := by
  intro ρ d ρ' e σ G H F r Q q
  obtain ⟨ts, ds, he, ht, hz, rfl⟩ := hf ρ d ρ' e
  refine h ρ ts ρ' he σ G H F r _ fun vs G1 H1 F1 M t1 r1 ok n1 => ?_
  have rs := ok.take r1 ht
  refine ⟨by rw [rs.length]; exact small_line hz, fun p hp => ?_⟩
  obtain ⟨G2, L, t2, hL, rv⟩ := hm G1 H1 vs ds M p r1.sub hp rs
  have nF : ∀ a, own F1 a → a ∉ M := fun a h m => n1 a m h
  have r2 := r1.tr t2 nF
  refine q (.ref p) G2 _ F1 L (t1.trans (t2.wk (fun a m => .inr m) fun a h => ?_)) r2 rv fun a ha ⟨j, hj⟩ => ?_
  · rcases h with h | h
    · exact .inr (.inl (.inl h))
    · exact .inl h
  · refine hL a (fun z => ?_) (nF a ⟨j, hj⟩) ha
    obtain ⟨_, vs, e, _⟩ := r1.owned j a hj
    rw [z] at e; cases e
theorem simE_tup {ta : TA} {ops : List Op} (h : SimA K ta ops) : SimE K (tTup ta) (tupF ops) := by
  refine simE_disp (mk := .tup) (mkD := .tup) h (fun ρ d ρ' e => ?_) fun G H vs ds M p s hp rs => ?_
  · unfold tupF at e
    cases he : evOps ops ρ with
    | none => rw [he] at e; cases e
    | some pr =>
      obtain ⟨ts, ρ1⟩ := pr
      rw [he] at e
      cases ht : takeN ops ts ρ1 with
      | none => have e2 : (takeN ops ts ρ1).bind (fun ds => if ds.length ≤ smallL then some (D.tup ds, ρ1) else none) = some (d, ρ') := e; rw [ht] at e2; cases e2
      | some ds =>
        have e2 : (takeN ops ts ρ1).bind (fun ds => if ds.length ≤ smallL then some (D.tup ds, ρ1) else none) = some (d, ρ') := e
        rw [ht] at e2
        have e3 : (if ds.length ≤ smallL then some (D.tup ds, ρ1) else none) = some (d, ρ') := e2
        by_cases hz : ds.length ≤ smallL
        · rw [if_pos hz] at e3; cases e3; exact ⟨ts, ds, rfl, ht, hz, rfl⟩
        · rw [if_neg hz] at e3; cases e3
  · have t := Tr.newG (A := fun a => a ∈ M) (o := .tup vs) s hp
    refine ⟨_, M, t, fun a _ n => n, .tup (.inl (.inl upd_same)) (rs.keep ⟨t.g, fun a ha hg => ?_, fun a ha => ?_⟩)⟩
    · have : a ≠ p := fun z => by subst z; obtain ⟨_, vs, e, _⟩ := rs.owned a ha; rw [hp] at e; cases e
      rw [upd_ne this]; exact hg
    · have : a ≠ p := fun z => by subst z; obtain ⟨_, vs, e, _⟩ := rs.owned a ha; rw [hp] at e; cases e
      rw [upd_ne this]
theorem simE_lst {ta : TA} {ops : List Op} (h : SimA K ta ops) : SimE K (tLst ta) (lstF ops) := by
  refine simE_disp (mk := .lst) (mkD := .lst true) h (fun ρ d ρ' e => ?_) fun G H vs ds M p s hp rs => ?_
  · unfold lstF at e
    cases he : evOps ops ρ with
    | none => rw [he] at e; cases e
    | some pr =>
      obtain ⟨ts, ρ1⟩ := pr
      rw [he] at e
      cases ht : takeN ops ts ρ1 with
      | none => have e2 : (takeN ops ts ρ1).bind (fun ds => if ds.length ≤ smallL then some (D.lst true ds, ρ1) else none) = some (d, ρ') := e; rw [ht] at e2; cases e2
      | some ds =>
        have e2 : (takeN ops ts ρ1).bind (fun ds => if ds.length ≤ smallL then some (D.lst true ds, ρ1) else none) = some (d, ρ') := e
        rw [ht] at e2
        have e3 : (if ds.length ≤ smallL then some (D.lst true ds, ρ1) else none) = some (d, ρ') := e2
        by_cases hz : ds.length ≤ smallL
        · rw [if_pos hz] at e3; cases e3; exact ⟨ts, ds, rfl, ht, hz, rfl⟩
        · rw [if_neg hz] at e3; cases e3
  · have t := Tr.newO (A := fun a => a ∈ M) (o := .lst vs) s hp
    have hne : ∀ a ∈ M, a ≠ p := fun a ha z => by subst z; obtain ⟨_, vs, e, _⟩ := rs.owned a ha; rw [hp] at e; cases e
    refine ⟨G, p :: M, t.post fun a h => ?_, fun a ha n m => ?_, .lstO (s.free hp) upd_same (fun z => hne p z rfl) (rs.keep ⟨t.g, fun a ha hg => hg, fun a ha => upd_ne (hne a ha)⟩)⟩
    · rcases List.mem_cons.mp h with h | h
      · exact .inr h
      · exact .inl h
    · rcases List.mem_cons.mp m with z | z
      · subst z; exact ha hp
      · exact n z
/-- a method that changes its list -/
def MOk (K : PySem.W.Frag) (r : V → List V → Hp → VK → Prop) (g : List D → List D → Option (D × List D)) : Prop := ∀ (G H : Hp) (a : Addr) (vs us : List V) (xs ds : List D) (L M : List Addr) (d : D) (xs' : List D), Same G H → G a = none → H a = some (.lst vs) →
  Reps K G H vs xs L → Reps K G H us ds M → (∀ b ∈ L, b ∉ M) → g xs ds = some (d, xs') → ∀ Q : VK,
  (∀ v vs' L' N, Reps K G H vs' xs' L' → Rep K G H v d N → (∀ b ∈ L', b ∈ L ∨ b ∈ M) → (∀ b ∈ N, b ∈ L ∨ b ∈ M) → (∀ b ∈ L', b ∉ N) → Q v (upd H a (.lst vs'))) → r (.ref a) us H Q
theorem simE_mut {to : TE} {i : Nat} {ta : TA} {ops : List Op} {r : V → List V → Hp → VK → Prop} {g : List D → List D → Option (D × List D)} (ho : to = tVar i) (h : SimA K ta ops) (hm : MOk K r g) : SimE K (tBM K "list" r to ta) (mutF i g ops) := by
  subst ho
  intro ρ d ρ' e σ G H F rr Q q
  unfold mutF at e
  cases h0 : getS ρ i with
  | none => rw [h0] at e; cases e
  | some d0 =>
    rw [h0] at e
    cases d0 with
    | lst o xs0 =>
      cases o with
      | false => cases e
      | true =>
        obtain ⟨v, hv, hrep⟩ := rr.at_ i _ h0
        have e1 : ((evOps ops ρ).bind fun p => (takeN ops p.1 p.2).bind fun ds => match getS p.2 i with
          | some (.lst true xs) => (g xs ds).bind fun q => some (q.1, p.2.set i (some (.lst true q.2)))
          | _ => none) = some (d, ρ') := e
        cases he : evOps ops ρ with
        | none => rw [he] at e1; cases e1
        | some pr =>
          obtain ⟨ts, ρ1⟩ := pr
          rw [he] at e1
          have e2 : ((takeN ops ts ρ1).bind fun ds => match getS ρ1 i with
            | some (.lst true xs) => (g xs ds).bind fun q => some (q.1, ρ1.set i (some (.lst true q.2)))
            | _ => none) = some (d, ρ') := e1
          cases ht : takeN ops ts ρ1 with
          | none => rw [ht] at e2; cases e2
          | some ds =>
            rw [ht] at e2
            have e3 : (match getS ρ1 i with
              | some (.lst true xs) => (g xs ds).bind fun q => some (q.1, ρ1.set i (some (.lst true q.2)))
              | _ => none) = some (d, ρ') := e2
            cases h1 : getS ρ1 i with
            | none => rw [h1] at e3; cases e3
            | some d1 =>
              rw [h1] at e3
              cases d1 with
              | lst o1 xs =>
                cases o1 with
                | false => cases e3
                | true =>
                  have e4 : ((g xs ds).bind fun q => some (q.1, ρ1.set i (some (.lst true q.2)))) = some (d, ρ') := e3
                  cases hg : g xs ds with
                  | none => rw [hg] at e4; cases e4
                  | some pq =>
                    obtain ⟨d2, xs'⟩ := pq
                    rw [hg] at e4; cases e4
                    refine ⟨v, hv, ?_, h ρ ts ρ1 he σ G H F rr _ fun us G1 H1 F1 M t1 r1 ok n1 => ?_⟩
                    · generalize hFi : F i = Fi at hrep
                      cases hrep with
                      | lstO _ hH _ _ => exact .inl ⟨rfl, _, .inl (.inl hH)⟩
                    · have rs := ok.take r1 ht
                      obtain ⟨v', hv', hrep'⟩ := r1.at_ i _ h1
                      rw [hv] at hv'; cases hv'
                      generalize hFi : F1 i = Fi at hrep'
                      cases hrep' with
                      | lstO hG hH hn hr =>
                        rename_i a vs L
                        have hsub : ∀ b ∈ a :: L, b ∈ F1 i := fun b hb => by rw [hFi]; exact hb
                        have nLM : ∀ b ∈ L, b ∉ M := fun b hb hm => n1 b hm ⟨i, hsub b (List.mem_cons_of_mem _ hb)⟩
                        have naM : a ∉ M := fun hm => n1 a hm ⟨i, hsub a List.mem_cons_self⟩
                        refine hm G1 H1 a vs us xs ds L M _ xs' r1.sub hG hH hr rs nLM hg Q fun v2 vs' L' N hr' hrv sL' sN nLN => ?_
                        have naL' : a ∉ L' := fun z => (sL' a z).elim hn naM
                        have naN : a ∉ N := fun z => (sN a z).elim hn naM
                        have tw : Tr G1 H1 (fun b => b = a) G1 (upd H1 a (.lst vs')) (fun b => b = a) := Tr.write r1.sub hG rfl ⟨_, hH⟩
                        have kL : ∀ {L0 : List Addr}, a ∉ L0 → Keep G1 H1 G1 (upd H1 a (.lst vs')) L0 := fun {L0} hn0 => ⟨Same.refl _, fun _ _ h => h, fun b hb => upd_ne fun z => hn0 (z ▸ hb)⟩
                        have rd := (r1.drop i).tr tw fun b ⟨j, hj⟩ z => by
                          subst z
                          by_cases hji : j = i
                          · subst hji; rw [fset_same] at hj; cases hj
                          · rw [fset_ne hji] at hj; exact r1.dis j i hji _ hj (hsub _ List.mem_cons_self)
                        have hnew : Rep K G1 (upd H1 a (.lst vs')) (.ref a) (.lst true xs') (a :: L') := .lstO hG upd_same naL' (hr'.keep (kL naL'))
                        have hap : ∀ b ∈ a :: L', ∀ j, j ≠ i → b ∉ fset F1 i [] j := fun b hb j hj hbj => by
                          rw [fset_ne hj] at hbj
                          rcases List.mem_cons.mp hb with z | z
                          · subst z; exact r1.dis j i hj _ hbj (hsub _ List.mem_cons_self)
                          · rcases sL' b z with y | y
                            · exact r1.dis j i hj _ hbj (hsub b (List.mem_cons_of_mem _ y))
                            · exact n1 b y ⟨j, hbj⟩
                        have rp := rd.re (i := i) (by rw [List.length_set]; exact r1.lt h1) hv hnew hap
                        rw [List.set_set] at rp
                        refine q v2 G1 _ _ N ?_ rp (hrv.keep (kL naN)) fun b hb ⟨j, hj⟩ => ?_
                        · refine t1.trans (tw.wk (fun b z => .inl ⟨i, z ▸ hsub a List.mem_cons_self⟩) fun b hb => .inr (.inl ?_))
                          rcases hb with ⟨j, hj⟩ | hb
                          · by_cases hji : j = i
                            · subst hji
                              rw [fset_same] at hj
                              rcases List.mem_cons.mp hj with z | z
                              · exact .inl ⟨j, z ▸ hsub a List.mem_cons_self⟩
                              · rcases sL' b z with y | y
                                · exact .inl ⟨j, hsub b (List.mem_cons_of_mem _ y)⟩
                                · exact .inr y
                            · rw [fset_ne hji, fset_ne hji] at hj; exact .inl ⟨j, hj⟩
                          · rcases sN b hb with y | y
                            · exact .inl ⟨i, hsub b (List.mem_cons_of_mem _ y)⟩
                            · exact .inr y
                        · by_cases hji : j = i
                          · subst hji
                            rw [fset_same] at hj
                            rcases List.mem_cons.mp hj with z | z
                            · subst z; exact naN hb
                            · exact nLN b z hb
                          · rw [fset_ne hji, fset_ne hji] at hj
                            rcases sN b hb with y | y
                            · exact r1.dis j i hji _ hj (hsub b (List.mem_cons_of_mem _ y))
                            · exact n1 b y ⟨j, hj⟩
              | _ => cases e3
    | _ => cases e
end
end VS
set_option Elab.async false
set_option linter.all false
set_option maxRecDepth 100000
namespace VS
open PySem PySem.Spec PyProof.Rows L2
/-! ### defs and their calls -/
/-- a def by its data: how many parameters, which of them are never stored anew (a list handed in there is the caller's still), and what it makes: a value, and the data of those parameters behind -/
structure Fn where
  np : Nat
  pins : List Bool
  sem : List D → Option (D × List (Option D))
  len : ∀ ds r, sem ds = some r → ds.length = np
def finP : List Bool → Env → List (Option D)
  | p :: ps, o :: ρ => (if p = true then o else none) :: finP ps ρ
  | _, _ => []
def bodySem (nN np : Nat) (pins : List Bool) (f : FS) : List D → Option (D × List (Option D)) := fun ds =>
  if ds.length = np then match f (ds.map some ++ List.replicate (nN - np) none) with
    | some (.rt d ρ) => some (d, finP pins ρ)
    | some (.nx ρ) => some (.non, finP pins ρ)
    | _ => none
  else none
def fetchC : List Bool → List Op → List (Option D) → Env → Option (List D × Env)
  | p :: ps, .b i :: r, _ :: ts, ρ => (getS ρ i).bind fun d => if noOwn d = true then (fetchC ps r ts ρ).bind fun q => some (d :: q.1, q.2) else if p = true then (fetchC ps r ts (ρ.set i none)).bind fun q => some (d :: q.1, q.2) else none
  | _ :: ps, .t _ :: r, some d :: ts, ρ => (fetchC ps r ts ρ).bind fun q => some (d :: q.1, q.2)
  | [], [], [], ρ => some ([], ρ)
  | _, _, _, _ => none
def putB : List Op → List D → List (Option D) → Env → Env
  | .b i :: r, d :: ds, o :: os, ρ => if noOwn d = true then putB r ds os ρ else putB r ds os (ρ.set i o)
  | .t _ :: r, _ :: ds, _ :: os, ρ => putB r ds os ρ
  | _, _, _, ρ => ρ
def callF (fn : Fn) (ops : List Op) : FE := fun ρ => (evOps ops ρ).bind fun p => (fetchC fn.pins ops p.1 p.2).bind fun c => (fn.sem c.1).bind fun q => some (q.1, putB ops c.1 q.2 c.2)
inductive ROs (K : PySem.W.Frag) (G H : Hp) : List V → List (Option D) → List Addr → Prop
  | nil : ROs K G H [] [] []
  | no {v : V} {vs os L} : ROs K G H vs os L → ROs K G H (v :: vs) (none :: os) L
  | yes {v : V} {d : D} {L1 vs os L} : Rep K G H v d L1 → ROs K G H vs os L → (∀ a, a ∈ L1 → a ∉ L) → ROs K G H (v :: vs) (some d :: os) (L1 ++ L)
/-- the promise of a def, by its data -/
def spOf (K : PySem.W.Frag) (fn : Fn) : Sp := fun vs H Q _ => ∃ G ds L d os, Same G H ∧ Reps K G H vs ds L ∧ vs.length = fn.np ∧ fn.sem ds = some (d, os) ∧
  ∀ v G' H' P N, Tr G H (fun a => a ∈ L) G' H' (fun a => a ∈ P ∨ a ∈ N) → ROs K G' H' vs os P → Rep K G' H' v d N → (∀ a ∈ N, a ∉ P) → Q v H'
section
variable {K : PySem.W.Frag} {G H : Hp}
theorem own_cons {L1 : List Addr} {F : Nat → List Addr} {a : Addr} (h : own (fun j => match j with | 0 => L1 | j + 1 => F j) a) : a ∈ L1 ∨ own F a := by
  obtain ⟨j, h⟩ := h
  cases j with
  | zero => exact .inl h
  | succ j => exact .inr ⟨j, h⟩
theorem REnv.cons (v : V) {d : D} {L1 : List Addr} {σ : L2.St} {ρ : Env} {F : Nat → List Addr} (h : Rep K G H v d L1) (r : REnv K G H σ ρ F) (n : ∀ a ∈ L1, ¬ own F a) :
    REnv K G H (some v :: σ) (some d :: ρ) (fun j => match j with | 0 => L1 | j + 1 => F j) := by
  refine ⟨r.sub, by simp [r.len], fun i e q => ?_, fun i q => ?_, fun i j ne a ha => ?_⟩
  · cases i with
    | zero => cases q; exact ⟨v, rfl, h⟩
    | succ i => exact r.at_ i e q
  · cases i with
    | zero => cases q
    | succ i => exact r.off i q
  · cases i with
    | zero =>
      cases j with
      | zero => exact absurd rfl ne
      | succ j => exact fun z => n a ha ⟨j, z⟩
    | succ i =>
      cases j with
      | zero => exact fun z => n a z ⟨i, ha⟩
      | succ j => exact r.dis i j (fun z => ne (by rw [z])) a ha
theorem REnv.empty (s : Same G H) (n : Nat) : REnv K G H (List.replicate n none) (List.replicate n none) (fun _ => []) := by
  refine ⟨s, by simp, fun i e q => ?_, fun _ _ => rfl, fun _ _ _ a z => nomatch z⟩
  unfold getS at q
  cases h : (List.replicate n (none : Option D))[i]? with
  | none => rw [h] at q; cases q
  | some o =>
    have := List.mem_of_getElem? h
    rw [List.mem_replicate] at this
    rw [h, this.2] at q; cases q
theorem REnv.start (s : Same G H) : ∀ {vs : List V} {ds : List D} {L : List Addr} (n : Nat), Reps K G H vs ds L → ∃ F, REnv K G H (vs.map some ++ List.replicate n none) (ds.map some ++ List.replicate n none) F ∧ ∀ a, own F a → a ∈ L
  | _, _, _, n, .nil => ⟨_, REnv.empty s n, fun a ⟨_, h⟩ => nomatch h⟩
  | _, _, _, n, .cons (v := v) hv hr nn => by
    obtain ⟨F, r, o⟩ := REnv.start s n hr
    refine ⟨_, REnv.cons v hv r (fun a ha z => nn a ha (o a z)), fun a h => ?_⟩
    rcases own_cons h with z | z
    · exact List.mem_append_left _ z
    · exact List.mem_append_right _ (o a z)
theorem REnv.tail {s : Option V} {o : Option D} {σ : L2.St} {ρ : Env} {F : Nat → List Addr} (r : REnv K G H (s :: σ) (o :: ρ) F) : REnv K G H σ ρ (fun j => F (j + 1)) :=
  ⟨r.sub, by simpa using r.len, fun i d q => r.at_ (i + 1) d q, fun i q => r.off (i + 1) q, fun i j n a => r.dis (i + 1) (j + 1) (by omega) a⟩
theorem REnv.fin : ∀ {pins : List Bool} {vs : List V} {σ : L2.St} {ρ : Env} {F : Nat → List Addr}, REnv K G H σ ρ F → vs.length = pins.length → pins.length ≤ σ.length → (∀ j : Nat, pins[j]? = some true → σ[j]? = (vs[j]?).map some) →
    ∃ P, ROs K G H vs (finP pins ρ) P ∧ ∀ a ∈ P, own F a
  | [], vs, σ, ρ, F, r, h, _, _ => by
    have : vs = [] := List.length_eq_zero_iff.mp h
    subst this
    refine ⟨[], ?_, fun a z => nomatch z⟩
    have : finP [] ρ = [] := by cases ρ <;> rfl
    rw [this]; exact .nil
  | p :: ps, [], σ, ρ, F, r, h, _, _ => by cases h
  | p :: ps, v :: vs, [], ρ, F, r, h, hl, _ => by simp at hl
  | p :: ps, v :: vs, s :: σ, [], F, r, h, hl, _ => by have := r.len; cases this
  | p :: ps, v :: vs, s :: σ, o :: ρ, F, r, h, hl, hp => by
    obtain ⟨P, q, s1⟩ := REnv.fin (pins := ps) (vs := vs) r.tail (by simpa using h) (by simpa using hl) (fun j hj => hp (j + 1) hj)
    unfold finP
    by_cases hpp : p = true
    · rw [if_pos hpp]
      cases o with
      | none => exact ⟨P, .no q, fun a ha => let ⟨j, hj⟩ := s1 a ha; ⟨j + 1, hj⟩⟩
      | some d =>
        obtain ⟨w, e, hr⟩ := r.at_ 0 d rfl
        have e2 := hp 0 (by rw [hpp]; rfl)
        have : w = v := by
          have e3 : some s = some (some v) := e2
          have e4 : some s = some (some w) := e
          rw [e4] at e3; cases e3; rfl
        subst this
        refine ⟨F 0 ++ P, .yes hr q fun a ha hP => ?_, fun a ha => ?_⟩
        · obtain ⟨j, hj⟩ := s1 a hP
          exact r.dis 0 (j + 1) (by omega) a ha hj
        · rcases List.mem_append.mp ha with z | z
          · exact ⟨0, z⟩
          · obtain ⟨j, hj⟩ := s1 a z; exact ⟨j + 1, hj⟩
    · rw [if_neg hpp]
      exact ⟨P, .no q, fun a ha => let ⟨j, hj⟩ := s1 a ha; ⟨j + 1, hj⟩⟩
theorem OpsOk.fetchC {σ : L2.St} : ∀ {pins : List Bool} {ops : List Op} {ts : List (Option D)} {vs : List V} {M : List Addr} {ds : List D} {ρ ρr : Env} {F : Nat → List Addr}, REnv K G H σ ρ F → OpsOk K G H σ ops ts vs M → (∀ a ∈ M, ¬ own F a) → VS.fetchC pins ops ts ρ = some (ds, ρr) →
    ∃ L Fr, Reps K G H vs ds L ∧ REnv K G H σ ρr Fr ∧ (∀ a ∈ L, ¬ own Fr a) ∧ (∀ a ∈ L, own F a ∨ a ∈ M) ∧ (∀ a, own Fr a → own F a)
  | [], _, _, _, _, ds, ρ, ρr, F, r, .nil, n, e => by
    unfold VS.fetchC at e; cases e
    exact ⟨[], F, .nil, r, fun a z => (nomatch z), fun a z => (nomatch z), fun _ h => h⟩
  | p :: ps, _, _, _, _, ds, ρ, ρr, F, r, .nil, n, e => by
    unfold VS.fetchC at e; cases e
  | [], .b i :: ops, o :: ts, v :: vs, M, ds, ρ, ρr, F, r, .b hv ok, n, e => by
    unfold VS.fetchC at e; cases e
  | p :: ps, .b i :: ops, o :: ts, v :: vs, M, ds, ρ, ρr, F, r, .b hv ok, n, e => by
    unfold VS.fetchC at e
    cases hd : getS ρ i with
    | none => rw [hd] at e; cases e
    | some d =>
      rw [hd] at e
      obtain ⟨w, hw, hr⟩ := r.at_ i d hd
      rw [hv] at hw; cases hw
      have e1 : (if noOwn d = true then (VS.fetchC ps ops ts ρ).bind fun q => some (d :: q.1, q.2) else if p = true then (VS.fetchC ps ops ts (ρ.set i none)).bind fun q => some (d :: q.1, q.2) else none) = some (ds, ρr) := e
      by_cases hn : noOwn d = true
      · rw [if_pos hn] at e1
        cases he : VS.fetchC ps ops ts ρ with
        | none => rw [he] at e1; cases e1
        | some q =>
          rw [he] at e1; cases e1
          obtain ⟨L, Fr, h1, h2, h3, h4, h5⟩ := ok.fetchC r n he
          have h0 := hr.noL hn
          rw [h0] at hr
          exact ⟨L, Fr, Reps.cons hr h1 (fun a z => nomatch z), h2, h3, h4, h5⟩
      · rw [if_neg hn] at e1
        by_cases hp : p = true
        · rw [if_pos hp] at e1
          cases he : VS.fetchC ps ops ts (ρ.set i none) with
          | none => rw [he] at e1; cases e1
          | some q =>
            rw [he] at e1; cases e1
            have sub : ∀ a, own (fset F i []) a → own F a := fun a h => (own_set h).elim id fun z => nomatch z
            obtain ⟨L, Fr, h1, h2, h3, h4, h5⟩ := ok.fetchC (r.drop i) (fun a ha z => n a ha (sub a z)) he
            have nFi : ∀ a ∈ F i, ¬ own (fset F i []) a := fun a ha ⟨j, hj⟩ => by
              by_cases hji : j = i
              · subst hji; rw [fset_same] at hj; cases hj
              · rw [fset_ne hji] at hj; exact r.dis j i hji a hj ha
            refine ⟨F i ++ L, Fr, Reps.cons hr h1 (fun a ha hL => ?_), h2, fun a ha => ?_, fun a ha => ?_, fun a h => sub a (h5 a h)⟩
            · rcases h4 a hL with z | z
              · exact nFi a ha z
              · exact n a z ⟨i, ha⟩
            · rcases List.mem_append.mp ha with z | z
              · exact fun y => nFi a z (h5 a y)
              · exact h3 a z
            · rcases List.mem_append.mp ha with z | z
              · exact .inl ⟨i, z⟩
              · exact (h4 a z).imp (sub a) id
        · rw [if_neg hp] at e1; cases e1
  | [], .t f :: ops, some d :: ts, v :: vs, _, ds, ρ, ρr, F, r, .t hr hn ok, n, e => by
    unfold VS.fetchC at e; cases e
  | p :: ps, .t f :: ops, some d :: ts, v :: vs, _, ds, ρ, ρr, F, r, .t (L := L1) (M := M) hr hn ok, n, e => by
    unfold VS.fetchC at e
    cases he : VS.fetchC ps ops ts ρ with
    | none => rw [he] at e; cases e
    | some q =>
      rw [he] at e; cases e
      obtain ⟨L, Fr, h1, h2, h3, h4, h5⟩ := ok.fetchC r (fun a ha => n a (List.mem_append_right _ ha)) he
      refine ⟨L1 ++ L, Fr, Reps.cons hr h1 (fun a ha hL => ?_), h2, fun a ha => ?_, fun a ha => ?_, h5⟩
      · rcases h4 a hL with z | z
        · exact n a (List.mem_append_left _ ha) z
        · exact hn a ha z
      · rcases List.mem_append.mp ha with z | z
        · exact fun y => n a (List.mem_append_left _ z) (h5 a y)
        · exact h3 a z
      · rcases List.mem_append.mp ha with z | z
        · exact .inr (List.mem_append_left _ z)
        · exact (h4 a z).imp id (List.mem_append_right _)
/-- the places of the operands' slots -/
inductive OpsAt (σ : L2.St) : List Op → List V → Prop
  | nil : OpsAt σ [] []
  | b {i v ops vs} : σ[i]? = some (some v) → OpsAt σ ops vs → OpsAt σ (.b i :: ops) (v :: vs)
  | t {f v ops vs} : OpsAt σ ops vs → OpsAt σ (.t f :: ops) (v :: vs)
theorem OpsOk.at' {σ : L2.St} : ∀ {ops ts vs M}, OpsOk K G H σ ops ts vs M → OpsAt σ ops vs
  | _, _, _, _, .nil => .nil
  | _, _, _, _, .b h r => .b h r.at'
  | _, _, _, _, .t _ _ r => .t r.at'
theorem putB_ok {σ : L2.St} : ∀ {ops : List Op} {vs : List V} {ds : List D} {os : List (Option D)} {P : List Addr} {ρ : Env} {F : Nat → List Addr}, OpsAt σ ops vs → ROs K G H vs os P → REnv K G H σ ρ F → (∀ a ∈ P, ¬ own F a) →
    ∃ F', REnv K G H σ (putB ops ds os ρ) F' ∧ ∀ a, own F' a → own F a ∨ a ∈ P
  | [], _, ds, os, P, ρ, F, .nil, h, r, n => by
    have e : putB [] ds os ρ = ρ := by cases ds <;> rfl
    rw [e]
    exact ⟨F, r, fun a h => .inl h⟩
  | .b i :: ops, v :: vs, [], os, P, ρ, F, .b hv ha, h, r, n => ⟨F, r, fun a h => .inl h⟩
  | .t f :: ops, v :: vs, [], os, P, ρ, F, .t ha, h, r, n => ⟨F, r, fun a h => .inl h⟩
  | .t f :: ops, v :: vs, d :: ds, _, P, ρ, F, .t ha, .no h, r, n => by
    unfold putB; exact putB_ok ha h r n
  | .t f :: ops, v :: vs, d :: ds, _, _, ρ, F, .t ha, .yes hr h hn, r, n => by
    unfold putB
    obtain ⟨F', r', s⟩ := putB_ok (ds := ds) ha h r (fun a ha => n a (List.mem_append_right _ ha))
    exact ⟨F', r', fun a q => (s a q).imp id (List.mem_append_right _)⟩
  | .b i :: ops, v :: vs, d :: ds, _, P, ρ, F, .b hv ha, .no h, r, n => by
    unfold putB
    by_cases hd : noOwn d = true
    · rw [if_pos hd]; exact putB_ok ha h r n
    · rw [if_neg hd]
      have sub : ∀ a, own (fset F i []) a → own F a := fun a h => (own_set h).elim id fun z => nomatch z
      obtain ⟨F', r', s⟩ := putB_ok (ds := ds) ha h (r.drop i) (fun a ha z => n a ha (sub a z))
      exact ⟨F', r', fun a q => (s a q).imp (sub a) id⟩
  | .b i :: ops, v :: vs, d :: ds, _, _, ρ, F, .b hv ha, .yes (d := d') (L1 := L1) (L := L) hr h hn, r, n => by
    unfold putB
    by_cases hd : noOwn d = true
    · rw [if_pos hd]
      obtain ⟨F', r', s⟩ := putB_ok (ds := ds) ha h r (fun a ha => n a (List.mem_append_right _ ha))
      exact ⟨F', r', fun a q => (s a q).imp id (List.mem_append_right _)⟩
    · rw [if_neg hd]
      have hi : i < ρ.length := by rw [← r.len]; exact (List.getElem?_eq_some_iff.mp hv).1
      have r1 := r.re hi hv hr (fun a ha j _ z => n a (List.mem_append_left _ ha) ⟨j, z⟩)
      have sub : ∀ a, own (fset F i L1) a → own F a ∨ a ∈ L1 := fun a h => own_set h
      obtain ⟨F', r', s⟩ := putB_ok (ds := ds) ha h r1 (fun a ha z => (sub a z).elim (n a (List.mem_append_right _ ha)) fun y => hn a y ha)
      refine ⟨F', r', fun a q => ?_⟩
      rcases s a q with z | z
      · exact (sub a z).imp id (List.mem_append_left _)
      · exact .inr (List.mem_append_right _ z)
theorem ROs.owned : ∀ {vs : List V} {os : List (Option D)} {P : List Addr}, ROs K G H vs os P → ∀ a ∈ P, G a = none ∧ ∃ o, H a = some o ∧ LD o
  | _, _, _, .nil, a, h => nomatch h
  | _, _, _, .no r, a, h => r.owned a h
  | _, _, _, .yes hr r _, a, h => by
    rcases List.mem_append.mp h with z | z
    · exact hr.owned a z
    · exact r.owned a z
/-- the operands' values, then the def -/
theorem simE_call {ta : TA} {ops : List Op} {fn : Fn} {dv : List V} {E : XK} (h : SimA K ta ops) (hd : dv = []) : SimE K (tCall (spOf K fn) dv E ta) (callF fn ops) := by
  subst hd
  intro ρ d ρ' e σ G H F r Q q
  unfold callF at e
  cases he : evOps ops ρ with
  | none => rw [he] at e; cases e
  | some p =>
    obtain ⟨ts, ρ1⟩ := p
    rw [he] at e
    have e1 : ((VS.fetchC fn.pins ops ts ρ1).bind fun c => (fn.sem c.1).bind fun q => some (q.1, putB ops c.1 q.2 c.2)) = some (d, ρ') := e
    cases hf : VS.fetchC fn.pins ops ts ρ1 with
    | none => rw [hf] at e1; cases e1
    | some c =>
      obtain ⟨ds, ρr⟩ := c
      rw [hf] at e1
      have e2 : ((fn.sem ds).bind fun q => some (q.1, putB ops ds q.2 ρr)) = some (d, ρ') := e1
      cases hs : fn.sem ds with
      | none => rw [hs] at e2; cases e2
      | some pq =>
        obtain ⟨d1, os⟩ := pq
        rw [hs] at e2; cases e2
        refine h ρ ts ρ1 he σ G H F r _ fun vs G1 H1 F1 M t1 r1 ok n1 => ?_
        obtain ⟨L, Fr, hR, rr, nL, sL, sF⟩ := ok.fetchC r1 n1 hf
        have ap := ok.at'
        show spOf K fn (vs ++ []) H1 Q E
        rw [List.append_nil]
        have hnp : vs.length = fn.np := hR.length.trans (fn.len ds _ hs)
        · refine ⟨G1, ds, L, _, os, r1.sub, hR, hnp, hs, fun v G2 H2 P N t2 ro rv nN => ?_⟩
          have rr2 := rr.tr t2 (fun a ho hl => nL a hl ho)
          have apF : ∀ a, own Fr a → ¬ (a ∈ P ∨ a ∈ N) := fun a ho => by
            obtain ⟨j, hj⟩ := id ho
            exact t2.apart (L := Fr j) (rr.owned j) (fun b hb hl => nL b hl ⟨j, hb⟩) a hj
          obtain ⟨F', r', s⟩ := putB_ok (ds := ds) ap ro rr2 (fun a ha ho => apF a ho (.inl ha))
          refine q v G2 H2 F' N (t1.trans (t2.wk (fun a ha => ?_) fun a ha => ?_)) r' rv fun a ha ho => ?_
          · exact (sL a ha).imp id id
          · rcases ha with z | z
            · rcases s a z with y | y
              · exact .inr (.inl (.inl (sF a y)))
              · exact .inl (.inl y)
            · exact .inl (.inr z)
          · rcases s a ho with y | y
            · exact apF a y (.inr ha)
            · exact nN a ha y
end
end VS
set_option Elab.async false
set_option linter.all false
set_option maxRecDepth 100000
namespace VS
open PySem PySem.Spec PyProof.Rows L2
/-- nothing is let out -/
def noW : WX := fun _ _ _ _ => False
def pnOf (pins : List Bool) : Nat → Bool := fun j => pins.getD j false
def bodyFn (nN np : Nat) (pins : List Bool) (f : FS) : Fn := ⟨np, pins, bodySem nN np pins f, fun ds r h => by
  unfold bodySem at h
  by_cases e : ds.length = np
  · exact e
  · rw [if_neg e] at h; cases h⟩
def stuckFn (np : Nat) (pins : List Bool) : Fn := ⟨np, pins, fun _ => none, fun _ _ h => by cases h⟩
theorem bodySem_cases {nN np : Nat} {pins : List Bool} {f : FS} {ds : List D} {d : D} {os : List (Option D)} (h : bodySem nN np pins f ds = some (d, os)) :
    ds.length = np ∧ ∃ ρ, os = finP pins ρ ∧ (f (ds.map some ++ List.replicate (nN - np) none) = some (.rt d ρ) ∨ (d = .non ∧ f (ds.map some ++ List.replicate (nN - np) none) = some (.nx ρ))) := by
  unfold bodySem at h
  by_cases hn : ds.length = np
  · rw [if_pos hn] at h
    cases hf : f (ds.map some ++ List.replicate (nN - np) none) with
    | none => rw [hf] at h; cases h
    | some o =>
      rw [hf] at h
      cases o with
      | rt d' ρ => cases h; exact ⟨hn, ρ, rfl, .inl rfl⟩
      | nx ρ => cases h; exact ⟨hn, ρ, rfl, .inr ⟨rfl, rfl⟩⟩
      | bk ρ => cases h
      | ct ρ => cases h
      | rz _ _ ρ => cases h
  · rw [if_neg hn] at h; cases h
theorem body_sim {K : PySem.W.Frag} {W : WX} {N : List Str} {np : Nat} {pins : List Bool} {f : FS} (hpl : pins.length = np) (hN : np ≤ N.length) {vs : List V} {H : Hp} {Q : VK} {E : XK} (h : spOf K (bodyFn N.length np pins f) vs H Q E) :
    tsOf K (pnOf pins) W f { nx := fun _ H' => Q .non H', rt := Q } (L2.start N vs) H := by
  obtain ⟨G, ds, L, d, os, s, hR, hl, hs, q⟩ := h
  have hl' : vs.length = np := hl
  obtain ⟨hn, ρ, rfl, hb⟩ := bodySem_cases hs
  obtain ⟨F, r, sF⟩ := REnv.start s (N.length - np) hR
  have es : L2.start N vs = vs.map some ++ List.replicate (N.length - np) none := by unfold L2.start; rw [hl']
  rw [← es] at r
  have post : ∀ (v : V) (σ' : L2.St) (G' H' : Hp) (F' : Nat → List Addr) (M : List Addr), Tr G H (own F) G' H' (fun a => own F' a ∨ a ∈ M) → REnv K G' H' σ' ρ F' → Pin (pnOf pins) (L2.start N vs) σ' → Rep K G' H' v d M → (∀ a ∈ M, ¬ own F' a) → Q v H' := fun v σ' G' H' F' M t r' p rv n => by
    have lσ : pins.length ≤ σ'.length := by
      rw [p.1, es, List.length_append, List.length_map, List.length_replicate, hpl]; omega
    obtain ⟨P, ro, sP⟩ := REnv.fin (pins := pins) (vs := vs) r' (by rw [hl', hpl]) lσ (fun j hj => by
      have hjp : pnOf pins j = true := by unfold pnOf; rw [List.getD_eq_getElem?_getD, hj]; rfl
      rw [p.2 j hjp, es]
      have hjl : j < vs.length := by rw [hl', ← hpl]; exact (List.getElem?_eq_some_iff.mp hj).1
      rw [List.getElem?_append_left (by simpa using hjl), List.getElem?_map])
    refine q v G' H' P M (t.wk (fun a h => sF a h) fun a h => ?_) ro rv fun a ha hP => n a ha (sP a hP)
    rcases h with h | h
    · exact .inl (.inl (sP a h))
    · exact .inl (.inr h)
  rcases hb with hb | ⟨rfl, hb⟩
  · exact ⟨_, _, G, F, hb, r, fun v σ' G' H' F' M t r' p rv n => post v σ' G' H' F' M t r' p rv n⟩
  · exact ⟨_, _, G, F, hb, r, fun σ' G' H' F' t r' p => post .non σ' G' H' F' [] (t.post fun a h => h.elim id fun z => nomatch z) r' p .non (fun a z => nomatch z)⟩
end VS
set_option Elab.async false
set_option linter.all false
set_option maxRecDepth 100000
namespace VS
open PySem PySem.Spec PyProof.Rows L2
section
variable {P : Program} {w : World} {K : PySem.W.Frag} {mg : Str → Option Value} {base : Heap}
theorem fn_ok {x qual : Str} {st : Stmt} {f : Addr} {fd : FuncData} {N ps : List Str} {k : Nat} {pins : List Bool} {fb : FS} (F : Fun K x qual st f fd) (S : FnScope N ps (defScope st)) (hpl : pins.length = ps.length) (hN : ps.length ≤ N.length)
    (hbody : ∀ (cdv : Value) (A : Around) (outer : List PySem.Env) (s : Shared) (H : Hp) (E : XK), Room k (A.deeper (envOfC qual (defScope st) s.heap.objs.size f cdv)) →
      PSsf (cxOf CX0 P w K mg base N qual (defScope st) f cdv A outer s H E).nox (pnOf pins) noW (defBody st) fb) : FnOk P w K mg base CX0 (k + 1) f fd ps (spOf K (bodyFn N.length ps.length pins fb)) :=
  F.ok S (fun vs H Q E ⟨_, _, _, _, _, _, _, h, _⟩ => h) fun cdv A outer s H vs Q E hr h => ⟨_, hbody cdv A outer s H E hr, body_sim hpl hN h⟩
theorem stuck_ok {x qual : Str} {st : Stmt} {f : Addr} {fd : FuncData} {N ps : List Str} {k : Nat} {pins : List Bool} (F : Fun K x qual st f fd) (S : FnScope N ps (defScope st)) : FnOk P w K mg base CX0 (k + 1) f fd ps (spOf K (stuckFn ps.length pins)) :=
  F.ok S (fun vs H Q E ⟨_, _, _, _, _, _, _, h, _⟩ => h) fun cdv A outer s H vs Q E hr ⟨_, _, _, _, _, _, _, _, h, _⟩ => by cases h
end
section
variable {X : Cx} {pn : Nat → Bool} {W : WX} {k : Nat} {f : Addr} {fd : FuncData} {ps : List Str} {fn : Fn} {x : Str} {p pos : Pos} {e : Expr} {es : List Expr} {o : Op} {ops : List Op}
theorem pf_call (F : FnOk X.prog X.w X.K X.mg X.base CX0 k f fd ps (spOf X.K fn)) (hr : Room k X.A) (hg : Gl X x) (hm : X.mg x = some (.ref f)) (hk : PySem.W.keepIn X.K (.ref f) = true) (hb : Binds X.K fd ps [])
    (ha : PAf X (e :: es) ops) (hdb : (x == ("__debug__" : Str)) = false := by decide) (he : starEach (e :: es) X.env = (false, eval e X.env) :: starEach es X.env := by rfl) (hpl : (backTo pos (starEach es X.env)).any (·.1) = false := by rfl) :
    PEf X (.Call (.Name x p) (e :: es) [] pos) (callF fn ops) := .mk (pe_call F hr hg hm hk hb .nil pass0 ha hdb he hpl) (simE_call (simA_of _) rfl)
end
/-! ### keywords: the operands put in the parameters' order -/
def permL {α : Type} (is : List Nat) (xs : List α) : List α := is.filterMap fun i => xs[i]?
def callKF (fn : Fn) (is : List Nat) (ops : List Op) : FE := fun ρ => (evOps ops ρ).bind fun p => (fetchC fn.pins (permL is ops) (permL is p.1) p.2).bind fun c => (fn.sem c.1).bind fun q => some (q.1, putB (permL is ops) c.1 q.2 c.2)
section
variable {K : PySem.W.Frag} {G H : Hp}
structure Q4 where
  o : Op
  t : Option D
  v : V
  L : List Addr
def Q4.ok (K : PySem.W.Frag) (G H : Hp) (σ : L2.St) (q : Q4) : Prop := match q.o with
  | .b i => σ[i]? = some (some q.v) ∧ q.L = []
  | .t _ => ∃ d, q.t = some d ∧ Rep K G H q.v d q.L
def Q4.apart (a b : Q4) : Prop := ∀ x, x ∈ a.L → x ∉ b.L
theorem Q4.apart_symm {a b : Q4} (h : a.apart b) : b.apart a := fun x hx hy => h x hy hx
theorem OpsOk.to4 {σ : L2.St} : ∀ {ops ts vs M}, OpsOk K G H σ ops ts vs M → ∃ qs : List Q4, qs.map (·.o) = ops ∧ qs.map (·.t) = ts ∧ qs.map (·.v) = vs ∧ (∀ q ∈ qs, q.ok K G H σ) ∧ qs.Pairwise Q4.apart ∧ (qs.map (·.L)).flatten = M
  | _, _, _, _, .nil => ⟨[], rfl, rfl, rfl, fun q z => (nomatch z), .nil, rfl⟩
  | _, _, _, _, .b (i := i) (v := v) (o := o) h r => by
    obtain ⟨qs, e1, e2, e3, h1, h2, e4⟩ := r.to4
    refine ⟨⟨.b i, o, v, []⟩ :: qs, by simp [e1], by simp [e2], by simp [e3], fun q hq => ?_, .cons (fun q _ x hx => nomatch hx) h2, by simp [e4]⟩
    rcases List.mem_cons.mp hq with z | z
    · subst z; exact ⟨h, rfl⟩
    · exact h1 q z
  | _, _, _, _, .t (f := f) (v := v) (d := d) (L := L) hr hn r => by
    obtain ⟨qs, e1, e2, e3, h1, h2, e4⟩ := r.to4
    refine ⟨⟨.t f, some d, v, L⟩ :: qs, by simp [e1], by simp [e2], by simp [e3], fun q hq => ?_, .cons (fun q hq x hx hy => ?_) h2, by simp [e4]⟩
    · rcases List.mem_cons.mp hq with z | z
      · subst z; exact ⟨d, rfl, hr⟩
      · exact h1 q z
    · refine hn x hx ?_
      rw [← e4]
      exact List.mem_flatten.mpr ⟨q.L, List.mem_map.mpr ⟨q, hq, rfl⟩, hy⟩
theorem OpsOk.of4 {σ : L2.St} : ∀ {qs : List Q4}, (∀ q ∈ qs, q.ok K G H σ) → qs.Pairwise Q4.apart → OpsOk K G H σ (qs.map (·.o)) (qs.map (·.t)) (qs.map (·.v)) (qs.map (·.L)).flatten
  | [], _, _ => .nil
  | ⟨.b i, t', v, L⟩ :: qs, h, hp => by
    obtain ⟨h1, h2⟩ : _ ∧ L = [] := h _ List.mem_cons_self
    subst h2
    exact .b h1 (OpsOk.of4 (fun q hq => h q (List.mem_cons_of_mem _ hq)) (List.pairwise_cons.mp hp).2)
  | ⟨.t f, t', v, L⟩ :: qs, h, hp => by
    obtain ⟨d, h1, h2⟩ : ∃ d, t' = some d ∧ Rep K G H v d L := h _ List.mem_cons_self
    subst h1
    obtain ⟨p1, p2⟩ := List.pairwise_cons.mp hp
    refine .t h2 (fun a ha hm => ?_) (OpsOk.of4 (fun q hq => h q (List.mem_cons_of_mem _ hq)) p2)
    obtain ⟨l, hl, ha2⟩ := List.mem_flatten.mp hm
    obtain ⟨q, hq, rfl⟩ := List.mem_map.mp hl
    exact p1 q hq a ha ha2
theorem permL_map {α β : Type} (is : List Nat) (xs : List α) (f : α → β) : permL is (xs.map f) = (permL is xs).map f := by
  unfold permL
  rw [List.map_filterMap]
  congr 1
  funext i
  rw [List.getElem?_map]
theorem range_self {α : Type} : ∀ xs : List α, (List.range xs.length).filterMap (fun i => xs[i]?) = xs
  | [] => rfl
  | x :: xs => by
    rw [List.length_cons, List.range_succ_eq_map, List.filterMap_cons]
    show x :: _ = x :: xs
    rw [List.filterMap_map]
    congr 1
    exact range_self xs
theorem permL_perm {α : Type} {is : List Nat} {xs : List α} (h : is.Perm (List.range xs.length)) : (permL is xs).Perm xs := by
  have := h.filterMap fun i => xs[i]?
  rw [range_self] at this
  exact this
theorem OpsOk.perm {σ : L2.St} {is : List Nat} {ops ts vs M} (h : OpsOk K G H σ ops ts vs M) (hp : is.Perm (List.range ops.length)) : ∃ M', OpsOk K G H σ (permL is ops) (permL is ts) (permL is vs) M' ∧ ∀ a, a ∈ M' → a ∈ M := by
  obtain ⟨qs, e1, e2, e3, h1, h2, e4⟩ := h.to4
  have hl : is.Perm (List.range qs.length) := by rw [← e1, List.length_map] at hp; exact hp
  have pp := permL_perm (xs := qs) hl
  subst e1; subst e2; subst e3; subst e4
  rw [permL_map, permL_map, permL_map]
  refine ⟨_, OpsOk.of4 (fun q hq => h1 q (pp.subset hq)) ((pp.pairwise_iff fun {a b} h => Q4.apart_symm h).mpr h2), fun a ha => ?_⟩
  obtain ⟨l, hl, ha2⟩ := List.mem_flatten.mp ha
  obtain ⟨q, hq, rfl⟩ := List.mem_map.mp hl
  exact List.mem_flatten.mpr ⟨q.L, List.mem_map.mpr ⟨q, pp.subset hq, rfl⟩, ha2⟩
theorem simE_callK {ta : TA} {ops : List Op} {fn : Fn} {is : List Nat} {E : XK} (h : SimA K ta ops) (hp : is.Perm (List.range ops.length)) : SimE K (fun σ H Q => ta σ H fun vs H1 => spOf K fn (permL is vs) H1 Q E) (callKF fn is ops) := by
  intro ρ d ρ' e σ G H F r Q q
  unfold callKF at e
  cases he : evOps ops ρ with
  | none => rw [he] at e; cases e
  | some p =>
    obtain ⟨ts, ρ1⟩ := p
    rw [he] at e
    have e1 : ((VS.fetchC fn.pins (permL is ops) (permL is ts) ρ1).bind fun c => (fn.sem c.1).bind fun q => some (q.1, putB (permL is ops) c.1 q.2 c.2)) = some (d, ρ') := e
    cases hf : VS.fetchC fn.pins (permL is ops) (permL is ts) ρ1 with
    | none => rw [hf] at e1; cases e1
    | some c =>
      obtain ⟨ds, ρr⟩ := c
      rw [hf] at e1
      have e2 : ((fn.sem ds).bind fun q => some (q.1, putB (permL is ops) ds q.2 ρr)) = some (d, ρ') := e1
      cases hs : fn.sem ds with
      | none => rw [hs] at e2; cases e2
      | some pq =>
        obtain ⟨d1, os⟩ := pq
        rw [hs] at e2; cases e2
        refine h ρ ts ρ1 he σ G H F r _ fun vs0 G1 H1 F1 M0 t1 r1 ok0 n0 => ?_
        obtain ⟨M, ok, sM⟩ := ok0.perm hp
        generalize permL is vs0 = vs at ok
        have n1 : ∀ a ∈ M, ¬ own F1 a := fun a ha => n0 a (sM a ha)
        obtain ⟨L, Fr, hR, rr, nL, sL, sF⟩ := ok.fetchC r1 n1 hf
        have ap := ok.at'
        have hnp : vs.length = fn.np := hR.length.trans (fn.len ds _ hs)
        refine ⟨G1, ds, L, _, os, r1.sub, hR, hnp, hs, fun v G2 H2 P N t2 ro rv nN => ?_⟩
        have rr2 := rr.tr t2 (fun a ho hl => nL a hl ho)
        have apF : ∀ a, own Fr a → ¬ (a ∈ P ∨ a ∈ N) := fun a ho => by
          obtain ⟨j, hj⟩ := id ho
          exact t2.apart (L := Fr j) (rr.owned j) (fun b hb hl => nL b hl ⟨j, hb⟩) a hj
        obtain ⟨F', r', s⟩ := putB_ok (ds := ds) ap ro rr2 (fun a ha ho => apF a ho (.inl ha))
        refine q v G2 H2 F' N (t1.trans (t2.wk (fun a ha => ?_) fun a ha => ?_)) r' rv fun a ha ho => ?_
        · exact (sL a ha).imp id (sM a)
        · rcases ha with z | z
          · rcases s a z with y | y
            · exact .inr (.inl (.inl (sF a y)))
            · exact .inl (.inl y)
          · exact .inl (.inr z)
        · rcases s a ho with y | y
          · exact apF a y (.inr ha)
          · exact nN a ha y
end
section
variable {X : Cx} {k : Nat} {f : Addr} {fd : FuncData} {ps ks : List Str} {fn : Fn} {x : Str} {p pos kpos : Pos} {e : Expr} {es : List Expr} {kws : List Keyword} {ops kops : List Op} {nm : Option Str}
abbrev PKf (X : Cx) (kws : List Keyword) (ops : List Op) : Prop := PK X kws (taOf X.K ops)
theorem PKf.mk {ta : TA} (h : PK X kws ta) (s : SimA X.K ta ops) : PKf X kws ops := ⟨fun p pins sh σ H Q I ⟨ρ, d, ρ', G, F, ee, r, q⟩ => h.run p pins sh σ H Q I (s ρ d ρ' ee σ G H F r Q q)⟩
theorem pkf_nil : PKf X [] [] := .mk pk_nil simA_nil
theorem pkf_cons {o : Op} (h1 : POf X e o) (h2 : PKf X kws ops) : PKf X (⟨nm, e, kpos⟩ :: kws) (o :: ops) := by
  obtain ⟨te, p1, s1⟩ := h1.ex
  exact .mk (pk_cons p1 h2) (simA_cons s1 (simA_of _))
/-- how n positional values and the keywords ks are bound: the parameters' order is told by places -/
def KB (K : PySem.W.Frag) (fd : FuncData) (ps : List Str) (n : Nat) (ks : List Str) (is : List Nat) : Prop :=
  ∀ (s : Shared) (us ws : List Value), K.In s.heap → us.length = n → ws.length = ks.length → BindsTo s fd ⟨us, ks.zip ws⟩ (ps.zip (permL is (us ++ ws)))
theorem permL_vals {vs : List V} {us : List Value} (h : Vals vs us) : ∀ is : List Nat, Vals (permL is vs) (permL is us)
  | [] => .nil
  | i :: is => by
    unfold permL
    rw [List.filterMap_cons, List.filterMap_cons]
    cases hv : vs[i]? with
    | none =>
      rw [h.none_of hv]
      exact permL_vals h is
    | some v =>
      obtain ⟨u, hu, r⟩ := h.get hv
      rw [hu]
      exact .cons r (permL_vals h is)
theorem run_fnP {n : Nat} {is : List Nat} {pins : List (Addr × Obj)} {σ : L2.St} {H : Hp} {s : Shared} {Q : VK} {us ws : List Value} {vs zs : List V} (F : FnOk X.prog X.w X.K X.mg X.base CX0 k f fd ps (spOf X.K fn)) (hr : Room k X.A) (hb : KB X.K fd ps n ks is)
    (I : Inv X pins σ H s) (r : Vals vs us) (rz : Vals zs ws) (l1 : vs.length = n) (l2 : zs.length = ks.length) (h : spOf X.K fn (permL is (vs ++ zs)) H Q E0) : wpAny (model X.prog X.w) X.A (call (.ref f) us (ks.zip ws)) (EP X pins σ Q) X.xe s := by
  have r2 := permL_vals (r.append rz) is
  refine wpAny_call (codeAny_mono (F.run X.A X.stack s H ⟨us, ks.zip ws⟩ (permL is (us ++ ws)) (permL is (vs ++ zs)) Q E0 hr I.env0 (hb s us ws I.kIn (r.length.symm.trans l1) (rz.length.symm.trans l2)) r2 h) fun r s' hq => ?_)
  cases r with
  | error e => exact hq.elim
  | ok fl =>
    cases fl with
    | ret u => exact I.after hq
    | next => exact False.elim hq
    | brk => exact False.elim hq
    | cont => exact False.elim hq
theorem OpsOk.len {K : PySem.W.Frag} {G H : Hp} {σ : L2.St} : ∀ {ops ts vs M}, OpsOk K G H σ ops ts vs M → vs.length = ops.length
  | _, _, _, _, .nil => rfl
  | _, _, _, _, .b _ r => by simp [r.len]
  | _, _, _, _, .t _ _ r => by simp [r.len]
/-- a reading whose values are so many -/
def taN (n : Nat) (ta : TA) : TA := fun σ H Q => ta σ H fun vs H1 => vs.length = n ∧ Q vs H1
theorem simA_N {K : PySem.W.Frag} {ta : TA} (h : SimA K ta ops) : SimA K (taN ops.length ta) ops := fun ρ ts ρ' e σ G H F r Q q =>
  h ρ ts ρ' e σ G H F r _ fun vs G' H' F' M t r' ok n => ⟨ok.len, q vs G' H' F' M t r' ok n⟩
theorem pf_callK0 {is : List Nat} (F : FnOk X.prog X.w X.K X.mg X.base CX0 k f fd ps (spOf X.K fn)) (hr : Room k X.A) (hg : Gl X x) (hm : X.mg x = some (.ref f)) (hk : PySem.W.keepIn X.K (.ref f) = true) (hb : KB X.K fd ps 0 ks is) (hp : is.Perm (List.range kops.length)) (hkl : kops.length = ks.length)
    (hkw : PKf X kws kops) (hall : (backToKw pos (keywordEach kws X.env)).all (·.1.isSome) = true := by rfl) (hks : (backToKw pos (keywordEach kws X.env)).filterMap (·.1) = ks := by rfl)
    (hdb : (x == ("__debug__" : Str)) = false := by decide)
    (hpl : ((backTo pos (starEach [] X.env)).any (·.1) || (backToKw pos (keywordEach kws X.env)).any (·.1.isNone)) = false := by rfl) : PEf X (.Call (.Name x p) [] kws pos) (callKF fn is kops) := by
  refine .mk (te := fun σ H Q => taN kops.length (taOf X.K kops) σ H fun zs H2 => spOf X.K fn (permL is zs) H2 Q E0) ⟨fun pins s σ H Q I h => ?_⟩ (simE_callK (simA_N (simA_of kops)) hp)
  refine wpAny_Call_Name_kw (ld_glob I hg hm ?_ hdb)
  refine PySem.W.callWith_KW0 (h₀ := X.base) I.ok.mod.kin hk hall ?_ hpl
  refine thn (hkw.run pos pins s σ H _ I h) fun ws s2 ⟨zs, H2, I2, rz, q2⟩ => ⟨I2.kIn, ?_⟩
  rw [hks]
  have := run_fnP (us := []) (vs := []) F hr hb I2 .nil rz rfl (q2.1.trans hkl) (by rw [List.nil_append]; exact q2.2)
  exact this
end
end VS
set_option Elab.async false
set_option linter.all false
set_option maxRecDepth 100000
namespace VS
open PySem PySem.Spec PyProof.Rows L2
/-! ### comprehensions -/
def wipeD (ρ : Env) : List Nat → Env
  | [] => ρ
  | v :: vs => (wipeD ρ vs).set v none
def goLc (vs : List Nat) (fg : D → Env → Option Env) (ft : FB) (fe : FE) : List D → Env → Option (List D × Env)
  | [], ρ => some ([], ρ)
  | d :: ds, ρ => (fg d ρ).bind fun ρ1 => (ft ρ1).bind fun b => if b.1 = true then (fe b.2).bind fun q => (goLc vs fg ft fe ds (wipeD q.2 vs)).bind fun r => some (q.1 :: r.1, r.2) else goLc vs fg ft fe ds (wipeD b.2 vs)
def lcF (vs : List Nat) (fi : FI) (fg : D → Env → Option Env) (ft : FB) (fe : FE) : FE := fun ρ => (fi ρ).bind fun p => (goLc vs fg ft fe p.1 (wipeD p.2 vs)).bind fun q => if q.1.length ≤ smallL then some (.lst true q.1, q.2) else none
def yesF : FB := fun ρ => some (true, ρ)
section
variable {K : PySem.W.Frag} {G H : Hp} {σ : L2.St} {ρ : Env} {F : Nat → List Addr}
theorem REnv.drop2 (r : REnv K G H σ ρ F) (i : Nat) : REnv K G H (σ.set i none) (ρ.set i none) (fset F i []) := by
  have d := r.drop i
  refine ⟨d.sub, by rw [List.length_set]; exact d.len, fun j e q => ?_, d.off, d.dis⟩
  obtain ⟨v, e1, e2⟩ := d.at_ j e q
  have : j ≠ i := fun z => by
    subst z
    rw [getS_set] at q
    by_cases hl : j < ρ.length
    · rw [if_pos ⟨rfl, hl⟩] at q; cases q
    · rw [if_neg (fun z => hl z.2)] at q; exact hl (r.lt q)
  exact ⟨v, by rw [List.getElem?_set_ne (Ne.symm this)]; exact e1, e2⟩
theorem REnv.wipe (r : REnv K G H σ ρ F) : ∀ vs : List Nat, ∃ F', REnv K G H (L2.wipe σ vs) (wipeD ρ vs) F' ∧ ∀ a, own F' a → own F a
  | [] => ⟨F, r, fun _ h => h⟩
  | v :: vs => by
    obtain ⟨F', r', s⟩ := r.wipe vs
    exact ⟨_, r'.drop2 v, fun a h => s a ((own_set h).elim id fun z => nomatch z)⟩
theorem getS_wipe : ∀ {vs : List Nat} {i : Nat} {d : D}, getS (wipeD ρ vs) i = some d → i ∉ vs
  | [], _, _, _ => List.not_mem_nil
  | v :: vs, i, d, h => by
    unfold wipeD at h
    rw [getS_set] at h
    intro hm
    rcases List.mem_cons.mp hm with z | z
    · subst z
      by_cases hl : i < (wipeD ρ vs).length
      · rw [if_pos ⟨rfl, hl⟩] at h; cases h
      · rw [if_neg (fun z => hl z.2)] at h
        unfold getS at h
        rw [List.getElem?_eq_none (by omega)] at h; cases h
    · by_cases hv : i = v ∧ v < (wipeD ρ vs).length
      · rw [if_pos hv] at h; cases h
      · rw [if_neg hv] at h; exact getS_wipe h z
/-- nothing is known of the wiped slots: any values may stand there -/
theorem REnv.unwipe {vs : List Nat} (r : REnv K G H (L2.wipe σ vs) ρ F) (h : ∀ i d, getS ρ i = some d → i ∉ vs) : REnv K G H σ ρ F := by
  refine ⟨r.sub, by rw [← r.len, wipe_length], fun i d q => ?_, r.off, r.dis⟩
  obtain ⟨v, e, hr⟩ := r.at_ i d q
  exact ⟨v, by rw [← wipe_out (h i d q)]; exact e, hr⟩
theorem wipe_pin {vs : List Nat} {σ σ' : L2.St} (p : Pin (fun j => !vs.contains j) (L2.wipe σ vs) σ') : L2.wipe σ' vs = L2.wipe σ vs := by
  have none_in : ∀ (τ : L2.St) (us : List Nat) (i : Nat), i ∈ us → i < τ.length → (L2.wipe τ us)[i]? = some none := by
    intro τ us
    induction us with
    | nil => intro i h; cases h
    | cons u us ih =>
      intro i h hl
      unfold L2.wipe
      by_cases hu : u = i
      · subst hu; rw [List.getElem?_set_self (by rw [wipe_length]; exact hl)]
      · rw [List.getElem?_set_ne hu]
        rcases List.mem_cons.mp h with z | z
        · exact absurd z.symm hu
        · exact ih i z hl
  apply List.ext_getElem?
  intro i
  by_cases hi : i ∈ vs
  · by_cases hl : i < σ.length
    · rw [none_in _ _ _ hi (by rw [p.1, wipe_length]; exact hl), none_in _ _ _ hi hl]
    · rw [List.getElem?_eq_none (by rw [wipe_length, p.1, wipe_length]; omega), List.getElem?_eq_none (by rw [wipe_length]; omega)]
  · rw [wipe_out hi]
    exact p.2 i (by simpa using hi)
theorem Reps.snoc : ∀ {vs : List V} {ds : List D} {L M : List Addr} {v : V} {d : D}, Reps K G H vs ds L → Rep K G H v d M → (∀ a ∈ L, a ∉ M) → Reps K G H (vs ++ [v]) (ds ++ [d]) (L ++ M)
  | _, _, _, M, v, d, .nil, h, n => by
    have := Reps.cons h (.nil (K := K) (G := G) (H := H)) (fun a _ z => nomatch z)
    rw [List.append_nil] at this
    exact this
  | _, _, _, M, v, d, .cons (L := L1) (M := L2) hv hr hn, h, n => by
    have := Reps.cons hv (hr.snoc h fun a ha => n a (List.mem_append_right _ ha)) (fun a ha hm => (List.mem_append.mp hm).elim (hn a ha) (n a (List.mem_append_left _ ha)))
    rw [← List.append_assoc] at this
    exact this
theorem goLc_len {vs : List Nat} {fg : D → Env → Option Env} {ft : FB} {fe : FE} {ds : List D} {ρ ρ' : Env} {xs : List D} (h : goLc vs fg ft fe ds ρ = some (xs, ρ')) (hv : ∀ i d, getS ρ i = some d → i ∉ vs) : ∀ i d, getS ρ' i = some d → i ∉ vs := by
  induction ds generalizing ρ xs with
  | nil => unfold goLc at h; cases h; exact hv
  | cons d ds ih =>
    unfold goLc at h
    cases h1 : fg d ρ with
    | none => rw [h1] at h; cases h
    | some ρ1 =>
      rw [h1] at h
      have h2 : (ft ρ1).bind (fun b => if b.1 = true then (fe b.2).bind fun q => (goLc vs fg ft fe ds (wipeD q.2 vs)).bind fun r => some (q.1 :: r.1, r.2) else goLc vs fg ft fe ds (wipeD b.2 vs)) = some (xs, ρ') := h
      cases h3 : ft ρ1 with
      | none => rw [h3] at h2; cases h2
      | some b =>
        rw [h3] at h2
        have h4 : (if b.1 = true then (fe b.2).bind fun q => (goLc vs fg ft fe ds (wipeD q.2 vs)).bind fun r => some (q.1 :: r.1, r.2) else goLc vs fg ft fe ds (wipeD b.2 vs)) = some (xs, ρ') := h2
        by_cases hb : b.1 = true
        · rw [if_pos hb] at h4
          cases h5 : fe b.2 with
          | none => rw [h5] at h4; cases h4
          | some q =>
            rw [h5] at h4
            have h6 : (goLc vs fg ft fe ds (wipeD q.2 vs)).bind (fun r => some (q.1 :: r.1, r.2)) = some (xs, ρ') := h4
            cases h7 : goLc vs fg ft fe ds (wipeD q.2 vs) with
            | none => rw [h7] at h6; cases h6
            | some r => rw [h7] at h6; cases h6; exact ih h7 (fun i d q => getS_wipe q)
        · rw [if_neg hb] at h4
          exact ih h4 (fun i d q => getS_wipe q)
theorem simE_lc {wi : TI} {g : TG} {tt : TT} {te : TE} {vs : List Nat} {fi : FI} {fg : D → Env → Option Env} {ft : FB} {fe : FE} (hi : SimI K wi fi) (hg : SimG K (fun j => !vs.contains j) g fg) (ht : SimT K tt ft) (he : SimE K te fe) : SimE K (tLc wi g tt te vs) (lcF vs fi fg ft fe) := by
  intro ρ d ρ' e σ G H F r Q q
  unfold lcF at e
  cases hf : fi ρ with
  | none => rw [hf] at e; cases e
  | some p =>
    obtain ⟨ds, ρ1⟩ := p
    rw [hf] at e
    have e1 : (goLc vs fg ft fe ds (wipeD ρ1 vs)).bind (fun q => if q.1.length ≤ smallL then some (D.lst true q.1, q.2) else none) = some (d, ρ') := e
    cases hgo : goLc vs fg ft fe ds (wipeD ρ1 vs) with
    | none => rw [hgo] at e1; cases e1
    | some pq =>
      obtain ⟨xs, ρe⟩ := pq
      rw [hgo] at e1
      have e2 : (if xs.length ≤ smallL then some (D.lst true xs, ρe) else none) = some (d, ρ') := e1
      by_cases hz : xs.length ≤ smallL
      · rw [if_pos hz] at e2; cases e2
        have hwe : ∀ i d, getS ρ' i = some d → i ∉ vs := goLc_len hgo (fun i d q => getS_wipe q)
        refine hi ρ ds ρ1 hf σ G H F r _ fun J G1 H1 F1 t1 r1 jo Dl hDl => ?_
        obtain ⟨F0, r0, s0⟩ := r1.wipe vs
        have tn : Tr G1 H1 (own F1) G1 (upd H1 Dl (.lst [])) (fun a => own F1 a ∨ a = Dl) := Tr.newO r1.sub hDl
        have nD : ¬ own F1 Dl := fun ⟨j, hj⟩ => by obtain ⟨_, vs, ee, ld⟩ := r1.owned j _ hj; rw [hDl] at ee; cases ee
        have gD : G1 Dl = none := r1.sub.free hDl
        have r0' : REnv K G1 (upd H1 Dl (.lst [])) (L2.wipe σ vs) (wipeD ρ1 vs) F0 := r0.tr (Tr.newO (A := fun _ => False) r0.sub hDl) (fun _ _ z => z)
        -- the word
        let Wd : Nat → Hp → Prop := fun i H' => ∃ accV accD rest L ρi Gi Fi, goLc vs fg ft fe (ds.drop i) ρi = some (rest, ρ') ∧ accD ++ rest = xs ∧ H' Dl = some (.lst accV) ∧ Gi Dl = none ∧ Dl ∉ L ∧ ¬ own Fi Dl ∧ Reps K Gi H' accV accD L ∧ (∀ a ∈ L, ¬ own Fi a) ∧ REnv K Gi H' (L2.wipe σ vs) ρi Fi ∧ Tr G1 H1 (own F1) Gi H' (fun a => own Fi a ∨ a ∈ Dl :: L)
        refine ⟨fun i m H' => m = ds.length - i ∧ i ≤ ds.length ∧ Wd i H', ⟨ds.length, by omega, Nat.zero_le _, [], [], xs, [], wipeD ρ1 vs, G1, F0, hgo, rfl, upd_same, gD, List.not_mem_nil, fun z => nD (s0 _ z), .nil, fun a z => (nomatch z), r0', tn.post fun a h => ?_⟩, ?_⟩
        · rcases h with h | h
          · exact .inl (s0 a h)
          · exact .inr (by simpa using h)
        rintro i m H' ⟨rfl, hle, accV, accD, rest, L, ρi, Gi, Fi, eg, ex, hD, hGD, nDL, nDF, hR, nLF, ri, ti⟩
        have sH : Same G1 H' := ti.g.trans ti.sub
        by_cases hlt : i < ds.length
        · refine .inr ⟨jo.goes i H' hlt sH, fun H2 => ∃ m', m' < ds.length - i ∧ (m' = ds.length - (i + 1) ∧ i + 1 ≤ ds.length ∧ Wd (i + 1) H2), fun _ h => h, fun x H2 hy => ?_⟩
          have hd : ds[i]? = some ds[i] := List.getElem?_eq_getElem hlt
          obtain ⟨G2, t2, rv⟩ := jo.yields i ds[i] Gi H' x H2 hd ti.g ri.sub hy
          have r2 := ri.tr t2 (fun _ _ z => z)
          have hR2 := hR.tr t2 (fun _ _ z => z)
          have hD2 := t2.keep Dl _ hD (fun z => z)
          have hGD2 : G2 Dl = none := (t2.keepG Dl _ hD (fun z => z)).trans hGD
          have ti2 : Tr G1 H1 (own F1) G2 H2 (fun a => own Fi a ∨ a ∈ Dl :: L) := ti.trans (t2.wk (fun _ z => z.elim) fun a h => .inr (.inl h))
          rw [show ds.drop i = ds[i] :: ds.drop (i + 1) from List.drop_eq_getElem_cons hlt] at eg
          have eg1 : (fg ds[i] ρi).bind (fun ρ1 => (ft ρ1).bind fun b => if b.1 = true then (fe b.2).bind fun q => (goLc vs fg ft fe (ds.drop (i + 1)) (wipeD q.2 vs)).bind fun r => some (q.1 :: r.1, r.2) else goLc vs fg ft fe (ds.drop (i + 1)) (wipeD b.2 vs)) = some (rest, ρ') := eg
          cases hg1 : fg ds[i] ρi with
          | none => rw [hg1] at eg1; cases eg1
          | some ρ2 =>
            rw [hg1] at eg1
            have eg2 : (ft ρ2).bind (fun b => if b.1 = true then (fe b.2).bind fun q => (goLc vs fg ft fe (ds.drop (i + 1)) (wipeD q.2 vs)).bind fun r => some (q.1 :: r.1, r.2) else goLc vs fg ft fe (ds.drop (i + 1)) (wipeD b.2 vs)) = some (rest, ρ') := eg1
            refine hg ds[i] ρi ρ2 hg1 x (L2.wipe σ vs) G2 H2 Fi [] r2 rv (fun a z => nomatch z) _ fun σ3 G3 H3 F3 t3 r3 p3 => ?_
            have nA3 : ∀ a ∈ Dl :: L, ¬ (own Fi a ∨ a ∈ ([] : List Addr)) := fun a ha z => by
              rcases z with z | z
              · rcases List.mem_cons.mp ha with y | y
                · subst y; exact nDF z
                · exact nLF a y z
              · cases z
            have own2 : ∀ a ∈ Dl :: L, G2 a = none ∧ ∃ o, H2 a = some o ∧ LD o := fun a ha => by
              rcases List.mem_cons.mp ha with y | y
              · subst y; exact ⟨hGD2, _, hD2, .l _⟩
              · exact hR2.owned a y
            have ap3 := t3.apart own2 nA3
            have hR3 := hR2.tr t3 (fun a ha => nA3 a (List.mem_cons_of_mem _ ha))
            have hD3 := t3.keep Dl _ hD2 (nA3 Dl List.mem_cons_self)
            have hGD3 : G3 Dl = none := (t3.keepG Dl _ hD2 (nA3 Dl List.mem_cons_self)).trans hGD2
            refine ⟨wipe_pin p3, ?_⟩
            cases ht1 : ft ρ2 with
            | none => rw [ht1] at eg2; cases eg2
            | some b =>
              obtain ⟨b, ρ4⟩ := b
              rw [ht1] at eg2
              have eg3 : (if b = true then (fe ρ4).bind fun q => (goLc vs fg ft fe (ds.drop (i + 1)) (wipeD q.2 vs)).bind fun r => some (q.1 :: r.1, r.2) else goLc vs fg ft fe (ds.drop (i + 1)) (wipeD ρ4 vs)) = some (rest, ρ') := eg2
              refine ht ρ2 b ρ4 ht1 σ3 G3 H3 F3 r3 _ fun G4 H4 F4 t4 r4 => ?_
              have own3 : ∀ a ∈ Dl :: L, G3 a = none ∧ ∃ o, H3 a = some o ∧ LD o := fun a ha => by
                rcases List.mem_cons.mp ha with y | y
                · subst y; exact ⟨hGD3, _, hD3, .l _⟩
                · exact hR3.owned a y
              have ap4 := t4.apart own3 ap3
              have hR4 := hR3.tr t4 (fun a ha => ap3 a (List.mem_cons_of_mem _ ha))
              have hD4 := t4.keep Dl _ hD3 (ap3 Dl List.mem_cons_self)
              have hGD4 : G4 Dl = none := (t4.keepG Dl _ hD3 (ap3 Dl List.mem_cons_self)).trans hGD3
              have t34 : Tr G2 H2 (own Fi) G4 H4 (own F4) := (t3.wk (fun a h => h.elim id fun z => nomatch z) fun a h => .inl h).trans t4
              -- behind the turn so far
              have tlong : Tr G1 H1 (own F1) G4 H4 (fun a => own F4 a ∨ a ∈ Dl :: L) := ti2.trans (t34.wk (fun a h => .inl h) fun a h => by
                rcases h with h | h
                · exact .inl h
                · exact .inr (.inl (.inr h)))
              cases b with
              | false =>
                rw [if_neg Bool.false_ne_true] at eg3
                rw [if_neg Bool.false_ne_true]
                obtain ⟨F5, r5, s5⟩ := r4.wipe vs
                rw [wipe_pin p3] at r5
                refine ⟨_, by omega, rfl, hlt, accV, accD, rest, L, _, G4, F5, eg3, ex, hD4, hGD4, nDL, fun z => ap4 Dl List.mem_cons_self (s5 _ z), hR4, fun a ha z => ap4 a (List.mem_cons_of_mem _ ha) (s5 a z), r5, tlong.post fun a h => h.imp (s5 a) id⟩
              | true =>
                rw [if_pos rfl] at eg3
                rw [if_pos rfl]
                cases he1 : fe ρ4 with
                | none => rw [he1] at eg3; cases eg3
                | some qd =>
                  obtain ⟨y, ρ5⟩ := qd
                  rw [he1] at eg3
                  have eg4 : (goLc vs fg ft fe (ds.drop (i + 1)) (wipeD ρ5 vs)).bind (fun r => some (y :: r.1, r.2)) = some (rest, ρ') := eg3
                  cases hgo2 : goLc vs fg ft fe (ds.drop (i + 1)) (wipeD ρ5 vs) with
                  | none => rw [hgo2] at eg4; cases eg4
                  | some rr =>
                    obtain ⟨rest2, ρr⟩ := rr
                    rw [hgo2] at eg4; cases eg4
                    refine he ρ4 y ρ5 he1 σ3 G4 H4 F4 r4 _ fun v G5 H5 F5 M t5 r5 rv5 n5 => ?_
                    have own4 : ∀ a ∈ Dl :: L, G4 a = none ∧ ∃ o, H4 a = some o ∧ LD o := fun a ha => by
                      rcases List.mem_cons.mp ha with y | y
                      · subst y; exact ⟨hGD4, _, hD4, .l _⟩
                      · exact hR4.owned a y
                    have ap5 := t5.apart own4 ap4
                    have hR5 := hR4.tr t5 (fun a ha => ap4 a (List.mem_cons_of_mem _ ha))
                    have hD5 := t5.keep Dl _ hD4 (ap4 Dl List.mem_cons_self)
                    have hGD5 : G5 Dl = none := (t5.keepG Dl _ hD4 (ap4 Dl List.mem_cons_self)).trans hGD4
                    obtain ⟨F6, r6, s6⟩ := r5.wipe vs
                    rw [wipe_pin p3] at r6
                    have nDM : Dl ∉ M := fun z => ap5 Dl List.mem_cons_self (.inr z)
                    have nLM : ∀ a ∈ L, a ∉ M := fun a ha z => ap5 a (List.mem_cons_of_mem _ ha) (.inr z)
                    have sn := hR5.snoc rv5 nLM
                    have kp : ∀ {L0 : List Addr}, Dl ∉ L0 → Keep G5 H5 G5 (upd H5 Dl (.lst (accV ++ [v]))) L0 := fun {L0} hn0 => ⟨Same.refl _, fun _ _ h => h, fun b hb => upd_ne fun z => hn0 (z ▸ hb)⟩
                    have nDLM : Dl ∉ L ++ M := fun z => (List.mem_append.mp z).elim nDL nDM
                    have tw : Tr G5 H5 (fun b => b = Dl) G5 (upd H5 Dl (.lst (accV ++ [v]))) (fun b => b = Dl) := Tr.write r5.sub hGD5 rfl ⟨_, hD5⟩
                    have nD6 : ∀ a, own F6 a → a ≠ Dl := fun a h z => ap5 Dl List.mem_cons_self (.inl (s6 _ (z ▸ h)))
                    have hlen : accV.length = accD.length := hR.length
                    refine ⟨accV, hD5, ?_, _, by omega, rfl, hlt, accV ++ [v], accD ++ [y], rest2, L ++ M, _, G5, F6, hgo2, by rw [List.append_assoc]; exact ex, upd_same, hGD5, nDLM, fun z => nD6 _ z rfl, sn.keep (kp nDLM), fun a ha z => ?_, r6.tr tw nD6, ?_⟩
                    · have : accD.length ≤ smallL := by
                        have h1 : accD.length ≤ xs.length := by rw [← ex, List.length_append]; omega
                        omega
                      rw [hlen]
                      exact Nat.lt_of_le_of_lt this (by decide)
                    · rcases List.mem_append.mp ha with w | w
                      · exact ap5 a (List.mem_cons_of_mem _ w) (.inl (s6 a z))
                      · exact n5 a w (s6 a z)
                    · refine (tlong.trans (t5.wk (A2 := fun a => own F5 a ∨ a ∈ Dl :: (L ++ M)) (B := fun a => own F4 a ∨ a ∈ Dl :: L) (fun a h => .inl h) fun a h => ?_)).trans (tw.wk (fun b z => .inr (z ▸ List.mem_cons_self)) fun a h => ?_)
                      · rcases h with h | h
                        · exact .inl (.inl h)
                        · rcases List.mem_cons.mp h with z | z
                          · exact .inr (.inl (.inr (z ▸ List.mem_cons_self)))
                          · rcases List.mem_append.mp z with y | y
                            · exact .inr (.inl (.inr (List.mem_cons_of_mem _ y)))
                            · exact .inl (.inr y)
                      · rcases h with h | h
                        · exact .inr (.inl (.inl (s6 a h)))
                        · exact .inr (.inl (.inr h))
        · have ei : i = ds.length := by omega
          subst ei
          rw [List.drop_length] at eg
          cases eg
          rw [List.append_nil] at ex
          subst ex
          have ru := ri.unwipe hwe
          refine .inl ⟨jo.stops H' sH, q (.ref Dl) Gi H' Fi (Dl :: L) (t1.trans ti) ru (.lstO hGD hD nDL hR) fun a ha => ?_⟩
          rcases List.mem_cons.mp ha with z | z
          · subst z; exact nDF
          · exact nLF a z
      · rw [if_neg hz] at e2; cases e2
end
end VS
set_option Elab.async false
set_option linter.all false
set_option maxRecDepth 100000
namespace VS
open PySem PySem.Spec PyProof.Rows L2
/-- name op= e: what stands in the slot bears nothing owned -/
def augF (i : Nat) (g : List D → Option D) (o : Op) : FS := fun ρ => (getS ρ i).bind fun d0 => if noOwn d0 = true then (evOps [o] ρ).bind fun p => (fetch [o] p.1 p.2).bind fun ds => (g (d0 :: ds)).bind fun d => some (.nx (p.2.set i (some d))) else none
section
variable {K : PySem.W.Frag} {pn : Nat → Bool} {W : WX}
theorem simS_aug {i : Nat} {te : TE} {ti : TIp} {o : Op} {g : List D → Option D} (hp : pn i = false) (ho : SimO K te o) (hv : VOk K (fun vs H Q => match vs with | [x, y] => ti x y H Q | _ => False) g) : SimS K pn W (tAug i te ti) (augF i g o) := by
  intro ρ out e σ G H F r E q
  unfold augF at e
  cases h0 : getS ρ i with
  | none => rw [h0] at e; cases e
  | some d0 =>
    rw [h0] at e
    have e0 : (if noOwn d0 = true then (evOps [o] ρ).bind fun p => (fetch [o] p.1 p.2).bind fun ds => (g (d0 :: ds)).bind fun d => some (Out.nx (p.2.set i (some d))) else none) = some out := e
    by_cases hn : noOwn d0 = true
    · rw [if_pos hn] at e0
      obtain ⟨v, hv0, hr⟩ := r.at_ i d0 h0
      have hL := hr.noL hn
      rw [hL] at hr
      cases he : evOps [o] ρ with
      | none => rw [he] at e0; cases e0
      | some p =>
        obtain ⟨ts, ρ1⟩ := p
        rw [he] at e0
        have e1 : (fetch [o] ts ρ1).bind (fun ds => (g (d0 :: ds)).bind fun d => some (Out.nx (ρ1.set i (some d)))) = some out := e0
        cases hf : fetch [o] ts ρ1 with
        | none => rw [hf] at e1; cases e1
        | some ds =>
          rw [hf] at e1
          have e2 : (g (d0 :: ds)).bind (fun d => some (Out.nx (ρ1.set i (some d)))) = some out := e1
          cases hg : g (d0 :: ds) with
          | none => rw [hg] at e2; cases e2
          | some d =>
            rw [hg] at e2; cases e2
            refine ⟨v, hv0, ?_⟩
            have key := simA_cons (ta := tNil) (ops := []) ho simA_nil ρ ts ρ1 he σ G H F r (fun vs H1 => ∀ x, vs = [x] → ti v x H1 fun z H2 => E.nx (σ.set i (some z)) H2) fun vs G1 H1 F1 M t1 r1 ok n1 x ev => ?_
            · have k2 : te σ H fun x H1 => ∀ y, [x] = [y] → ti v y H1 fun z H2 => E.nx (σ.set i (some z)) H2 := key
              have m : (fun (x : V) H1 => ∀ y, [x] = [y] → ti v y H1 fun z H2 => E.nx (σ.set i (some z)) H2) = (fun x H1 => ti v x H1 fun z H2 => E.nx (σ.set i (some z)) H2) := by
                funext x H1
                exact propext ⟨fun h => h x rfl, fun h y e => by cases e; exact h⟩
              rw [m] at k2
              exact k2
            · subst ev
              have rl := ok.get r1 hf
              refine hv G1 H1 [v, x] (d0 :: ds) d r1.sub (.cons (hr.far t1.g) rl) hg _ fun z G2 H2 L t2 rz => ?_
              have r2 := r1.tr t2 (fun _ _ z => z)
              have nL : ∀ a ∈ L, ¬ own F1 a := fun a ha ⟨j, hj⟩ => by
                rcases t2.new a ha with y | y
                · exact y
                · obtain ⟨_, vs, ee, ld⟩ := r1.owned j a hj
                  rw [y] at ee; cases ee
              obtain ⟨F3, r3, s3⟩ := r2.put' i rz nL
              refine q _ G2 H2 F3 ((t1.post fun a h => .inl h).trans (t2.wk (fun _ z => z.elim) fun a h => ?_)) r3 (Pin.set hp)
              rcases s3 a h with y | y
              · exact .inr (.inl y)
              · exact .inl y
    · rw [if_neg hn] at e0; cases e0
theorem Reps.setAt : ∀ {G H : Hp} {vs : List V} {ds : List D} {L M : List Addr} {v : V} {d : D} (j : Nat), Reps K G H vs ds L → Rep K G H v d M → (∀ a ∈ L, a ∉ M) → ∃ N, Reps K G H (vs.set j v) (ds.set j d) N ∧ ∀ a ∈ N, a ∈ L ∨ a ∈ M
  | _, _, _, _, _, M, v, d, j, .nil, h, n => ⟨[], .nil, fun a z => (nomatch z)⟩
  | _, _, _, _, _, M, v, d, 0, .cons (L := L1) (M := L2) hv hr hn, h, n =>
    ⟨M ++ L2, .cons h hr fun a ha hm => n a (List.mem_append_right _ hm) ha, fun a ha => (List.mem_append.mp ha).elim .inr fun z => .inl (List.mem_append_right _ z)⟩
  | _, _, _, _, _, M, v, d, j + 1, .cons (L := L1) (M := L2) hv hr hn, h, n => by
    obtain ⟨N, q, s⟩ := hr.setAt j h fun a ha => n a (List.mem_append_right _ ha)
    refine ⟨L1 ++ N, .cons hv q fun a ha hm => ?_, fun a ha => ?_⟩
    · rcases s a hm with z | z
      · exact hn a ha z
      · exact n a (List.mem_append_left _ ha) z
    · rcases List.mem_append.mp ha with z | z
      · exact .inl (List.mem_append_left _ z)
      · exact (s a z).imp (List.mem_append_right _) id
/-- x[i] = v -/
theorem simG_sub {k : Nat} {ti : TE} {oi : Op} (hi : SimO K ti oi) : SimG K pn (gSub (tVar k) ti rSetL) (tgSub k oi) := by
  intro d ρ ρ' e v σ G H F L r hv nn Q q
  unfold tgSub at e
  cases h0 : getS ρ k with
  | none => rw [h0] at e; cases e
  | some d0 =>
    rw [h0] at e
    obtain ⟨w, hw, hr0⟩ := r.at_ k d0 h0
    have e0 : (evOps [oi] ρ).bind (fun p => (fetch [oi] p.1 p.2).bind fun ds => subPut p.2 k d ds (getS p.2 k)) = some ρ' := e
    cases he : evOps [oi] ρ with
    | none => rw [he] at e0; cases e0
    | some p =>
      obtain ⟨ts, ρ1⟩ := p
      rw [he] at e0
      have e1 : (fetch [oi] ts ρ1).bind (fun ds => subPut ρ1 k d ds (getS ρ1 k)) = some ρ' := e0
      cases hf : fetch [oi] ts ρ1 with
      | none => rw [hf] at e1; cases e1
      | some ds =>
        rw [hf] at e1
        have e2 : subPut ρ1 k d ds (getS ρ1 k) = some ρ' := e1
        have key := simA_cons (ta := tNil) (ops := []) hi simA_nil ρ ts ρ1 he σ G H F r (fun vs H1 => ∀ x, vs = [x] → rSetL w x v H1 fun H2 => Q σ H2) fun vs G1 H1 F1 M t1 r1 ok n1 x ev => ?_
        · have k2 : ti σ H fun x H1 => ∀ y, [x] = [y] → rSetL w y v H1 fun H2 => Q σ H2 := key
          have m : (fun (x : V) H1 => ∀ y, [x] = [y] → rSetL w y v H1 fun H2 => Q σ H2) = (fun x H1 => rSetL w x v H1 fun H2 => Q σ H2) := by
            funext x H1
            exact propext ⟨fun h => h x rfl, fun h y e => by cases e; exact h⟩
          rw [m] at k2
          exact ⟨w, hw, k2⟩
        · subst ev
          have rl := ok.get r1 hf
          cases rl with
          | cons rx rr =>
            cases rr
            rename_i dx Lx
            cases dx with
            | int i =>
              cases rx
              cases h1 : getS ρ1 k with
              | none => rw [h1] at e2; cases e2
              | some d1 =>
                rw [h1] at e2
                cases d1 with
                | lst o xs =>
                  cases o with
                  | false => cases e2
                  | true =>
                    have e3 : (ixN xs.length i).bind (fun j => some (ρ1.set k (some (.lst true (xs.set j d))))) = some ρ' := e2
                    cases hj : ixN xs.length i with
                    | none => rw [hj] at e3; cases e3
                    | some j =>
                      rw [hj] at e3; cases e3
                      obtain ⟨w', hw', hrep⟩ := r1.at_ k _ h1
                      rw [hw] at hw'; cases hw'
                      generalize hFk : F1 k = Fk at hrep
                      cases hrep with
                      | lstO hG hH hn hr =>
                        rename_i a vs La
                        have hsub : ∀ b ∈ a :: La, own F1 b := fun b hb => ⟨k, by rw [hFk]; exact hb⟩
                        have apv : ∀ b ∈ L, ¬ (own F1 b ∨ b ∈ M) := t1.apart hv.owned nn
                        have hv1 := hv.tr t1 nn
                        obtain ⟨N, hN, sN⟩ := hr.setAt j hv1 fun b hb hbL => apv b hbL (.inl (hsub b (List.mem_cons_of_mem _ hb)))
                        have naN : a ∉ N := fun z => (sN a z).elim hn fun y => apv a y (.inl (hsub a List.mem_cons_self))
                        refine ⟨a, vs, i, j, rfl, rfl, hH, by rw [hr.length]; exact hj, ?_⟩
                        have tw : Tr G1 H1 (fun b => b = a) G1 (upd H1 a (.lst (vs.set j v))) (fun b => b = a) := Tr.write r1.sub hG rfl ⟨_, hH⟩
                        have rd := (r1.drop k).tr tw fun b ⟨jj, hjj⟩ z => by
                          subst z
                          by_cases hji : jj = k
                          · subst hji; rw [fset_same] at hjj; cases hjj
                          · rw [fset_ne hji] at hjj; exact r1.dis jj k hji _ hjj (by rw [hFk]; exact List.mem_cons_self)
                        have hnew : Rep K G1 (upd H1 a (.lst (vs.set j v))) (.ref a) (.lst true (xs.set j d)) (a :: N) := .lstO hG upd_same naN (hN.keep ⟨Same.refl _, fun _ _ h => h, fun b hb => upd_ne fun z => naN (z ▸ hb)⟩)
                        have rp := rd.re (i := k) (by rw [List.length_set]; exact r1.lt h1) hw hnew (fun b hb jj hjk hbj => by
                          rw [fset_ne hjk] at hbj
                          rcases List.mem_cons.mp hb with z | z
                          · subst z; exact r1.dis jj k hjk _ hbj (by rw [hFk]; exact List.mem_cons_self)
                          · rcases sN b z with y | y
                            · exact r1.dis jj k hjk _ hbj (by rw [hFk]; exact List.mem_cons_of_mem _ y)
                            · exact apv b y (.inl ⟨jj, hbj⟩))
                        rw [List.set_set] at rp
                        have t1' : Tr G H (fun a => own F a ∨ a ∈ L) G1 H1 (fun a => own F1 a ∨ a ∈ L) := t1.wk (fun a h => .inl h) fun a h => by
                          rcases h with h | h
                          · exact .inl (.inl h)
                          · exact .inr (.inl (.inr h))
                        refine q σ G1 _ _ (t1'.trans (tw.wk (fun b z => .inl (z ▸ hsub a List.mem_cons_self)) fun b hb => .inr (.inl ?_))) rp Pin.refl
                        obtain ⟨jj, hjj⟩ := hb
                        by_cases hji : jj = k
                        · subst hji
                          rw [fset_same] at hjj
                          rcases List.mem_cons.mp hjj with z | z
                          · exact .inl (z ▸ hsub a List.mem_cons_self)
                          · rcases sN b z with y | y
                            · exact .inl (hsub b (List.mem_cons_of_mem _ y))
                            · exact .inr y
                        · rw [fset_ne hji, fset_ne hji] at hjj; exact .inl ⟨jj, hjj⟩
                | _ => cases e2
            | _ => cases e2
end
section
variable {X : Cx} {pn : Nat → Bool} {W : WX} {e a b : Expr} {es : List Expr} {pos : Pos}
theorem psf_aug {i : Nat} {x : Str} {op : Operator} {ti : TIp} {pos' : Pos} {o : Op} {g : List D → Option D} (hN : X.N.Nodup) (hi : X.N[i]? = some x) (hx : Loc X.env.scope x) (hp : pn i = false) (he : POf X e o) (ho : PIp X op ti) (hv : VOk X.K (fun vs H Q => match vs with | [x, y] => ti x y H Q | _ => False) g)
    (hf : X.fn x = true ∨ X.env.scope.names.lookup x = some .local := by first | exact .inl rfl | exact .inr rfl | assumption) : PSf X pn W (.AugAssign (.Name x pos') op e pos) (augF i g o) := by
  obtain ⟨te, p1, s1⟩ := he.ex
  exact .mk (ps_aug hN hi hx p1 ho hf) (simS_aug hp s1 hv)
theorem pgf_sub {k : Nat} {o i : Expr} {oi : Op} (ho : PE X o (tVar k)) (hi : POf X i oi) (ha : ∀ v, assign (.Subscript o i pos) X.env v = (do
      let ov ← holding [v] (eval o X.env)
      let iv ← holding [v, ov] (eval i X.env)
      standAt pos
      holding [v, ov, iv] (setItem ov iv v)
      release [v, ov, iv] []) := by intro _; rfl) : PGf X pn (.Subscript o i pos) (tgSub k oi) := by
  obtain ⟨te, p1, s1⟩ := hi.ex
  exact .mk (pg_sub ho p1 set_list ha) (simG_sub s1)
theorem pf_tup {x1} {ops : List Op} (h : PAf X es ops) : PEf X (.Tuple es x1 pos) (tupF ops) := .mk (pe_tup h) (simE_tup (simA_of ops))
theorem pf_lst {ops : List Op} (h : PAf X es ops) : PEf X (.List es pos) (lstF ops) := .mk (pe_lst h) (simE_lst (simA_of ops))
theorem pf_lc {elt tg iter : Expr} {ifs : List Expr} {scope : Scope} {own : List (Str × Nat)} {fi : FI} {fg : D → Env → Option Env} {ft : FB} {fe : FE} (hc : X.calm = true) (hN : X.N.Nodup) (hi : PIf X tg iter fi) (ok : BlkOk X.N X.env.scope scope own)
    (hg : ∀ (s : Shared) (H : Hp) (C : Addr) (cl : List (Str × Addr)) (fp : List Addr), PGf (X.blk s H scope (compEnvC scope cl C X.env) fp) (fun j => !(own.map (·.2)).contains j) tg fg)
    (ht : ∀ (s : Shared) (H : Hp) (C : Addr) (cl : List (Str × Addr)) (fp : List Addr), PTs (X.blk s H scope (compEnvC scope cl C X.env) fp) ifs (ttOf X.K ft))
    (he : ∀ (s : Shared) (H : Hp) (C : Addr) (cl : List (Str × Addr)) (fp : List Addr), PEf (X.blk s H scope (compEnvC scope cl C X.env) fp) elt fe) (hs : ∀ x, foldedSetIterable iter X.env x = pure x := by intro _; rfl) :
    PEf X (.ListComp elt [⟨tg, iter, ifs, 0⟩] scope pos) (lcF (own.map (·.2)) fi fg ft fe) :=
  .mk (pe_lc hc hN hi ok hg ht he hs) (simE_lc (simI_of fi) (simG_of fg) (simT_of' ft) (simE_of fe))
theorem psf_setLc {i : Nat} {y : Str} {py : Pos} {elt tg iter : Expr} {ifs : List Expr} {scope : Scope} {own : List (Str × Nat)} {spos : Pos} {fi : FI} {fg : D → Env → Option Env} {ft : FB} {fe : FE} (hp : pn i = false) (hc : X.calm = true) (hN : X.N.Nodup) (hy : X.N[i]? = some y) (hyl : X.env.scope.names.lookup y = some .local)
    (hsw : swapsWith (.ListComp elt [⟨tg, iter, ifs, 0⟩] scope pos) (some (.Name y py)) spos.line X.env = pure true) (hi : PIf X tg iter fi) (ok : BlkOk X.N X.env.scope scope own)
    (hg : ∀ (s : Shared) (H : Hp) (C : Addr) (cl : List (Str × Addr)) (fp : List Addr), PGf (X.blk s H scope (compEnvC scope cl C X.env) fp) (fun j => !(own.map (·.2)).contains j) tg fg)
    (ht : ∀ (s : Shared) (H : Hp) (C : Addr) (cl : List (Str × Addr)) (fp : List Addr), PTs (X.blk s H scope (compEnvC scope cl C X.env) fp) ifs (ttOf X.K ft))
    (he : ∀ (s : Shared) (H : Hp) (C : Addr) (cl : List (Str × Addr)) (fp : List Addr), PEf (X.blk s H scope (compEnvC scope cl C X.env) fp) elt fe) (hs : ∀ x, foldedSetIterable iter X.env x = pure x := by intro _; rfl) :
    PSf X pn W (.Assign [.Name y py] (.ListComp elt [⟨tg, iter, ifs, 0⟩] scope pos) spos) (asgF (lcF (own.map (·.2)) fi fg ft fe) (tgN i)) :=
  .mk (ps_setLc hc hN hy hyl hsw hi ok hg ht he hs) (simS_asg (simE_lc (simI_of fi) (simG_of fg) (simT_of' ft) (simE_of fe)) (simG_name hp))
theorem ptsf_nil : PTs X [] (ttOf X.K yesF) := ⟨fun pins s σ H Q I ⟨ρ, b, ρ', G, F, ee, r, q⟩ => by
  cases ee
  exact pts_nil.run pins s σ H Q I (q G H F (Tr.refl r.sub) r)⟩
theorem ptsf_one {c : Expr} {f : FB} (h : PTf X c f) : PTs X [c] (ttOf X.K f) := pts_one h
end
end VS
set_option Elab.async false
set_option linter.all false
set_option maxRecDepth 100000
namespace PySem
open Sem (wp)
open AutoSeq1 (wpAny_loadPart')
/-- enumerate(v), v one that begins -/
theorem vs_enum_new {v : Value} {o : Obj} {H : Heap → Prop} (B : Begins v o H) :
    Meets (Builtin.«enumerate.__new__» ⟨[.type "enumerate", v], []⟩) (fun _ R s => H s.heap ∧
      R (.ok (.ret (.ref (s.heap.push o).objs.size))) { s with heap := (s.heap.push o).push { cls := .type "enumerate", data := .fields #[.none, .bool false, .ref s.heap.objs.size, rawInt 0, .none, .none] } }) :=
  .of_wp fun prog w A R s h => by
    obtain ⟨hp, g, d, tk, os⟩ := s; obtain ⟨h1, h⟩ := h
    have hsub := sub_enumerate
    have q1 : ∀ {A' : Around} {E : Value → Shared → Prop} {Q : Value → Shared → Prop}, Q (.ref hp.objs.size) ⟨hp.push o, g, d, tk, os⟩ → wpAny (model prog w) A' (pyIter v) Q E ⟨hp, g, d, tk, os⟩ :=
      fun q => B.iter prog w _ _ ⟨hp, g, d, tk, os⟩ _ h1 q
    wp_walk using q1
    refine wpAny_stack_any fun st => wpAny_pure ?_
    split
    · rename_i c _ _ _ _ _
      cases (c == Value.type "enumerate")
      · wp_walk using q1
        exact ⟨_, rfl, h⟩
      · wp_walk using q1
        exact ⟨_, rfl, h⟩
    · wp_walk using q1
      exact ⟨_, rfl, h⟩
section
variable {prog : Program} {w : World} {A : Around} {E : Value → Shared → Prop} {s : Shared}
theorem vs_enum_begins {v : Value} {o : Obj} {H : Heap → Prop} {Q : Value → Shared → Prop} (B : Begins v o H) (h1 : H s.heap)
    (h : ∀ h', IsEnum h' (s.heap.objs.size + 1) s.heap.objs.size 0 .none → h'.get? s.heap.objs.size = some o → h'.objs.size = s.heap.objs.size + 2 →
      (∀ b o, s.heap.get? b = some o → h'.get? b = some o) → Q (.ref (s.heap.objs.size + 1)) { s with heap := h' }) :
    wpAny (model prog w) A (call (.type "enumerate") [v]) Q E s := by
  refine callType_new F.called_enumerate (by decide) (F.typeCall_enumerate_1 _) (F.newCall_enumerate_1 _) (fun obj => F.args_object_init_2 obj _) F.entry_enumerate_new
    (vs_enum_new B) ⟨h1, ?_⟩
  have hz : (s.heap.push o).objs.size = s.heap.objs.size + 1 := Heap.size_push ..
  show _ ∧ _
  rw [hz]
  have he : IsEnum ((s.heap.push o).push { cls := .type "enumerate", data := .fields #[.none, .bool false, .ref s.heap.objs.size, rawInt 0, .none, .none] }) (s.heap.objs.size + 1) s.heap.objs.size 0 .none := by
    have := Heap.get?_push_size (s.heap.push o) (o := { cls := .type "enumerate", data := .fields #[.none, .bool false, .ref s.heap.objs.size, rawInt 0, .none, .none] }) rfl
    rw [hz] at this; exact this
  refine ⟨⟨_, he, rfl⟩, h _ he (Heap.get?_push_of_some _ (Heap.get?_push_size _ B.free)) (by rw [Heap.size_push, hz]) fun b o x => Heap.get?_push_of_some _ (Heap.get?_push_of_some _ x)⟩
end
end PySem
namespace VS
open PySem PySem.Spec PyProof.Rows L2
/-- the tuple at a, each item in a new pair -/
def IteT (K : PySem.W.Frag) (a : Addr) : It :=
  ⟨fun i H => ∃ (xs : List V) (x : V), SqT K H a xs ∧ xs[i]? = some x, fun i H v H' => ∃ T x, v = .ref T ∧ H T = none ∧ H' = upd H T (.tup [.int (i : Nat), x]) ∧ ∀ xs, SqT K H a xs → xs[i]? = some x, fun i H => ∃ xs : List V, SqT K H a xs ∧ xs.length ≤ i⟩
theorem turn_enumT {P : Program} {w : World} {K : PySem.W.Frag} {elts : List Expr} {kk : Nat} {tpos : Pos} (a e it : Addr) :
    Turn P w K (.Tuple elts kk tpos) (IteT K a) [e, it] e (fun i h => (∃ old, IsEnum h e it ((i : Nat) : Int) old) ∧ h.IsTupleIter it a i ∧ e ≠ it ∧ a ≠ it ∧ a ≠ e) where
  mem := by simp
  obj := fun i h st b hb => by
    obtain ⟨⟨old, he⟩, ⟨o, ho, hc, hd⟩, _⟩ := st
    have e' : b = e ∨ b = it := by simpa using hb
    rcases e' with z | z
    · rw [z]; exact ⟨_, he, fun v q => nomatch q⟩
    · rw [z]; exact ⟨o, ho, fun v q => by rw [hd] at q; cases q⟩
  keep := fun i h h' st k => let ⟨⟨old, he⟩, hi, hne⟩ := st; ⟨⟨old, k e (by simp) _ he⟩, hi.at fun o q => k it (by simp) o q, hne⟩
  item := by
    intro X hP hw hK hc i pins s σ H E I hf st hg
    subst hP hw hK
    obtain ⟨⟨old, he⟩, hit, hne, hai, hae⟩ := st
    obtain ⟨xs, x, hq, hx⟩ := hg
    obtain ⟨its, rv, p, hz⟩ := I.tuple hq
    obtain ⟨u, hu, ru⟩ := rv.get hx
    have hel : e < s.heap.objs.size := Heap.lt_size he
    have hil : it < s.heap.objs.size := by obtain ⟨_, q, _⟩ := hit; exact Heap.lt_size q
    have hh : X.A.in1.handled = none := I.ok.hd hc
    have hlt : i < its.toArray.size := by
      have := (List.getElem?_eq_some_iff.mp hu).1
      simpa using this
    refine wpAny_pyNext_enum_itemD (Draws.tuple hh it a hai its.toArray) he ⟨hit, p⟩ hlt hne (by simp only [List.mem_cons, List.not_mem_nil, or_false, not_or]; exact ⟨hne, fun z => hae z.symm⟩) fun x' h' tk hx' ho hst' hT hsz hk => ?_
    have ex : x' = u := by
      have : its.toArray[i]? = some u := by simpa using hu
      rw [this] at hx'; cases hx'; rfl
    subst ex
    refine ⟨_, rfl, wpAny_letOwnedTupleGo_enum (s := { s with heap := h', toks := tk + 1 }) ho fun h'' he' sb => ?_⟩
    have hT2 : h''.get? s.heap.objs.size = some { cls := .type "tuple", data := .seq #[.int i tk, x'] } := (sb.2 _ (Nat.ne_of_gt hel)).trans hT
    have new : ObjOk X.prog X.w (upd H s.heap.objs.size (.tup [.int (i : Nat), x])) h'' s.heap.objs.size (.tup [.int (i : Nat), x]) :=
      ⟨by show 2 ≤ sizeLine; decide, [.int i tk, x'], .cons ⟨_, rfl⟩ (.cons ru .nil), ⟨_, hT2, rfl, _, rfl⟩⟩
    have I1 : Inv X pins σ (upd H s.heap.objs.size (.tup [.int (i : Nat), x])) { s with heap := h'', toks := tk + 1 } :=
      I.turnedNew (ch := [e, it]) (fun b ob hb q => (sb.2 b (fun z => hb (by simp [z]))).trans (hk b ob (fun z => hb (by simp [z])) (fun z => hb (by simp [z])) q)) hf (Nat.le_refl _) new
    refine ⟨.ref s.heap.objs.size, _, I1, rfl, ⟨_, x, rfl, I.hok.fresh (Nat.le_refl _), rfl, fun ys hy => by rw [I.tuple_inj hy hq]; exact hx⟩, ⟨⟨x', ?_⟩, hst'.1.at fun o q => (sb.2 it (Ne.symm hne)).trans q, hne, hai, hae⟩, fun b hb => ?_⟩
    · have e1 : ((i + 1 : Nat) : Int) = (i : Int) + 1 := by omega
      rw [e1]; exact he'
    · have hb' : b < s.heap.objs.size := by
        have e' : b = e ∨ b = it := by simpa using hb
        rcases e' with z | z
        · rw [z]; exact hel
        · rw [z]; exact hil
      rw [upd_ne (Nat.ne_of_lt hb')]
      exact (hf b hb).1
  done := by
    intro X hP hw hK hc i pins s σ H E I hf st hg
    subst hP hw hK
    obtain ⟨⟨old, he⟩, hit, hne, hai, hae⟩ := st
    obtain ⟨xs, hq, hx⟩ := hg
    obtain ⟨its, rv, p, hz⟩ := I.tuple hq
    obtain ⟨f0, f1, f2, f3, f4, f5⟩ := hf it (by simp)
    have hl := rv.length
    have hh : X.A.in1.handled = none := I.ok.hd hc
    have hT : s.TypeIs (.ref e) "enumerate" := ⟨_, he, rfl⟩
    unfold pyNext
    refine wpAny_bind (wpAny_attempt (wpAny_callSpecial?_slot (name := Str.ofString "__next__") hT F.slot_enumerate_next
      (wpAny_call_entry F.slot_enumerate_next hT F.entry_enumerate_next ?_ (F.args_enumerate_next_1 _))))
    show wpAny _ _ (field (.ref e) 2 >>= _) _ _ _
    refine wpAny_bind (wpAny_field he rfl (x := .ref it) rfl ?_)
    refine wpAny_bind (wpAny_nextOf_tuple_end (i := i) hh hit p (by simp; omega) fun h' x he' hx' => ?_)
    obtain ⟨o, ho, hc'⟩ := hx'
    refine wpAny_bind (wpAny_isInstance (T := "StopIteration") (b := true) ⟨o, ho, hc'⟩ isSubtype_stop ?_)
    exact wpAny_pure ⟨rfl, I.turned (t' := s.toks) (fun b o hb q => he' b o hb q) f0 f1 f3 f4 f5⟩
  self := fun A i s Q E st h => let ⟨⟨_, he⟩, _⟩ := st; wpAny_pyIter_enum he h
theorem walk_enumT {K : PySem.W.Frag} {a : Addr} {xs : List V} : Walk (IteT K a) xs.length (fun H => SqT K H a xs) (YPair (fun i => some (.int (i : Nat))) (fun i => xs[i]?)) := by
  refine ⟨fun i _ hi q => ⟨xs, xs[i], q, by simp [hi]⟩, fun _ q => ⟨xs, q, Nat.le_refl _⟩, fun i H v H' _ q y => ?_⟩
  obtain ⟨T, x, h1, h2, h3, h4⟩ := y
  exact ⟨T, .int (i : Nat), x, h1, h2, h3, rfl, h4 xs q⟩
def iEnumA (K : PySem.W.Frag) (te : TE) : TI := fun σ H R => te σ H fun v H1 => ∃ a xs, v = .ref a ∧ ((SqL K H1 a xs ∧ R (Ite K a) H1) ∨ (SqT K H1 a xs ∧ R (IteT K a) H1))
theorem pi_enumA {X : Cx} {e : Expr} {te : TE} {p pos tpos : Pos} {elts : List Expr} {kk : Nat} (hg : Gl X "enumerate") (hm : X.mg "enumerate" = none) (he : PE X e te) (hs : starEach [e] X.env = [(false, eval e X.env)] := by rfl) :
    PI X (.Tuple elts kk tpos) (.Call (.Name "enumerate" p) [e] [] pos) (iEnumA X.K te) := by
  refine ⟨fun pins s σ H R I h => ?_⟩
  have ha : PA X [e] (tCons te tNil) := pa_cons he pa_nil hs
  have h' : (tCons te tNil) σ H fun vs H1 => ∃ v, vs = [v] ∧ ∃ a xs, v = .ref a ∧ ((SqL X.K H1 a xs ∧ R (Ite X.K a) H1) ∨ (SqT X.K H1 a xs ∧ R (IteT X.K a) H1)) := by
    show te σ H fun x H1 => ∃ v, [x] = [v] ∧ ∃ a xs, v = .ref a ∧ ((SqL X.K H1 a xs ∧ R (Ite X.K a) H1) ∨ (SqT X.K H1 a xs ∧ R (IteT X.K a) H1))
    have m : (fun (x : V) H1 => ∃ v, [x] = [v] ∧ ∃ a xs, v = .ref a ∧ ((SqL X.K H1 a xs ∧ R (Ite X.K a) H1) ∨ (SqT X.K H1 a xs ∧ R (IteT X.K a) H1))) = (fun v H1 => ∃ a xs, v = .ref a ∧ ((SqL X.K H1 a xs ∧ R (Ite X.K a) H1) ∨ (SqT X.K H1 a xs ∧ R (IteT X.K a) H1))) := by
      funext x H1
      exact propext ⟨fun ⟨v, e, q⟩ => by cases e; exact q, fun q => ⟨x, rfl, q⟩⟩
    rw [m]
    exact h
  refine Call_ (ld_blt I hg hm boot_enumerate (PyProof.Rows.callWith_type1 (thn (ha.run pos pins s σ H _ I h') fun us s1 ⟨vs, H1, I1, r1, q1⟩ => ?_) hs rfl))
  obtain ⟨v, ex, a, xs, ev, q1⟩ := q1
  subst ex; subst ev
  cases r1 with
  | cons r rr =>
    cases rr
    cases r
    rcases q1 with ⟨hq, q⟩ | ⟨hq, q⟩
    · obtain ⟨its, rv, p', hz⟩ := I1.list hq
      refine call_enumerate_list p'.isList fun h' he hit hsz hk => wpAny_pyIter_enum he ?_
      have I2 : Inv X pins σ H1 { s1 with heap := h' } := I1.kept (t' := s1.toks) hk
      refine ⟨s1.heap.objs.size + 1, [s1.heap.objs.size + 1, s1.heap.objs.size], _, _, H1, rfl, I2, turn_enum a (s1.heap.objs.size + 1) s1.heap.objs.size, ⟨⟨.none, he⟩, hit, Nat.succ_ne_self _⟩, fun b hb => ?_, q⟩
      have e' : b = s1.heap.objs.size + 1 ∨ b = s1.heap.objs.size := by simpa using hb
      have hle : s1.heap.objs.size ≤ b := by
        rcases e' with z | z
        · rw [z]; exact Nat.le_add_right _ _
        · rw [z]; exact Nat.le_refl _
      exact I1.fpOk hle (I1.hok.fresh hle)
    · obtain ⟨its, rv, p', hz⟩ := I1.tuple hq
      have hal : a < s1.heap.objs.size := by obtain ⟨o, ho, _⟩ := id p'; exact Heap.lt_size ho
      refine vs_enum_begins (begins_tuple a its.toArray) p' fun h' he hit hsz hk => wpAny_pyIter_enum he ?_
      have I2 : Inv X pins σ H1 { s1 with heap := h' } := I1.kept (t' := s1.toks) hk
      refine ⟨s1.heap.objs.size + 1, [s1.heap.objs.size + 1, s1.heap.objs.size], _, _, H1, rfl, I2, turn_enumT a (s1.heap.objs.size + 1) s1.heap.objs.size, ⟨⟨.none, he⟩, ⟨_, hit, rfl, rfl⟩, Nat.succ_ne_self _, Nat.ne_of_lt hal, Nat.ne_of_lt (Nat.lt_succ_of_lt hal)⟩, fun b hb => ?_, q⟩
      have e' : b = s1.heap.objs.size + 1 ∨ b = s1.heap.objs.size := by simpa using hb
      have hle : s1.heap.objs.size ≤ b := by
        rcases e' with z | z
        · rw [z]; exact Nat.le_add_right _ _
        · rw [z]; exact Nat.le_refl _
      exact I1.fpOk hle (I1.hok.fresh hle)
/-- a list, a tuple or a text walked -/
def iSeq (K : PySem.W.Frag) (tl : TE) : TI := fun σ H R => tl σ H fun x H1 => (∃ a, x = .ref a ∧ (((∃ xs, SqL K H1 a xs) ∧ R (Itl K a) H1) ∨ ((∃ xs, SqT K H1 a xs) ∧ R (Itt K a) H1)))
theorem pi_seq {X : Cx} {tg l : Expr} {tl : TE} (hl : PE X l tl) : PI X tg l (iSeq X.K tl) := by
  refine ⟨fun pins s σ H R I h => ?_⟩
  refine thn (hl.run pins s σ H _ I h) fun v s1 ⟨x, H1, I1, r1, q1⟩ => ?_
  obtain ⟨a, e, q1⟩ := q1
  subst e
  cases r1
  rcases q1 with ⟨⟨xs, hq⟩, q⟩ | ⟨⟨xs, hq⟩, q⟩
  · obtain ⟨its, rv, p, hz⟩ := I1.list hq
    refine wpAny_pyIter_list p.isList ?_
    refine ⟨s1.heap.objs.size, [s1.heap.objs.size], _, _, H1, rfl, I1.kept (t' := s1.toks) fun b o e => Heap.get?_push_of_some _ e, turn_list a _, ⟨_, Heap.get?_push_size _ rfl, rfl, rfl⟩, fun b hb => ?_, q⟩
    have e : b = s1.heap.objs.size := by simpa using hb
    subst e
    exact I1.fpOk (Nat.le_refl _) (I1.hok.fresh (Nat.le_refl _))
  · obtain ⟨its, rv, p, hz⟩ := I1.tuple hq
    refine wpAny_pyIter_tuple (show s1.heap.IsTuple a its.toArray from p) ?_
    refine ⟨s1.heap.objs.size, [s1.heap.objs.size], _, _, H1, rfl, I1.kept (t' := s1.toks) fun b o e => Heap.get?_push_of_some _ e, turn_tuple a _, ⟨_, Heap.get?_push_size _ rfl, rfl, rfl⟩, fun b hb => ?_, q⟩
    have e : b = s1.heap.objs.size := by simpa using hb
    subst e
    exact I1.fpOk (Nat.le_refl _) (I1.hok.fresh (Nat.le_refl _))
def seqD : D → Option (List D)
  | .lst _ xs => some (freezes xs)
  | .tup xs => some (freezes xs)
  | .scr ns => some (ns.map .int)
  | _ => none
def itSeq (f : FE) : FI := fun ρ => (f ρ).bind fun p => (seqD p.1).bind fun xs => some (xs, p.2)
def itEnum (f : FE) : FI := fun ρ => (f ρ).bind fun p => (seqD p.1).bind fun xs => some (((intsTo 0 xs.length).zip xs).map fun q => .tup [q.1, q.2], p.2)
def rng1D : List D → Option (List D)
  | [.int j] => if -4611686018427387904 ≤ j ∧ j < 4611686018427387904 then some (intsTo 0 j.toNat) else none
  | _ => none
def rng2D : List D → Option (List D)
  | [.int i, .int j] => if -4611686018427387904 ≤ i ∧ i < 4611686018427387904 ∧ -4611686018427387904 ≤ j ∧ j < 4611686018427387904 then some (intsTo i (j - i).toNat) else none
  | _ => none
def rng3D : List D → Option (List D)
  | [.int i, .int j, .int c] => if c = -1 ∧ -4611686018427387904 ≤ i ∧ i < 4611686018427387904 ∧ -4611686018427387904 ≤ j ∧ j < 4611686018427387904 then some (intsBy i (-1) (i - j).toNat)
    else if 0 < c ∧ c < 1000000 ∧ -1000000000 ≤ i ∧ i < 1000000000 ∧ -1000000000 ≤ j ∧ j < 1000000000 then some (intsBy i c (if i < j then (j - i - 1) / c + 1 else 0).toNat) else none
  | _ => none
def itRg (rd : List D → Option (List D)) (ops : List Op) : FI := fun ρ => (evOps ops ρ).bind fun p => (fetch ops p.1 p.2).bind fun ds => (rd ds).bind fun xs => some (xs, p.2)
section
variable {K : PySem.W.Frag} {pn : Nat → Bool} {W : WX}
theorem intsTo_len (lo : Int) (n : Nat) : (intsTo lo n).length = n := by unfold intsTo; rw [List.length_map, List.length_range]
theorem reps_ints {G H : Hp} : ∀ ns : List Int, Reps K G H (ns.map V.int) (ns.map D.int) []
  | [] => .nil
  | n :: ns => Reps.cons (.int n) (reps_ints ns) fun a z => nomatch z
theorem freezes_eq : ∀ xs : List D, freezes xs = xs.map freeze
  | [] => rfl
  | x :: xs => by rw [freezes, freezes_eq xs]; rfl
/-- a value made, then frozen -/
theorem simE_frz {te : TE} {f : FE} (h : SimE K te f) {ρ : Env} {d : D} {ρ' : Env} (e : f ρ = some (d, ρ')) {σ : L2.St} {G H : Hp} {F : Nat → List Addr} (r : REnv K G H σ ρ F) (Q : VK)
    (q : ∀ v G' H' F', Tr G H (own F) G' H' (own F') → REnv K G' H' σ ρ' F' → Rep K G' H' v (freeze d) [] → Q v H') : te σ H Q :=
  h ρ d ρ' e σ G H F r Q fun v G1 H1 F1 L t1 r1 rv n1 => by
    obtain ⟨G2, t2, r2, rv2⟩ := r1.frz rv n1
    exact q v G2 H1 F1 (t1.trans t2) r2 rv2
theorem simI_seq {te : TE} {f : FE} (h : SimE K te f) : SimI K (iSeq K te) (itSeq f) := by
  intro ρ ds ρ' e σ G H F r R q
  unfold itSeq at e
  cases hf : f ρ with
  | none => rw [hf] at e; cases e
  | some p =>
    obtain ⟨d, ρ1⟩ := p
    rw [hf] at e
    have e1 : (seqD d).bind (fun xs => some (xs, ρ1)) = some (ds, ρ') := e
    cases d with
    | lst o xs =>
      cases e1
      refine simE_frz h hf r _ fun v G' H' F' t' r' rv => ?_
      cases rv with
      | lstS hs hr _ => exact ⟨_, rfl, .inl ⟨⟨_, SqL.of (r'.sub _ _ hs)⟩, q _ G' H' F' t' r' (jok_list (SqL.of hs) hr)⟩⟩
    | scr ns =>
      cases e1
      refine simE_frz h hf r _ fun v G' H' F' t' r' rv => ?_
      cases rv with
      | scr hs => exact ⟨_, rfl, .inl ⟨⟨_, Same.seq r'.sub hs⟩, q _ G' H' F' t' r' (jok_list (H0 := H') hs (reps_ints ns))⟩⟩
    | tup xs =>
      cases e1
      refine simE_frz h hf r _ fun v G' H' F' t' r' rv => ?_
      cases rv with
      | tup hs hr => exact ⟨_, rfl, .inr ⟨⟨_, Same.seqT r'.sub hs⟩, q _ G' H' F' t' r' (jok_tup hs hr)⟩⟩
    | _ => cases e1
theorem simI_enum {te : TE} {f : FE} (h : SimE K te f) : SimI K (iEnumA K te) (itEnum f) := by
  intro ρ ds ρ' e σ G H F r R q
  unfold itEnum at e
  cases hf : f ρ with
  | none => rw [hf] at e; cases e
  | some p =>
    obtain ⟨d, ρ1⟩ := p
    rw [hf] at e
    have e1 : (seqD d).bind (fun xs => some (((intsTo 0 xs.length).zip xs).map (fun q => D.tup [q.1, q.2]), ρ1)) = some (ds, ρ') := e
    have hint : ∀ (n : Nat) (i : Nat) (d : D) (x : V) (G : Hp) (H : Hp), (intsTo 0 n)[i]? = some d → some (V.int (i : Nat)) = some x → Rep K G H x d [] := fun n i d x G H hd hx => by
      have hi : i < n := by rw [← intsTo_len 0 n]; exact (List.getElem?_eq_some_iff.mp hd).1
      unfold intsTo at hd
      rw [List.getElem?_map, List.getElem?_range hi] at hd
      cases hd; cases hx
      have : (0 : Int) + (i : Nat) = (i : Nat) := Int.zero_add _
      show Rep K G H (.int ((i : Nat) : Int)) (.int (0 + ((i : Nat) : Int))) []
      rw [this]
      exact .int _
    cases d with
    | lst o xs =>
      cases e1
      refine simE_frz h hf r _ fun v G' H' F' t' r' rv => ?_
      cases rv with
      | lstS hs hr _ =>
        refine ⟨_, _, rfl, .inl ⟨SqL.of (r'.sub _ _ hs), q _ G' H' F' t' r' (jok_pair walk_enum (fun H s => SqL.of (s _ _ hs)) (by rw [intsTo_len, hr.length]) hr.length.symm (fun i d x G H hd hx _ => hint _ i d x G H hd hx) fun i d x G H hd hx s => ?_)⟩⟩
        obtain ⟨M, q1, s1⟩ := hr.get0 hx hd
        have : M = [] := List.eq_nil_iff_forall_not_mem.mpr fun a ha => nomatch s1 a ha
        subst this
        exact q1.far s
    | scr ns =>
      cases e1
      refine simE_frz h hf r _ fun v G' H' F' t' r' rv => ?_
      cases rv with
      | scr hs =>
        have hr := reps_ints (K := K) (G := G') (H := H') ns
        refine ⟨_, _, rfl, .inl ⟨Same.seq r'.sub hs, q _ G' H' F' t' r' (jok_pair walk_enum (fun H s => Same.seq s hs) (by rw [intsTo_len, hr.length]) hr.length.symm (fun i d x G H hd hx _ => hint _ i d x G H hd hx) fun i d x G H hd hx s => ?_)⟩⟩
        obtain ⟨M, q1, s1⟩ := hr.get0 hx hd
        have : M = [] := List.eq_nil_iff_forall_not_mem.mpr fun a ha => nomatch s1 a ha
        subst this
        exact q1.far s
    | tup xs =>
      cases e1
      refine simE_frz h hf r _ fun v G' H' F' t' r' rv => ?_
      cases rv with
      | tup hs hr =>
        refine ⟨_, _, rfl, .inr ⟨Same.seqT r'.sub hs, q _ G' H' F' t' r' (jok_pair walk_enumT (fun H s => Same.seqT s hs) (by rw [intsTo_len, hr.length]) hr.length.symm (fun i d x G H hd hx _ => hint _ i d x G H hd hx) fun i d x G H hd hx s => ?_)⟩⟩
        obtain ⟨M, q1, s1⟩ := hr.get0 hx hd
        have : M = [] := List.eq_nil_iff_forall_not_mem.mpr fun a ha => nomatch s1 a ha
        subst this
        exact q1.far s
    | _ => cases e1
theorem simI_rngs {ta : TA} {ops : List Op} {rd : List D → Option (List D)} {w : List V → Hp → (It → Hp → Prop) → Prop} (h : SimA K ta ops)
    (hw : ∀ G H vs ds xs R, RepL K G H vs ds → rd ds = some xs → (∀ J, JOk K J G xs → R J H) → w vs H R) :
    SimI K (fun σ H R => ta σ H fun vs H1 => w vs H1 R) (itRg rd ops) := by
  intro ρ ds ρ' e σ G H F r R q
  unfold itRg at e
  cases he : evOps ops ρ with
  | none => rw [he] at e; cases e
  | some p =>
    obtain ⟨ts, ρ1⟩ := p
    rw [he] at e
    have e1 : (fetch ops ts ρ1).bind (fun ds => (rd ds).bind fun xs => some (xs, ρ1)) = some (ds, ρ') := e
    cases hf : fetch ops ts ρ1 with
    | none => rw [hf] at e1; cases e1
    | some es =>
      rw [hf] at e1
      have e2 : (rd es).bind (fun xs => some (xs, ρ1)) = some (ds, ρ') := e1
      cases hr : rd es with
      | none => rw [hr] at e2; cases e2
      | some xs =>
        rw [hr] at e2; cases e2
        refine h ρ ts ρ' he σ G H F r _ fun vs G1 H1 F1 M t1 r1 ok n1 => ?_
        exact hw G1 H1 vs es _ R (ok.get r1 hf) hr fun J jo => q J G1 H1 F1 (t1.post fun a h => .inl h) r1 jo
theorem simI_rng1 {ta : TA} {ops : List Op} (h : SimA K ta ops) : SimI K (iRng1 ta) (itRg rng1D ops) := by
  refine simI_rngs (w := fun vs H1 R => ∃ j : Int, vs = [.int j] ∧ -(2 ^ 62) ≤ j ∧ j < 2 ^ 62 ∧ R (Itr 0 j.toNat) H1) h fun G H vs ds xs R rl hr q => ?_
  unfold rng1D at hr
  split at hr
  · cases rl with
    | cons r1 rr =>
      cases rr; cases r1
      split at hr
      · rename_i hb
        cases hr
        exact ⟨_, rfl, by omega, by omega, q _ jok_range⟩
      · cases hr
  · cases hr
theorem simI_rng2 {ta : TA} {ops : List Op} (h : SimA K ta ops) : SimI K (iRng2 ta) (itRg rng2D ops) := by
  refine simI_rngs (w := fun vs H1 R => ∃ i j : Int, vs = [.int i, .int j] ∧ (-(2 ^ 62) ≤ i ∧ i < 2 ^ 62 ∧ -(2 ^ 62) ≤ j ∧ j < 2 ^ 62) ∧ R (Itr i (j - i).toNat) H1) h fun G H vs ds xs R rl hr q => ?_
  unfold rng2D at hr
  split at hr
  · cases rl with
    | cons r1 rr =>
      cases rr with
      | cons r2 rr =>
        cases rr; cases r1; cases r2
        split at hr
        · rename_i hb
          cases hr
          exact ⟨_, _, rfl, ⟨by omega, by omega, by omega, by omega⟩, q _ jok_range⟩
        · cases hr
  · cases hr
theorem rgC_pos {i j c : Int} (h0 : 0 < c) (h1 : c < 1000000) (h2 : -1000000000 ≤ i) (h3 : i < 1000000000) (h4 : -1000000000 ≤ j) (h5 : j < 1000000000) : RgC i j c (if i < j then (j - i - 1) / c + 1 else 0).toNat := by
  have hs : Builtin.Range.rangeSize i j c = (if i < j then (j - i - 1) / c + 1 else 0) := by
    unfold Builtin.Range.rangeSize; rw [if_pos h0]
  have hnn : 0 ≤ (if i < j then (j - i - 1) / c + 1 else 0) := by
    split
    · have := Int.ediv_nonneg (a := j - i - 1) (b := c) (by omega) (by omega)
      omega
    · exact Int.le_refl _
  have hub : (if i < j then (j - i - 1) / c + 1 else 0) ≤ 2000000000 := by
    split
    · have := Int.ediv_le_self (a := j - i - 1) c (by omega)
      omega
    · omega
  refine ⟨by omega, by omega, ?_, by rw [hs]; omega⟩
  unfold Builtin.Range.small
  rw [hs]
  simp only [Builtin.Range.rangeFitsLong, Bool.and_eq_true, Bool.or_eq_true, decide_eq_true_eq, beq_iff_eq, show c > 0 from h0, if_true]
  refine ⟨⟨⟨⟨⟨by omega, by omega⟩, by omega, by omega⟩, by omega, by omega⟩, ?_, ?_⟩, .inr ⟨by omega, by omega⟩⟩ <;> omega
theorem simI_rng3 {ta : TA} {ops : List Op} (h : SimA K ta ops) : SimI K (iRng3 ta) (itRg rng3D ops) := by
  refine simI_rngs (w := fun vs H1 R => ∃ (i j c : Int) (n : Nat), vs = [.int i, .int j, .int c] ∧ RgC i j c n ∧ R (Itc i c n) H1) h fun G H vs ds xs R rl hr q => ?_
  unfold rng3D at hr
  split at hr
  · cases rl with
    | cons r1 rr =>
      cases rr with
      | cons r2 rr =>
        cases rr with
        | cons r3 rr =>
          cases rr; cases r1; cases r2; cases r3
          split at hr
          · rename_i hb
            cases hr
            obtain ⟨rfl, b1, b2, b3, b4⟩ := hb
            exact ⟨_, _, _, _, rfl, RgC.neg (by omega) (by omega) (by omega) (by omega), q _ jok_rangeC⟩
          · split at hr
            · rename_i hb
              cases hr
              obtain ⟨b0, b1, b2, b3, b4, b5⟩ := hb
              exact ⟨_, _, _, _, rfl, rgC_pos b0 b1 b2 b3 b4 b5, q _ jok_rangeC⟩
            · cases hr
  · cases hr
end
section
variable {X : Cx} {tg e e2 : Expr} {es : List Expr} {p pos tpos : Pos} {elts : List Expr} {kk : Nat}
theorem pif_seq {f : FE} (h : PEf X e f) : PIf X tg e (itSeq f) := .mk (pi_seq h) (simI_seq (simE_of f))
theorem pif_enum {f : FE} (hg : Gl X "enumerate") (hm : X.mg "enumerate" = none) (h : PEf X e f) (hs : starEach [e] X.env = [(false, eval e X.env)] := by rfl) : PIf X (.Tuple elts kk tpos) (.Call (.Name "enumerate" p) [e] [] pos) (itEnum f) := .mk (pi_enumA hg hm h hs) (simI_enum (simE_of f))
theorem pif_rng1 {o : Op} {a : Expr} (hg : Gl X "range") (hm : X.mg "range" = none) (ha : PAf X [a] [o]) (hs : starEach [a] X.env = [(false, eval a X.env)] := by rfl) : PIf X tg (.Call (.Name "range" p) [a] [] pos) (itRg rng1D [o]) := .mk (pi_range1 hg hm ha hs) (simI_rng1 (simA_of _))
theorem pif_rng2 {a b : Expr} {ops : List Op} (hg : Gl X "range") (hm : X.mg "range" = none) (ha : PAf X [a, b] ops) (hs : starEach [a, b] X.env = [(false, eval a X.env), (false, eval b X.env)] := by rfl) (hs2 : starEach [b] X.env = [(false, eval b X.env)] := by rfl) : PIf X tg (.Call (.Name "range" p) [a, b] [] pos) (itRg rng2D ops) := .mk (pi_range2 hg hm ha hs hs2) (simI_rng2 (simA_of _))
theorem pif_rng3 {a b c : Expr} {ops : List Op} (hg : Gl X "range") (hm : X.mg "range" = none) (ha : PAf X [a, b, c] ops) (hs : starEach [a, b, c] X.env = (false, eval a X.env) :: starEach [b, c] X.env := by rfl) (hpl : (backTo pos (starEach [b, c] X.env)).any (·.1) = false := by rfl) : PIf X tg (.Call (.Name "range" p) [a, b, c] [] pos) (itRg rng3D ops) := .mk (pi_range3 hg hm ha hs hpl) (simI_rng3 (simA_of _))
end
end VS
set_option Elab.async false
set_option linter.all false
set_option maxRecDepth 100000
namespace VS
open PySem PySem.Spec PyProof.Rows L2
/-! ### values by cases -/
section
variable {K : PySem.W.Frag} {G H G' H' : Hp}
theorem Rep.lstInv {v : V} {o : Bool} {xs : List D} {L : List Addr} (h : Rep K G H v (.lst o xs) L) (s : Same G H) : ∃ a vs M, v = .ref a ∧ H a = some (.lst vs) ∧ Reps K G H vs xs M ∧ ∀ x ∈ M, x ∈ L := by
  cases h with
  | lstS hs hr e => exact ⟨_, _, _, rfl, s _ _ hs, hr, fun x h => h⟩
  | lstO hg hh hn hr => exact ⟨_, _, _, rfl, hh, hr, fun x h => List.mem_cons_of_mem _ h⟩
theorem Rep.tupInv {v : V} {xs : List D} {L : List Addr} (h : Rep K G H v (.tup xs) L) (s : Same G H) : ∃ a vs, v = .ref a ∧ SqT K H a vs ∧ Reps K G H vs xs L := by
  cases h with
  | tup hs hr => exact ⟨_, _, rfl, Same.seqT s hs, hr⟩
theorem Reps.to0 {vs : List V} {xs : List D} {L : List Addr} (h : Reps K G H vs xs L) (n : noOwns xs = true) : Reps K G H vs xs [] := by
  have := h.noL n
  subst this
  exact h
theorem Reps.cons0 {v : V} {d : D} {vs : List V} {ds : List D} (h : Rep K G H v d []) (r : Reps K G H vs ds []) : Reps K G H (v :: vs) (d :: ds) [] := Reps.cons h r fun a z => nomatch z
theorem Reps.uncons {v : V} {d : D} {vs : List V} {ds : List D} {L : List Addr} (h : Reps K G H (v :: vs) (d :: ds) L) (e : L = []) : Rep K G H v d [] ∧ Reps K G H vs ds [] := by
  cases h with
  | cons h r n =>
    obtain ⟨e1, e2⟩ := List.append_eq_nil_iff.mp e
    subst e1; subst e2
    exact ⟨h, r⟩
theorem Reps.append0 : ∀ {vs us : List V} {xs ys : List D}, Reps K G H vs xs [] → Reps K G H us ys [] → Reps K G H (vs ++ us) (xs ++ ys) []
  | [], us, xs, ys, h, r => by cases h; exact r
  | v :: vs, us, [], ys, h, r => by cases h
  | v :: vs, us, x :: xs, ys, h, r => by
    obtain ⟨h1, h2⟩ := h.uncons rfl
    exact Reps.cons0 h1 (h2.append0 r)
theorem Reps.take0 : ∀ {vs : List V} {xs : List D} (n : Nat), Reps K G H vs xs [] → Reps K G H (vs.take n) (xs.take n) []
  | vs, xs, 0, h => .nil
  | [], xs, n + 1, h => by cases h; exact .nil
  | v :: vs, [], n + 1, h => by cases h
  | v :: vs, x :: xs, n + 1, h => by
    obtain ⟨h1, h2⟩ := h.uncons rfl
    exact Reps.cons0 h1 (h2.take0 n)
theorem Reps.drop0 : ∀ {vs : List V} {xs : List D} (n : Nat), Reps K G H vs xs [] → Reps K G H (vs.drop n) (xs.drop n) []
  | vs, xs, 0, h => h
  | [], xs, n + 1, h => by cases h; exact .nil
  | v :: vs, [], n + 1, h => by cases h
  | v :: vs, x :: xs, n + 1, h => (h.uncons rfl).2.drop0 n
theorem Reps.rep0 {vs : List V} {xs : List D} (h : Reps K G H vs xs []) : ∀ n : Nat, Reps K G H (List.replicate n vs).flatten (List.replicate n xs).flatten []
  | 0 => .nil
  | n + 1 => by
    rw [List.replicate_succ, List.replicate_succ, List.flatten_cons, List.flatten_cons]
    exact h.append0 (h.rep0 n)
theorem Reps.get1 {vs : List V} {xs : List D} {L : List Addr} {i : Nat} {d : D} (h : Reps K G H vs xs L) (e : xs[i]? = some d) (n : noOwn d = true) : ∃ v, vs[i]? = some v ∧ Rep K G H v d [] := by
  have hl := h.length
  have hi : i < vs.length := by rw [hl]; exact (List.getElem?_eq_some_iff.mp e).1
  obtain ⟨M, q, _⟩ := h.get0 (List.getElem?_eq_getElem hi) e
  have := q.noL n
  subst this
  exact ⟨_, List.getElem?_eq_getElem hi, q⟩
/-- a new list, a new tuple, as what an operation leaves -/
theorem new_lst {p : Addr} {vs : List V} {xs : List D} (s : Same G H) (hp : H p = none) (r : Reps K G H vs xs []) : Tr G H (fun _ => False) G (upd H p (.lst vs)) (fun a => a ∈ [p]) ∧ Rep K G (upd H p (.lst vs)) (.ref p) (.lst true xs) [p] := by
  have t := Tr.newO (A := fun _ => False) (o := .lst vs) s hp
  refine ⟨t.post fun a h => .inr (by simpa using h), .lstO (s.free hp) upd_same List.not_mem_nil (r.far (Same.refl _))⟩
theorem new_tup {p : Addr} {vs : List V} {xs : List D} (s : Same G H) (hp : H p = none) (r : Reps K G H vs xs []) : ∃ G', Tr G H (fun _ => False) G' (upd H p (.tup vs)) (fun a => a ∈ ([] : List Addr)) ∧ Rep K G' (upd H p (.tup vs)) (.ref p) (.tup xs) [] := by
  have t := Tr.newG (A := fun _ => False) (o := .tup vs) s hp
  exact ⟨_, t.post fun a h => (by cases h), .tup (.inl (.inl upd_same)) (r.far t.g)⟩
theorem fin0 {v : V} {d : D} {Q : VK} (s : Same G H) (r : Rep K G H v d []) (q : ∀ v G' H' L, Tr G H (fun _ => False) G' H' (fun a => a ∈ L) → Rep K G' H' v d L → Q v H') : Q v H := q v G H [] ((Tr.refl s).post fun a h => (by cases h)) r
theorem RepL.one {vs : List V} {d : D} (h : RepL K G H vs [d]) : ∃ v L, vs = [v] ∧ Rep K G H v d L := by
  cases h with
  | cons h r => cases r; exact ⟨_, _, rfl, h⟩
theorem RepL.two {vs : List V} {d e : D} (h : RepL K G H vs [d, e]) : ∃ v u L M, vs = [v, u] ∧ Rep K G H v d L ∧ Rep K G H u e M := by
  cases h with
  | cons h r =>
    obtain ⟨u, M, rfl, h2⟩ := r.one
    exact ⟨_, _, _, _, rfl, h, h2⟩
end
/-! ### + -/
section
variable {X : Cx}
def rAddA (K : PySem.W.Frag) : R2 := fun x y H Q => rI0 (fun i j => .int (i + j)) x y H Q ∨ ((∃ i j, x = .str i ∧ y = .str j ∧ i.length + j.length ≤ sizeLine ∧ Q (.str (i ++ j)) H) ∨ (rCat x y H Q ∨ rCatA K x y H Q))
theorem op_addA : OpR X (binaryOp .Add) (rAddA X.K) := op_add.or (op_add_str.or (op_cat.or op_catA))
end
def addD : List D → Option D
  | [.int a, .int b] => some (.int (a + b))
  | [.str a, .str b] => if a.length + b.length ≤ smallL then some (.str (a ++ b)) else none
  | [.lst _ xs, .lst _ ys] => if noOwns xs = true ∧ noOwns ys = true ∧ xs.length + ys.length ≤ smallL then some (.lst true (xs ++ ys)) else none
  | [.tup xs, .tup ys] => if noOwns xs = true ∧ noOwns ys = true ∧ xs.length + ys.length ≤ smallL then some (.tup (xs ++ ys)) else none
  | _ => none
section
variable {K : PySem.W.Frag}
theorem vok_add : VOk K (r2L (rAddA K)) addD := by
  intro G H vs ds d s rl e Q q
  unfold addD at e
  split at e
  · obtain ⟨v, u, L, M, rfl, r1, r2⟩ := rl.two
    cases e; cases r1; cases r2
    exact .inl ⟨_, _, rfl, rfl, fin0 s (.int _) q⟩
  · obtain ⟨v, u, L, M, rfl, r1, r2⟩ := rl.two
    split at e
    · rename_i hz
      cases e; cases r1; cases r2
      exact .inr (.inl ⟨_, _, rfl, rfl, small_line hz, fin0 s (.str _) q⟩)
    · cases e
  · obtain ⟨v, u, L, M, rfl, r1, r2⟩ := rl.two
    split at e
    · rename_i hz
      cases e
      obtain ⟨a, vs, L1, rfl, h1, h2, _⟩ := r1.lstInv s
      obtain ⟨b, us, L2, rfl, h3, h4, _⟩ := r2.lstInv s
      refine .inr (.inr (.inl ⟨a, b, vs, us, rfl, rfl, h1, h3, by rw [h2.length, h4.length]; exact small_line hz.2.2, fun p hp => ?_⟩))
      obtain ⟨t, r⟩ := new_lst s hp ((h2.to0 hz.1).append0 (h4.to0 hz.2.1))
      exact q _ _ _ _ t r
    · cases e
  · obtain ⟨v, u, L, M, rfl, r1, r2⟩ := rl.two
    split at e
    · rename_i hz
      cases e
      obtain ⟨a, vs, rfl, h1, h2⟩ := r1.tupInv s
      obtain ⟨b, us, rfl, h3, h4⟩ := r2.tupInv s
      have q2 := h2.to0 hz.1
      have q4 := h4.to0 hz.2.1
      have e1 : L = [] := h2.noL hz.1
      have e2 : M = [] := h4.noL hz.2.1
      subst e1; subst e2
      refine .inr (.inr (.inr ⟨a, b, vs, us, rfl, rfl, h1, h3, by rw [h2.length, h4.length]; exact small_line hz.2.2, fun ez => ?_, fun _ ez => ?_, fun _ _ p hp => ?_⟩))
      · subst ez
        have := q2.length
        have : ‹List D› = ‹List D› := rfl
        cases q2
        exact fin0 s r2 q
      · subst ez
        cases q4
        rw [List.append_nil] at q
        exact fin0 s r1 q
      · obtain ⟨G', t, r⟩ := new_tup s hp (q2.append0 q4)
        exact q _ _ _ _ t r
    · cases e
  · cases e
/-! ### the other operators of ints -/
def subD : List D → Option D
  | [.int a, .int b] => some (.int (a - b))
  | _ => none
theorem vok_sub : VOk K (r2L (rI0 fun i j => .int (i - j))) subD := by
  intro G H vs ds d s rl e Q q
  unfold subD at e
  split at e
  · obtain ⟨v, u, L, M, rfl, r1, r2⟩ := rl.two
    cases e; cases r1; cases r2
    exact ⟨_, _, rfl, rfl, fin0 s (.int _) q⟩
  · cases e
def mulOk (i j : Int) : Bool := decide (-18446744073709551616 < i ∧ i < 18446744073709551616) || decide (-18446744073709551616 < j ∧ j < 18446744073709551616) || decide (i.natAbs.log2 + j.natAbs.log2 < 1000000)
theorem mulOk_ok {i j : Int} (h : mulOk i j = true) : IntMulOk i j := by
  unfold mulOk at h
  simp only [Bool.or_eq_true, decide_eq_true_eq] at h
  rcases h with (h | h) | h
  · exact CMul.ok (.inl (by omega))
  · exact CMul.ok (.inr (by omega))
  · exact CMulW.ok h
def rMulI : R2 := rI (fun i j => mulOk i j = true) (fun i j => .int (i * j))
def rMulA (K : PySem.W.Frag) : R2 := fun x y H Q => rMulI x y H Q ∨ (rRep x y H Q ∨ rRepT K x y H Q)
section
variable {X : Cx}
theorem op_mulI : OpR X (binaryOp .Mult) rMulI := opI fun _ _ _ _ _ _ _ hc q => mul_int q (mulOk_ok hc)
theorem op_mulA : OpR X (binaryOp .Mult) (rMulA X.K) := op_mulI.or (op_rep.or op_repT)
end
def mulD : List D → Option D
  | [.int a, .int b] => if mulOk a b = true then some (.int (a * b)) else none
  | [.lst _ xs, .int k] => if noOwns xs = true ∧ -1000000 ≤ k ∧ k ≤ 1000000 ∧ xs.length * k.toNat ≤ smallL then some (.lst true (List.replicate k.toNat xs).flatten) else none
  | _ => none
theorem vok_mul : VOk K (r2L (rMulA K)) mulD := by
  intro G H vs ds d s rl e Q q
  unfold mulD at e
  split at e
  · obtain ⟨v, u, L, M, rfl, r1, r2⟩ := rl.two
    split at e
    · rename_i hz
      cases e; cases r1; cases r2
      exact .inl ⟨_, _, rfl, rfl, hz, fin0 s (.int _) q⟩
    · cases e
  · obtain ⟨v, u, L, M, rfl, r1, r2⟩ := rl.two
    split at e
    · rename_i hz
      cases e; cases r2
      obtain ⟨a, vs, L1, rfl, h1, h2, _⟩ := r1.lstInv s
      obtain ⟨z1, z2, z3, z4⟩ := hz
      refine .inr (.inl ⟨a, _, vs, rfl, rfl, h1, by omega, by omega, by rw [h2.length]; exact small_line z4, fun p hp => ?_⟩)
      obtain ⟨t, r⟩ := new_lst s hp ((h2.to0 z1).rep0 _)
      exact q _ _ _ _ t r
    · cases e
  · cases e
def fdivOk (j : Int) : Bool := decide (j ≠ 0 ∧ j.natAbs < 1073741824) || decide (0 < j ∧ j.natAbs.log2 < 9000)
def rFdiv : R2 := rI (fun _ j => fdivOk j = true) fun i j => .int (i.fdiv j)
theorem op_fdivA {X : Cx} : OpR X (binaryOp .FloorDiv) rFdiv := opI fun i j _ _ _ _ _ hc q => by
  unfold fdivOk at hc
  simp only [Bool.or_eq_true, decide_eq_true_eq] at hc
  rcases hc with h | h
  · exact floordiv_int h.1 q (.inl (PyProof.noPylong_small h.2))
  · exact floordiv_int (by omega) q (.inl (PyProof.noPylong_of_log2 h.2))
def fdivD : List D → Option D
  | [.int a, .int b] => if fdivOk b = true then some (.int (a.fdiv b)) else none
  | _ => none
theorem vok_fdiv : VOk K (r2L rFdiv) fdivD := by
  intro G H vs ds d s rl e Q q
  unfold fdivD at e
  split at e
  · obtain ⟨v, u, L, M, rfl, r1, r2⟩ := rl.two
    split at e
    · rename_i hz
      cases e; cases r1; cases r2
      exact ⟨_, _, rfl, rfl, hz, fin0 s (.int _) q⟩
    · cases e
  · cases e
def modD : List D → Option D
  | [.int a, .int b] => if b ≠ 0 then some (.int (a.fmod b)) else none
  | _ => none
theorem vok_mod : VOk K (r2L (rI (fun _ j => j ≠ 0) fun i j => .int (i.fmod j))) modD := by
  intro G H vs ds d s rl e Q q
  unfold modD at e
  split at e
  · obtain ⟨v, u, L, M, rfl, r1, r2⟩ := rl.two
    split at e
    · rename_i hz
      cases e; cases r1; cases r2
      exact ⟨_, _, rfl, rfl, hz, fin0 s (.int _) q⟩
    · cases e
  · cases e
def powOk (a n : Int) : Bool := decide (0 ≤ n) && decide ((Builtin.Int.intBits a : Int) * n ≤ 134217728)
def rPow : R2 := rI (fun i j => powOk i j = true) fun i j => .int (i ^ j.toNat)
theorem op_powA {X : Cx} : OpR X (binaryOp .Pow) rPow := opI fun i j _ _ _ _ _ hc q => by
  unfold powOk at hc
  simp only [Bool.and_eq_true, decide_eq_true_eq] at hc
  exact pow_int hc.1 (by have := hc.2; omega) q
def powD : List D → Option D
  | [.int a, .int b] => if powOk a b = true then some (.int (a ^ b.toNat)) else none
  | _ => none
theorem vok_pow : VOk K (r2L rPow) powD := by
  intro G H vs ds d s rl e Q q
  unfold powD at e
  split at e
  · obtain ⟨v, u, L, M, rfl, r1, r2⟩ := rl.two
    split at e
    · rename_i hz
      cases e; cases r1; cases r2
      exact ⟨_, _, rfl, rfl, hz, fin0 s (.int _) q⟩
    · cases e
  · cases e
def negD : List D → Option D
  | [.int a] => some (.int (-a))
  | _ => none
theorem vok_neg : VOk K (r1L (rU fun i => .int (-i))) negD := by
  intro G H vs ds d s rl e Q q
  unfold negD at e
  split at e
  · obtain ⟨v, L, rfl, r1⟩ := rl.one
    cases e; cases r1
    exact ⟨_, rfl, fin0 s (.int _) q⟩
  · cases e
end
end VS
set_option Elab.async false
set_option linter.all false
set_option maxRecDepth 100000
namespace VS
open PySem PySem.Spec PyProof.Rows L2
/-! ### == and its like -/
mutual
def pyD : D → PyData
  | .non => .none
  | .bl b => .bool b
  | .int i => .int i
  | .str s => .str s
  | .tup xs => .tuple (pyDs xs)
  | .lst _ xs => .list (pyDs xs)
  | .scr ns => .list (ns.map .int)
  | .ty _ => .none
  | .exc _ _ => .none
  | .dct _ _ => .none
def pyDs : List D → List PyData
  | [] => []
  | x :: r => pyD x :: pyDs r
end
mutual
def noTy : D → Bool
  | .ty _ => false
  | .exc _ _ => false
  | .dct _ _ => false
  | .tup xs => noTys xs
  | .lst _ xs => noTys xs
  | _ => true
def noTys : List D → Bool
  | [] => true
  | x :: r => noTy x && noTys r
end
def eqOk (d : D) : Bool := noTy d && SeqAt.shaped (pyD d)
section
variable {K : PySem.W.Frag} {G H : Hp}
theorem dpAll_ints : ∀ ns : List Int, DpAll K H (ns.map V.int) (ns.map PyData.int)
  | [] => .nil
  | n :: ns => .cons (.int n) (dpAll_ints ns)
mutual
theorem Rep.dp {v : V} {d : D} {L : List Addr} (s : Same G H) (r : Rep K G H v d L) (h : noTy d = true) : Dp K H v (pyD d) := by
  cases r with
  | non => exact .non
  | bl b => exact .bl b
  | int i => exact .int i
  | str x => exact .str x
  | ty n => cases h
  | exc _ _ _ _ => cases h
  | dctS _ => cases h
  | dctO _ _ => cases h
  | scr q => exact .lst (Same.seq s q) (dpAll_ints _)
  | tup q r => exact .tup (Same.seqT s q) (Reps.dp s r h)
  | lstS q r e => exact .lst (SqL.of (s _ _ q)) (Reps.dp s r h)
  | lstO _ q _ r => exact .lst (SqL.of q) (Reps.dp s r h)
theorem Reps.dp {vs : List V} {ds : List D} {L : List Addr} (s : Same G H) (r : Reps K G H vs ds L) (h : noTys ds = true) : DpAll K H vs (pyDs ds) := by
  cases r with
  | nil => exact .nil
  | cons q r n =>
    simp only [noTys, Bool.and_eq_true] at h
    exact .cons (Rep.dp s q h.1) (Reps.dp s r h.2)
end
end
def deq (x y : D) : Bool := PyData.eqv (pyD x) (pyD y)
def eqD : List D → Option D
  | [x, y] => if eqOk x = true ∧ eqOk y = true then some (.bl (deq x y)) else none
  | _ => none
def neD : List D → Option D
  | [x, y] => if eqOk x = true ∧ eqOk y = true then some (.bl (!deq x y)) else none
  | _ => none
theorem eqOk_split {d : D} (h : eqOk d = true) : noTy d = true ∧ SeqAt.shaped (pyD d) = true := by
  unfold eqOk at h
  exact Bool.and_eq_true_iff.mp h
section
variable {K : PySem.W.Frag}
theorem vok_eq : VOk K (r2L (rEqD K)) eqD := by
  intro G H vs ds d s rl e Q q
  unfold eqD at e
  split at e
  · obtain ⟨v, u, L, M, rfl, r1, r2⟩ := rl.two
    split at e
    · rename_i hz
      cases e
      obtain ⟨a1, a2⟩ := eqOk_split hz.1
      obtain ⟨b1, b2⟩ := eqOk_split hz.2
      exact ⟨_, _, r1.dp s a1, r2.dp s b1, a2, b2, fin0 s (.bl _) q⟩
    · cases e
  · cases e
theorem vok_ne : VOk K (r2L (rNeD K)) neD := by
  intro G H vs ds d s rl e Q q
  unfold neD at e
  split at e
  · obtain ⟨v, u, L, M, rfl, r1, r2⟩ := rl.two
    split at e
    · rename_i hz
      cases e
      obtain ⟨a1, a2⟩ := eqOk_split hz.1
      obtain ⟨b1, b2⟩ := eqOk_split hz.2
      exact ⟨_, _, r1.dp s a1, r2.dp s b1, a2, b2, fin0 s (.bl _) q⟩
    · cases e
  · cases e
/-! order of ints -/
def cmpD (p : Int → Int → Bool) : List D → Option D
  | [.int a, .int b] => some (.bl (p a b))
  | _ => none
theorem vok_cmp {p : Int → Int → Bool} : VOk K (r2L (rI0 fun i j => .bl (p i j))) (cmpD p) := by
  intro G H vs ds d s rl e Q q
  unfold cmpD at e
  split at e
  · obtain ⟨v, u, L, M, rfl, r1, r2⟩ := rl.two
    cases e; cases r1; cases r2
    exact ⟨_, _, rfl, rfl, fin0 s (.bl _) q⟩
  · cases e
def ltD := cmpD fun i j => decide (i < j)
def leD := cmpD fun i j => decide (i ≤ j)
def gtD := cmpD fun i j => decide (j < i)
def geD := cmpD fun i j => decide (j ≤ i)
theorem vok_lt : VOk K (r2L (rI0 fun i j => .bl (decide (i < j)))) ltD := vok_cmp
theorem vok_le : VOk K (r2L (rI0 fun i j => .bl (decide (i ≤ j)))) leD := vok_cmp
theorem vok_gt : VOk K (r2L (rI0 fun i j => .bl (decide (j < i)))) gtD := vok_cmp
theorem vok_ge : VOk K (r2L (rI0 fun i j => .bl (decide (j ≤ i)))) geD := vok_cmp
/-! is None; is of bools, of a bool and something else -/
def isNon : D → Bool
  | .non => true
  | _ => false
def isNonD : List D → Option D
  | [x, .non] => some (.bl (isNon x))
  | _ => none
def notNonD : List D → Option D
  | [x, .non] => some (.bl (!isNon x))
  | _ => none
theorem Rep.isNon {G H : Hp} {v : V} {d : D} {L : List Addr} (r : Rep K G H v d L) : decide (v = .non) = VS.isNon d := by
  cases r <;> rfl
theorem vok_isNon : VOk K (r2L (fun x y H Q => y = .non ∧ Q (.bl (decide (x = .non))) H)) isNonD := by
  intro G H vs ds d s rl e Q q
  unfold isNonD at e
  split at e
  · obtain ⟨v, u, L, M, rfl, r1, r2⟩ := rl.two
    cases e; cases r2
    refine ⟨rfl, ?_⟩
    rw [r1.isNon]
    exact fin0 s (.bl _) q
  · cases e
/-! x[i] -/
def ixD : List D → Option D
  | [.lst _ xs, .int i] => (atI xs i).bind fun d => if noOwn d = true then some d else none
  | [.tup xs, .int i] => (atI xs i).bind fun d => if noOwn d = true then some d else none
  | [.scr ns, .int i] => (atI ns i).bind fun d => some (.int d)
  | [.str z, .int i] => if z.length ≤ smallL then (atI z.cps.toList i).bind fun c => some (.str ⟨#[c]⟩) else none
  | _ => none
theorem atI_len {α β : Type} {xs : List α} {ys : List β} (h : xs.length = ys.length) {i : Int} {y : β} (e : atI ys i = some y) : ∃ j, ixN xs.length i = some j ∧ ys[j]? = some y := by
  unfold atI at e
  rw [← h] at e
  cases hj : ixN xs.length i with
  | none => rw [hj] at e; cases e
  | some j => rw [hj] at e; exact ⟨j, rfl, e⟩
theorem atI_of {α : Type} {xs : List α} {i : Int} {j : Nat} {x : α} (h : ixN xs.length i = some j) (e : xs[j]? = some x) : atI xs i = some x := by
  unfold atI
  rw [h]
  exact e
theorem vok_ix : VOk K (r2L (rIx K)) ixD := by
  intro G H vs ds d s rl e Q q
  unfold ixD at e
  split at e
  · obtain ⟨v, u, L, M, rfl, r1, r2⟩ := rl.two
    rename_i xs i
    cases hx : atI xs i with
    | none => rw [hx] at e; cases e
    | some d0 =>
      rw [hx] at e
      have e1 : (if noOwn d0 = true then some d0 else none) = some d := e
      split at e1
      · rename_i hn
        cases e1; cases r2
        obtain ⟨a, vs, L1, rfl, h1, h2, _⟩ := r1.lstInv s
        obtain ⟨j, hj, hd⟩ := atI_len h2.length hx
        obtain ⟨w, hw, hr⟩ := h2.get1 hd hn
        exact .inl ⟨a, vs, _, w, rfl, rfl, SqL.of h1, atI_of hj hw, fin0 s hr q⟩
      · cases e1
  · obtain ⟨v, u, L, M, rfl, r1, r2⟩ := rl.two
    rename_i xs i
    cases hx : atI xs i with
    | none => rw [hx] at e; cases e
    | some d0 =>
      rw [hx] at e
      have e1 : (if noOwn d0 = true then some d0 else none) = some d := e
      split at e1
      · rename_i hn
        cases e1; cases r2
        obtain ⟨a, vs, rfl, h1, h2⟩ := r1.tupInv s
        obtain ⟨j, hj, hd⟩ := atI_len h2.length hx
        obtain ⟨w, hw, hr⟩ := h2.get1 hd hn
        exact .inr (.inl ⟨a, vs, _, w, rfl, rfl, h1, atI_of hj hw, fin0 s hr q⟩)
      · cases e1
  · obtain ⟨v, u, L, M, rfl, r1, r2⟩ := rl.two
    rename_i ns i
    cases hx : atI ns i with
    | none => rw [hx] at e; cases e
    | some d0 =>
      rw [hx] at e
      cases e; cases r2
      cases r1 with
      | scr h1 =>
        rename_i a
        obtain ⟨j, hj, hd⟩ := atI_len (xs := ns.map V.int) (by rw [List.length_map]) hx
        exact .inl ⟨a, _, _, .int d0, rfl, rfl, Same.seq s h1, atI_of hj (by rw [List.getElem?_map, hd]; rfl), fin0 s (.int _) q⟩
  · obtain ⟨v, u, L, M, rfl, r1, r2⟩ := rl.two
    rename_i z i
    split at e
    · rename_i hz
      cases hx : atI z.cps.toList i with
      | none => rw [hx] at e; cases e
      | some c =>
        rw [hx] at e
        cases e; cases r2; cases r1
        exact .inr (.inr ⟨_, _, c, rfl, rfl, small_line hz, hx, fin0 s (.str _) q⟩)
    · cases e
  · cases e
/-! len, list(), tuple() -/
def lenD : List D → Option D
  | [.lst _ xs] => some (.int (xs.length : Nat))
  | [.tup xs] => some (.int (xs.length : Nat))
  | [.scr ns] => some (.int (ns.length : Nat))
  | _ => none
theorem vok_len : VOk K (fun xs H Q => ∃ p ys, xs = [.ref p] ∧ (SqL K H p ys ∨ SqT K H p ys) ∧ Q (.int ys.length) H) lenD := by
  intro G H vs ds d s rl e Q q
  unfold lenD at e
  split at e
  · obtain ⟨v, L, rfl, r1⟩ := rl.one
    cases e
    obtain ⟨a, vs, L1, rfl, h1, h2, _⟩ := r1.lstInv s
    exact ⟨a, vs, rfl, .inl (SqL.of h1), by rw [h2.length]; exact fin0 s (.int _) q⟩
  · obtain ⟨v, L, rfl, r1⟩ := rl.one
    cases e
    obtain ⟨a, vs, rfl, h1, h2⟩ := r1.tupInv s
    exact ⟨a, vs, rfl, .inr h1, by rw [h2.length]; exact fin0 s (.int _) q⟩
  · obtain ⟨v, L, rfl, r1⟩ := rl.one
    cases e
    cases r1 with
    | scr h1 => exact ⟨_, _, rfl, .inl (Same.seq s h1), by rw [List.length_map]; exact fin0 s (.int _) q⟩
  · cases e
def lenStrD : List D → Option D
  | [.str z] => if z.length ≤ smallL then some (.int (z.length : Nat)) else none
  | _ => none
def listD : List D → Option D
  | [.lst _ xs] => if noOwns xs = true then some (.lst true xs) else none
  | [.tup xs] => if noOwns xs = true then some (.lst true xs) else none
  | _ => none
theorem vok_list : VOk K (fun xs H Q => ∃ p ys, xs = [.ref p] ∧ (SqL K H p ys ∨ SqT K H p ys) ∧ ∀ l, H l = none → Q (.ref l) (upd H l (.lst ys))) listD := by
  intro G H vs ds d s rl e Q q
  unfold listD at e
  split at e
  · obtain ⟨v, L, rfl, r1⟩ := rl.one
    split at e
    · rename_i hn
      cases e
      obtain ⟨a, vs, L1, rfl, h1, h2, _⟩ := r1.lstInv s
      refine ⟨a, vs, rfl, .inl (SqL.of h1), fun p hp => ?_⟩
      obtain ⟨t, r⟩ := new_lst s hp (h2.to0 hn)
      exact q _ _ _ _ t r
    · cases e
  · obtain ⟨v, L, rfl, r1⟩ := rl.one
    split at e
    · rename_i hn
      cases e
      obtain ⟨a, vs, rfl, h1, h2⟩ := r1.tupInv s
      refine ⟨a, vs, rfl, .inr h1, fun p hp => ?_⟩
      obtain ⟨t, r⟩ := new_lst s hp (h2.to0 hn)
      exact q _ _ _ _ t r
    · cases e
  · cases e
def tupleD : List D → Option D
  | [.lst _ xs] => if noOwns xs = true then some (.tup xs) else none
  | [.tup xs] => if noOwns xs = true then some (.tup xs) else none
  | _ => none
theorem vok_tuple : VOk K (fun xs H Q => ∃ p ys, xs = [.ref p] ∧ ((SqL K H p ys ∧ ∀ l, H l = none → Q (.ref l) (upd H l (.tup ys))) ∨ (SqT K H p ys ∧ Q (.ref p) H))) tupleD := by
  intro G H vs ds d s rl e Q q
  unfold tupleD at e
  split at e
  · obtain ⟨v, L, rfl, r1⟩ := rl.one
    split at e
    · rename_i hn
      cases e
      obtain ⟨a, vs, L1, rfl, h1, h2, _⟩ := r1.lstInv s
      refine ⟨a, vs, rfl, .inl ⟨SqL.of h1, fun p hp => ?_⟩⟩
      obtain ⟨G', t, r⟩ := new_tup s hp (h2.to0 hn)
      exact q _ _ _ _ t r
    · cases e
  · obtain ⟨v, L, rfl, r1⟩ := rl.one
    split at e
    · rename_i hn
      cases e
      have e0 := r1.noL (d := .tup _) hn
      subst e0
      obtain ⟨a, vs, rfl, h1, h2⟩ := r1.tupInv s
      exact ⟨a, vs, rfl, .inr ⟨h1, fin0 s r1 q⟩⟩
    · cases e
  · cases e
/-! int(), max, min, abs -/
def intD : List D → Option D
  | [.int i] => some (.int i)
  | [.bl b] => some (.int (if b then 1 else 0))
  | _ => none
theorem vok_int : VOk K (fun xs H Q => (∃ i, xs = [.int i] ∧ Q (.int i) H) ∨ ∃ k, xs = [.bl k] ∧ Q (.int (if k then 1 else 0)) H) intD := by
  intro G H vs ds d s rl e Q q
  unfold intD at e
  split at e
  · obtain ⟨v, L, rfl, r1⟩ := rl.one
    cases e; cases r1
    exact .inl ⟨_, rfl, fin0 s (.int _) q⟩
  · obtain ⟨v, L, rfl, r1⟩ := rl.one
    cases e; cases r1
    exact .inr ⟨_, rfl, fin0 s (.int _) q⟩
  · cases e
def absD : List D → Option D
  | [.int i] => some (.int (if i < 0 then -i else i))
  | _ => none
theorem vok_abs : VOk K (fun xs H Q => ∃ i, xs = [.int i] ∧ Q (.int (if i < 0 then -i else i)) H) absD := by
  intro G H vs ds d s rl e Q q
  unfold absD at e
  split at e
  · obtain ⟨v, L, rfl, r1⟩ := rl.one
    cases e; cases r1
    exact ⟨_, rfl, fin0 s (.int _) q⟩
  · cases e
def max2D : List D → Option D
  | [.int i, .int j] => some (.int (if j > i then j else i))
  | _ => none
def min2D : List D → Option D
  | [.int i, .int j] => some (.int (if j < i then j else i))
  | _ => none
end
end VS
set_option Elab.async false
set_option linter.all false
set_option maxRecDepth 100000
namespace VS
open PySem PySem.Spec PyProof.Rows L2
/-! ### slices -/
def rSlX (K : PySem.W.Frag) : V → Option Int → Option Int → Hp → VK → Prop := fun x lo hi H Q => rSlL K x lo hi H Q ∨ rSlA K x lo hi H Q
theorem sl_x {X : Cx} : SlR X (rSlX X.K) := sl_list.or sl_tupA
def cutD (xs : List D) (lo hi : Option Int) : List D := (xs.drop (HT.sIx xs.length 0 lo)).take (HT.sIx xs.length xs.length hi - HT.sIx xs.length 0 lo)
def cutOf (lo hi : Option Int) : D → Option D
  | .lst _ xs => if noOwns xs = true then some (.lst true (cutD xs lo hi)) else none
  | .tup xs => if noOwns xs = true then some (.tup (cutD xs lo hi)) else none
  | _ => none
/-- the parts of a slice that are written, as operands -/
def partD (wl wh : Bool) : List D → Option D
  | [x] => if wl = false ∧ wh = false then cutOf none none x else none
  | [x, .int i] => if wl = true ∧ wh = false then cutOf (some i) none x else if wl = false ∧ wh = true then cutOf none (some i) x else none
  | [x, .int i, .int j] => if wl = true ∧ wh = true then cutOf (some i) (some j) x else none
  | _ => none
section
variable {K : PySem.W.Frag}
theorem cut_ok {G H : Hp} {x : V} {d d' : D} {L : List Addr} {lo hi : Option Int} {Q : VK} (s : Same G H) (r : Rep K G H x d L) (e : cutOf lo hi d = some d')
    (q : ∀ v G' H' L, Tr G H (fun _ => False) G' H' (fun a => a ∈ L) → Rep K G' H' v d' L → Q v H') : rSlX K x lo hi H Q := by
  cases d with
  | lst o xs =>
    have e' : (if noOwns xs = true then some (D.lst true (cutD xs lo hi)) else none) = some d' := e
    split at e'
    · rename_i hn
      cases e'
      obtain ⟨a, vs, L1, rfl, h1, h2, _⟩ := r.lstInv s
      refine .inl ⟨a, vs, rfl, SqL.of h1, fun p hp => ?_⟩
      have h0 := h2.to0 hn
      have h3 : Reps K G H (cutV vs lo hi) (cutD xs lo hi) [] := by
        unfold cutV cutD
        rw [h0.length]
        exact (h0.drop0 _).take0 _
      obtain ⟨t, rr⟩ := new_lst s hp h3
      exact q _ _ _ _ t rr
    · cases e'
  | tup xs =>
    have e' : (if noOwns xs = true then some (D.tup (cutD xs lo hi)) else none) = some d' := e
    split at e'
    · rename_i hn
      cases e'
      have e0 := r.noL (d := .tup xs) hn
      subst e0
      obtain ⟨a, vs, rfl, h1, h2⟩ := r.tupInv s
      have hl := h2.length
      refine .inr ⟨a, vs, rfl, h1, fun hw => ?_, fun hw p hp => ?_⟩
      · rw [hl] at hw
        have : cutD xs lo hi = xs := by
          unfold cutD
          rw [hw.1, hw.2, List.drop_zero, Nat.sub_zero, List.take_length]
        rw [this] at q
        exact fin0 s r q
      · have h3 : Reps K G H (cutV vs lo hi) (cutD xs lo hi) [] := by
          unfold cutV cutD
          rw [hl]
          exact (h2.drop0 _).take0 _
        obtain ⟨G', t, rr⟩ := new_tup s hp h3
        exact q _ _ _ _ t rr
    · cases e'
  | _ => cases e
theorem vok_slH : VOk K (fun vs H Q => match vs with | [x, y] => ∃ i, y = .int i ∧ rSlX K x none (some i) H Q | _ => False) (partD false true) := by
  intro G H vs ds d s rl e Q q
  unfold partD at e
  split at e
  · rw [if_neg (by simp)] at e; cases e
  · obtain ⟨v, u, L, M, rfl, r1, r2⟩ := rl.two
    rw [if_neg (by simp), if_pos ⟨rfl, rfl⟩] at e
    cases r2
    exact ⟨_, rfl, cut_ok s r1 e q⟩
  · rw [if_neg (by simp)] at e; cases e
  · cases e
end
section
variable {X : Cx} {e a b : Expr} {p2 pos : Pos}
theorem pf_slH {o oa : Op} (h : POf X e o) (ha : POf X a oa) : PEf X (.Subscript e (.Slice none (some a) none p2) pos) (opF (partD false true) [o, oa]) := by
  obtain ⟨te, p1, s1⟩ := h.ex
  obtain ⟨ta, p3, s3⟩ := ha.ex
  exact .mk (pe_slice sl_x p1 po_none (po_some p3)) (simE_op (simA_cons s1 (simA_cons s3 simA_nil)) vok_slH)
end
/-! ### list(range(..)) -/
def rRg : List V → Hp → VK → Prop := fun vs H Q => ∃ (i j c : Int) (n : Nat), (vs = [.int j] ∧ i = 0 ∧ c = 1 ∨ vs = [.int i, .int j] ∧ c = 1 ∨ vs = [.int i, .int j, .int c]) ∧ RgC i j c n ∧ n ≤ 2 ^ 24 ∧ ∀ q, H q = none → Q (.ref q) (upd H q (.lst ((List.range n).map fun k => V.int (i + (k : Nat) * c))))
theorem vals_rgC {a c : Int} {n : Nat} {acc : Array Value} (h : ItemsOf (fun i v => ∃ t, v = .int (a + i * c) t) acc n) : Vals ((List.range n).map fun k => V.int (a + (k : Nat) * c)) acc.toList := by
  have e : acc.toList.length = n := by rw [Array.length_toList]; exact h.1
  rw [← e]
  refine vals_of_get acc.toList _ fun j u hj => ?_
  obtain ⟨t, rfl⟩ := h.2 j u (by rw [← hj, Array.getElem?_toList])
  exact ⟨t, rfl⟩
section
variable {X : Cx} {a b c : Expr} {ta : TA} {p p2 pos pos2 : Pos}
/-- range(..), then list of it -/
theorem list_of_rg {pins : List (Addr × Obj)} {σ : L2.St} {H1 : Hp} {s1 : Shared} {Q : VK} {i j k : Int} {n : Nat} {t u v : Tok} {tk : Nat} (hc : X.calm = true) (I1 : Inv X pins σ H1 s1) (h : RgC i j k n) (hn : n ≤ 2 ^ 24)
    (q : ∀ q, H1 q = none → Q (.ref q) (upd H1 q (.lst ((List.range n).map fun m => V.int (i + (m : Nat) * k))))) :
    wpAny (model X.prog X.w) X.A (call (.type "list") [.ref s1.heap.objs.size]) (EP X pins σ Q) X.xe { s1 with heap := s1.heap.push { cls := .type "range", data := .fields #[.int i t, .int j u, .int k v] }, toks := tk } := by
  obtain ⟨c0, c1, c2, c3⟩ := h
  have I2 : Inv X pins σ H1 { s1 with heap := s1.heap.push { cls := .type "range", data := .fields #[.int i t, .int j u, .int k v] }, toks := tk } := I1.kept (t' := tk) fun b o e => Heap.get?_push_of_some _ e
  refine call_list_range (n := n) (I2.ok.hd hc) (IsRange.new _ _ _ _ _ _ _) c2 c3 hn fun h' tk' acc c' hk e' hi => ?_
  refine ⟨.ref _, upd H1 _ (.lst ((List.range n).map fun m => V.int (i + (m : Nat) * k))), I2.laid hk (Nat.le_refl _) (show ObjOk X.prog X.w _ _ _ (.lst _) from ⟨?_, acc.toList, c', vals_rgC hi, ?_⟩), rfl, q _ (I2.hok.fresh (Nat.le_refl _))⟩
  · rw [List.length_map, List.length_range, sizeLine_eq]; omega
  · rw [Array.toArray_toList]; exact e'
theorem pe_lrg1 (hc : X.calm = true) (hgl : Gl X "list") (hml : X.mg "list" = none) (hg : Gl X "range") (hm : X.mg "range" = none) (ha : PA X [a] ta) (hs : starEach [a] X.env = [(false, eval a X.env)] := by rfl)
    (hs2 : starEach [Expr.Call (.Name "range" p) [a] [] pos] X.env = [(false, eval (Expr.Call (.Name "range" p) [a] [] pos) X.env)] := by rfl) :
    PE X (.Call (.Name "list" p2) [.Call (.Name "range" p) [a] [] pos] [] pos2) (fun σ H Q => ta σ H fun vs H1 => vs.length = 1 ∧ rRg vs H1 Q) := by
  refine ⟨fun pins s σ H Q I h => ?_⟩
  refine Call_ (ld_blt I hgl hml boot_list (PyProof.Rows.callWith_type1 (args_cons ?_ hs2) hs2))
  refine Call_ (ld_blt I hg hm boot_range (PyProof.Rows.callWith_type1 (thn (ha.run pos pins s σ H _ I h) fun us s1 ⟨vs, H1, I1, r1, q1⟩ => ?_) hs rfl))
  obtain ⟨hl, i, j, k, n, hv, hr, hn, q⟩ := q1
  rcases hv with ⟨e, rfl, rfl⟩ | ⟨e, _⟩ | e
  · subst e
    cases r1 with
    | cons r rr =>
      cases rr
      obtain ⟨t, rfl⟩ := r
      exact call_range_1 (args_nil (list_of_rg hc I1 hr hn q))
  · subst e; cases hl
  · subst e; cases hl
theorem pe_lrg2 (hc : X.calm = true) (hgl : Gl X "list") (hml : X.mg "list" = none) (hg : Gl X "range") (hm : X.mg "range" = none) (ha : PA X [a, b] ta) (hs : starEach [a, b] X.env = [(false, eval a X.env), (false, eval b X.env)] := by rfl) (hs3 : starEach [b] X.env = [(false, eval b X.env)] := by rfl)
    (hs2 : starEach [Expr.Call (.Name "range" p) [a, b] [] pos] X.env = [(false, eval (Expr.Call (.Name "range" p) [a, b] [] pos) X.env)] := by rfl) :
    PE X (.Call (.Name "list" p2) [.Call (.Name "range" p) [a, b] [] pos] [] pos2) (fun σ H Q => ta σ H fun vs H1 => vs.length = 2 ∧ rRg vs H1 Q) := by
  refine ⟨fun pins s σ H Q I h => ?_⟩
  refine Call_ (ld_blt I hgl hml boot_list (PyProof.Rows.callWith_type1 (args_cons ?_ hs2) hs2))
  refine Call_ (ld_blt I hg hm boot_range (PyProof.Rows.callWith_type1 (thn (ha.run pos pins s σ H _ I h) fun us s1 ⟨vs, H1, I1, r1, q1⟩ => ?_) (by rw [hs, hs3]) (by rw [hs3]; rfl)))
  obtain ⟨hl, i, j, k, n, hv, hr, hn, q⟩ := q1
  rcases hv with ⟨e, rfl, rfl⟩ | ⟨e, rfl⟩ | e
  · subst e; cases hl
  · subst e
    cases r1 with
    | cons r rr =>
      cases rr with
      | cons r' rr =>
        cases rr
        obtain ⟨t, rfl⟩ := r
        obtain ⟨t', rfl⟩ := r'
        exact call_range_2 (args_nil (list_of_rg hc I1 hr hn q))
  · subst e; cases hl
theorem pe_lrg3 (hc : X.calm = true) (hgl : Gl X "list") (hml : X.mg "list" = none) (hg : Gl X "range") (hm : X.mg "range" = none) (ha : PA X [a, b, c] ta) (hs : starEach [a, b, c] X.env = (false, eval a X.env) :: starEach [b, c] X.env := by rfl) (hpl : (backTo pos (starEach [b, c] X.env)).any (·.1) = false := by rfl)
    (hs2 : starEach [Expr.Call (.Name "range" p) [a, b, c] [] pos] X.env = [(false, eval (Expr.Call (.Name "range" p) [a, b, c] [] pos) X.env)] := by rfl) :
    PE X (.Call (.Name "list" p2) [.Call (.Name "range" p) [a, b, c] [] pos] [] pos2) (fun σ H Q => ta σ H fun vs H1 => vs.length = 3 ∧ rRg vs H1 Q) := by
  refine ⟨fun pins s σ H Q I h => ?_⟩
  refine Call_ (ld_blt I hgl hml boot_list (PyProof.Rows.callWith_type1 (args_cons ?_ hs2) hs2))
  refine Call_ (ld_blt I hg hm boot_range (PyProof.Rows.callWith_type1 (thn (ha.run pos pins s σ H _ I h) fun us s1 ⟨vs, H1, I1, r1, q1⟩ => ?_) hs hpl))
  obtain ⟨hl, i, j, k, n, hv, hr, hn, q⟩ := q1
  rcases hv with ⟨e, rfl, rfl⟩ | ⟨e, rfl⟩ | e
  · subst e; cases hl
  · subst e; cases hl
  · subst e
    cases r1 with
    | cons r rr =>
      cases rr with
      | cons r' rr =>
        cases rr with
        | cons r'' rr =>
          cases rr
          obtain ⟨t, rfl⟩ := r
          obtain ⟨t', rfl⟩ := r'
          obtain ⟨t'', rfl⟩ := r''
          exact call_range_3 hr.1 (args_nil (list_of_rg hc I1 hr hn q)) (.inl (PyProof.noPylong_small hr.2.1))
end
def lrgD (rd : List D → Option (List D)) : List D → Option D := fun ds => (rd ds).bind fun xs => if xs.length ≤ smallL then some (.lst true xs) else none
section
variable {K : PySem.W.Frag}
theorem reps_by {G H : Hp} (lo c : Int) (n : Nat) : Reps K G H ((List.range n).map fun k => V.int (lo + (k : Nat) * c)) (intsBy lo c n) [] := by
  unfold intsBy
  have : ∀ l : List Nat, Reps K G H (l.map fun k => V.int (lo + (k : Nat) * c)) (l.map fun i => D.int (lo + (i : Nat) * c)) [] := fun l => by
    induction l with
    | nil => exact .nil
    | cons x l ih => exact Reps.cons (.int _) ih fun a z => nomatch z
  exact this _
theorem intsBy_len (lo c : Int) (n : Nat) : (intsBy lo c n).length = n := by unfold intsBy; rw [List.length_map, List.length_range]
theorem intsTo_by (lo : Int) (n : Nat) : intsTo lo n = intsBy lo 1 n := by
  unfold intsTo intsBy
  congr 1
  funext i
  rw [Int.mul_one]
theorem lrg_fin {G H : Hp} {Q : VK} {d : D} {vs : List V} {i j c : Int} {n : Nat} (s : Same G H) (hv : vs = [.int j] ∧ i = 0 ∧ c = 1 ∨ vs = [.int i, .int j] ∧ c = 1 ∨ vs = [.int i, .int j, .int c]) (hr : RgC i j c n)
    (e : (if (intsBy i c n).length ≤ smallL then some (D.lst true (intsBy i c n)) else none) = some d) (q : ∀ v G' H' L, Tr G H (fun _ => False) G' H' (fun a => a ∈ L) → Rep K G' H' v d L → Q v H') : rRg vs H Q := by
  split at e
  · rename_i hz
    cases e
    rw [intsBy_len] at hz
    refine ⟨i, j, c, n, hv, hr, Nat.le_trans hz (by decide), fun p hp => ?_⟩
    obtain ⟨t, r⟩ := new_lst s hp (reps_by (K := K) (G := G) (H := H) i c n)
    exact q _ _ _ _ t r
  · cases e
theorem rgC_one {i j : Int} (h1 : -4611686018427387904 ≤ i) (h2 : i < 4611686018427387904) (h3 : -4611686018427387904 ≤ j) (h4 : j < 4611686018427387904) : RgC i j 1 (j - i).toNat :=
  ⟨by decide, by decide, small_one (by omega) (by omega) (by omega) (by omega), rangeSize_nat i j⟩
theorem vok_lrg1 : VOk K (fun vs H Q => vs.length = 1 ∧ rRg vs H Q) (lrgD rng1D) := by
  intro G H vs ds d s rl e Q q
  unfold lrgD rng1D at e
  split at e
  · obtain ⟨v, L, rfl, r1⟩ := rl.one
    cases r1
    split at e
    · rename_i hb
      have e' : (if (intsTo 0 _).length ≤ smallL then some (D.lst true (intsTo 0 _)) else none) = some d := e
      rw [intsTo_by] at e'
      refine ⟨rfl, lrg_fin s (.inl ⟨rfl, rfl, rfl⟩) ?_ e' q⟩
      have := rgC_one (i := 0) (by omega) (by omega) hb.1 hb.2
      rw [Int.sub_zero] at this
      exact this
    · cases e
  · cases e
theorem vok_lrg2 : VOk K (fun vs H Q => vs.length = 2 ∧ rRg vs H Q) (lrgD rng2D) := by
  intro G H vs ds d s rl e Q q
  unfold lrgD rng2D at e
  split at e
  · obtain ⟨v, u, L, M, rfl, r1, r2⟩ := rl.two
    cases r1; cases r2
    split at e
    · rename_i hb
      have e' : (if (intsTo _ _).length ≤ smallL then some (D.lst true (intsTo _ _)) else none) = some d := e
      rw [intsTo_by] at e'
      exact ⟨rfl, lrg_fin s (.inr (.inl ⟨rfl, rfl⟩)) (rgC_one hb.1 hb.2.1 hb.2.2.1 hb.2.2.2) e' q⟩
    · cases e
  · cases e
theorem vok_lrg3 : VOk K (fun vs H Q => vs.length = 3 ∧ rRg vs H Q) (lrgD rng3D) := by
  intro G H vs ds d s rl e Q q
  unfold lrgD rng3D at e
  split at e
  · cases rl with
    | cons r0 rl =>
      obtain ⟨v, u, L, M, rfl, r1, r2⟩ := rl.two
      cases r0; cases r1; cases r2
      split at e
      · rename_i hb
        obtain ⟨rfl, b1, b2, b3, b4⟩ := hb
        exact ⟨rfl, lrg_fin s (.inr (.inr rfl)) (RgC.neg (by omega) (by omega) (by omega) (by omega)) e q⟩
      · split at e
        · rename_i hb
          obtain ⟨b0, b1, b2, b3, b4, b5⟩ := hb
          exact ⟨rfl, lrg_fin s (.inr (.inr rfl)) (rgC_pos b0 b1 b2 b3 b4 b5) e q⟩
        · cases e
  · cases e
end
section
variable {X : Cx} {a b c : Expr} {p p2 pos pos2 : Pos} {ops : List Op}
theorem pf_lrg1 (hc : X.calm = true) (hgl : Gl X "list") (hml : X.mg "list" = none) (hg : Gl X "range") (hm : X.mg "range" = none) (ha : PAf X [a] ops) (hs : starEach [a] X.env = [(false, eval a X.env)] := by rfl)
    (hs2 : starEach [Expr.Call (.Name "range" p) [a] [] pos] X.env = [(false, eval (Expr.Call (.Name "range" p) [a] [] pos) X.env)] := by rfl) : PEf X (.Call (.Name "list" p2) [.Call (.Name "range" p) [a] [] pos] [] pos2) (opF (lrgD rng1D) ops) := .mk (pe_lrg1 hc hgl hml hg hm ha hs hs2) (simE_op (simA_of _) vok_lrg1)
theorem pf_lrg2 (hc : X.calm = true) (hgl : Gl X "list") (hml : X.mg "list" = none) (hg : Gl X "range") (hm : X.mg "range" = none) (ha : PAf X [a, b] ops) (hs : starEach [a, b] X.env = [(false, eval a X.env), (false, eval b X.env)] := by rfl) (hs3 : starEach [b] X.env = [(false, eval b X.env)] := by rfl)
    (hs2 : starEach [Expr.Call (.Name "range" p) [a, b] [] pos] X.env = [(false, eval (Expr.Call (.Name "range" p) [a, b] [] pos) X.env)] := by rfl) : PEf X (.Call (.Name "list" p2) [.Call (.Name "range" p) [a, b] [] pos] [] pos2) (opF (lrgD rng2D) ops) := .mk (pe_lrg2 hc hgl hml hg hm ha hs hs3 hs2) (simE_op (simA_of _) vok_lrg2)
theorem pf_lrg3 (hc : X.calm = true) (hgl : Gl X "list") (hml : X.mg "list" = none) (hg : Gl X "range") (hm : X.mg "range" = none) (ha : PAf X [a, b, c] ops) (hs : starEach [a, b, c] X.env = (false, eval a X.env) :: starEach [b, c] X.env := by rfl) (hpl : (backTo pos (starEach [b, c] X.env)).any (·.1) = false := by rfl)
    (hs2 : starEach [Expr.Call (.Name "range" p) [a, b, c] [] pos] X.env = [(false, eval (Expr.Call (.Name "range" p) [a, b, c] [] pos) X.env)] := by rfl) : PEf X (.Call (.Name "list" p2) [.Call (.Name "range" p) [a, b, c] [] pos] [] pos2) (opF (lrgD rng3D) ops) := .mk (pe_lrg3 hc hgl hml hg hm ha hs hpl hs2) (simE_op (simA_of _) vok_lrg3)
end
end VS
set_option Elab.async false
set_option linter.all false
set_option maxRecDepth 100000
namespace VS
open PySem PySem.Spec PyProof.Rows L2
/-! ### methods of lists -/
def appD : List D → List D → Option (D × List D) := fun xs ds => match ds with
  | [d] => if xs.length < smallL then some (.non, xs ++ [d]) else none
  | _ => none
def popD : List D → List D → Option (D × List D) := fun xs ds => match ds with
  | [] => (xs[xs.length - 1]?).bind fun d => some (d, xs.eraseIdx (xs.length - 1))
  | _ => none
def popAtD : List D → List D → Option (D × List D) := fun xs ds => match ds with
  | [.int i] => if -1000000000 ≤ i ∧ i < 1000000000 then (ixN xs.length i).bind fun k => (xs[k]?).bind fun d => some (d, xs.eraseIdx k) else none
  | _ => none
def insD : List D → List D → Option (D × List D) := fun xs ds => match ds with
  | [.int i, d] => if 0 ≤ i ∧ i < 1000000 ∧ noOwns xs = true ∧ noOwn d = true ∧ xs.length < smallL then some (.non, xs.take i.toNat ++ [d] ++ xs.drop i.toNat) else none
  | _ => none
def revD : List D → List D → Option (D × List D) := fun xs ds => match ds with
  | [] => if noOwns xs = true then some (.non, xs.reverse) else none
  | _ => none
section
variable {K : PySem.W.Frag} {G H : Hp}
theorem Reps.erase : ∀ {vs : List V} {xs : List D} {L : List Addr} {k : Nat} {d : D}, Reps K G H vs xs L → xs[k]? = some d → ∃ v M N, vs[k]? = some v ∧ Rep K G H v d M ∧ Reps K G H (vs.eraseIdx k) (xs.eraseIdx k) N ∧ (∀ a ∈ M, a ∈ L) ∧ (∀ a ∈ N, a ∈ L) ∧ (∀ a ∈ N, a ∉ M)
  | _, _, _, k, d, .nil, e => by simp at e
  | _, _, _, 0, d, .cons (L := L) (M := M) h r n, e => by
    simp at e; subst e
    exact ⟨_, L, M, rfl, h, r, fun a ha => List.mem_append_left _ ha, fun a ha => List.mem_append_right _ ha, fun a ha hm => n a hm ha⟩
  | _, _, _, k + 1, d, .cons (v := v0) (L := L) (M := M) h r n, e => by
    obtain ⟨v, M1, N1, h1, h2, h3, h4, h5, h6⟩ := r.erase (k := k) (by simpa using e)
    refine ⟨v, M1, L ++ N1, by simpa using h1, h2, .cons h h3 fun a ha hm => n a ha (h5 a hm), fun a ha => List.mem_append_right _ (h4 a ha), fun a ha => ?_, fun a ha => ?_⟩
    · rcases List.mem_append.mp ha with z | z
      · exact List.mem_append_left _ z
      · exact List.mem_append_right _ (h5 a z)
    · rcases List.mem_append.mp ha with z | z
      · exact fun hm => n a z (h4 a hm)
      · exact h6 a z
theorem eraseIdx_last {α : Type} : ∀ xs : List α, xs.eraseIdx (xs.length - 1) = xs.dropLast
  | [] => rfl
  | [x] => rfl
  | x :: y :: r => by
    have ih := eraseIdx_last (y :: r)
    show x :: (y :: r).eraseIdx (r.length) = x :: (y :: r).dropLast
    rw [← ih]
    rfl
end
section
variable {K : PySem.W.Frag}
theorem mok_app : MOk K rAppend appD := by
  intro G H a vs us xs ds L M d xs' s hG hH hr hrs nLM e Q q
  unfold appD at e
  split at e
  · rename_i d0
    split at e
    · rename_i hz
      cases e
      cases hrs with
      | cons hv rr nn =>
        cases rr
        rename_i v L1
        rw [List.append_nil] at nLM q
        refine ⟨a, vs, v, rfl, rfl, hH, ?_, q .non (vs ++ [v]) (L ++ L1) [] (hr.snoc hv nLM) .non (fun b hb => List.mem_append.mp hb) (fun b hb => (by cases hb)) (fun b _ hb => (by cases hb))⟩
        rw [hr.length]
        exact Nat.lt_of_lt_of_le hz (by decide)
    · cases e
  · cases e
theorem mok_pop : MOk K rPop popD := by
  intro G H a vs us xs ds L M d xs' s hG hH hr hrs nLM e Q q
  unfold popD at e
  split at e
  · cases hx : xs[xs.length - 1]? with
    | none => rw [hx] at e; cases e
    | some d0 =>
      rw [hx] at e; cases e
      cases hrs
      obtain ⟨v, M1, N1, h1, h2, h3, h4, h5, h6⟩ := hr.erase hx
      have hl := hr.length
      rw [← hl] at h1 h3
      refine ⟨a, vs, v, rfl, rfl, hH, h1, ?_⟩
      rw [← eraseIdx_last]
      rw [hl] at h3 ⊢
      exact q v _ N1 M1 h3 h2 (fun b hb => .inl (h5 b hb)) (fun b hb => .inl (h4 b hb)) h6
  · cases e
theorem mok_popAt : MOk K rPopAt popAtD := by
  intro G H a vs us xs ds L M d xs' s hG hH hr hrs nLM e Q q
  unfold popAtD at e
  split at e
  · rename_i i
    split at e
    · rename_i hb
      cases hk : ixN xs.length i with
      | none => rw [hk] at e; cases e
      | some k =>
        rw [hk] at e
        have e1 : (xs[k]?).bind (fun d => some (d, xs.eraseIdx k)) = some (d, xs') := e
        cases hx : xs[k]? with
        | none => rw [hx] at e1; cases e1
        | some d0 =>
          rw [hx] at e1; cases e1
          cases hrs with
          | cons hv rr nn =>
            cases rr; cases hv
            obtain ⟨v, M1, N1, h1, h2, h3, h4, h5, h6⟩ := hr.erase hx
            have hl := hr.length
            obtain ⟨q1, q2, q3, q4⟩ := ixN_seq hk
            rw [← hl] at q1
            exact ⟨a, vs, i, k, v, rfl, rfl, hH, by omega, by omega, q1, h1, q v _ N1 M1 h3 h2 (fun b hb => .inl (h5 b hb)) (fun b hb => .inl (h4 b hb)) h6⟩
    · cases e
  · cases e
theorem mok_ins : MOk K (fun x vs H Q => ∃ (l : Addr) (xs : List V) (i : Int) (y : V), x = .ref l ∧ vs = [.int i, y] ∧ H l = some (.lst xs) ∧ xs.length < sizeLine ∧ 0 ≤ i ∧ i < 2 ^ 63 ∧
    Q .non (upd H l (.lst (xs.take i.toNat ++ [y] ++ xs.drop i.toNat)))) insD := by
  intro G H a vs us xs ds L M d xs' s hG hH hr hrs nLM e Q q
  unfold insD at e
  split at e
  · rename_i i d0
    split at e
    · rename_i hz
      cases e
      obtain ⟨z1, z2, z3, z4, z5⟩ := hz
      cases hrs with
      | cons hv rr nn =>
        cases hv
        cases rr with
        | @cons v dd L1 M1 vs1 ds1 hv rr nn =>
          cases rr
          have e1 := hv.noL z4
          subst e1
          have h0 := hr.to0 z3
          refine ⟨a, vs, i, v, rfl, rfl, hH, by rw [hr.length]; exact Nat.lt_of_lt_of_le z5 (by decide), z1, by omega, q .non _ [] [] (((h0.take0 _).append0 (Reps.cons0 hv .nil)).append0 (h0.drop0 _)) .non (fun b hb => (by cases hb)) (fun b hb => (by cases hb)) (fun b _ hb => (by cases hb))⟩
    · cases e
  · cases e
end
section
variable {X : Cx} {o e : Expr} {es : List Expr} {i : Nat} {ops : List Op} {o1 : Op} {apos cpos : Pos}
theorem pf_append (ho : PE X o (tVar i)) (ha : PAf X (e :: es) ops) (hbase : attributeBase o "append" X.env (eval o X.env) = eval o X.env := by rfl)
    (hfew : ((backTo cpos (starEach (e :: es) X.env)).all (fun x => !x.1) && (backToKw cpos (keywordEach [] X.env)).all (fun x => x.1.isSome)
      && decide ((e :: es).length + ([] : List Keyword).length + (if ([] : List Keyword).isEmpty then 0 else 1) < 30)) = true := by rfl)
    (hline : (apos.endLine == cpos.line) = true := by rfl) (hs : starEach (e :: es) X.env = (false, eval e X.env) :: starEach es X.env := by rfl) (hplain : (backTo cpos (starEach es X.env)).any (·.1) = false := by rfl) :
    PEf X (.Call (.Attribute o "append" apos) (e :: es) [] cpos) (mutF i appD ops) :=
  .mk (pe_bm PySem.F.plainAttrs_list PySem.F.slot_list_append PySem.F.type_list_append mt_append ho ha hbase hfew hline hs hplain) (simE_mut rfl (simA_of ops) mok_app)
theorem pf_popAt (ho : PE X o (tVar i)) (ha : PAf X (e :: es) ops) (hbase : attributeBase o "pop" X.env (eval o X.env) = eval o X.env := by rfl)
    (hfew : ((backTo cpos (starEach (e :: es) X.env)).all (fun x => !x.1) && (backToKw cpos (keywordEach [] X.env)).all (fun x => x.1.isSome)
      && decide ((e :: es).length + ([] : List Keyword).length + (if ([] : List Keyword).isEmpty then 0 else 1) < 30)) = true := by rfl)
    (hline : (apos.endLine == cpos.line) = true := by rfl) (hs : starEach (e :: es) X.env = (false, eval e X.env) :: starEach es X.env := by rfl) (hplain : (backTo cpos (starEach es X.env)).any (·.1) = false := by rfl) :
    PEf X (.Call (.Attribute o "pop" apos) (e :: es) [] cpos) (mutF i popAtD ops) :=
  .mk (pe_bm PySem.F.plainAttrs_list PySem.F.slot_list_pop PySem.F.type_list_pop mt_popAt ho ha hbase hfew hline hs hplain) (simE_mut rfl (simA_of ops) mok_popAt)
theorem pf_insert (ho : PE X o (tVar i)) (ha : PAf X (e :: es) ops) (hbase : attributeBase o "insert" X.env (eval o X.env) = eval o X.env := by rfl)
    (hfew : ((backTo cpos (starEach (e :: es) X.env)).all (fun x => !x.1) && (backToKw cpos (keywordEach [] X.env)).all (fun x => x.1.isSome)
      && decide ((e :: es).length + ([] : List Keyword).length + (if ([] : List Keyword).isEmpty then 0 else 1) < 30)) = true := by rfl)
    (hline : (apos.endLine == cpos.line) = true := by rfl) (hs : starEach (e :: es) X.env = (false, eval e X.env) :: starEach es X.env := by rfl) (hplain : (backTo cpos (starEach es X.env)).any (·.1) = false := by rfl) :
    PEf X (.Call (.Attribute o "insert" apos) (e :: es) [] cpos) (mutF i insD ops) :=
  .mk (pe_bm PySem.F.plainAttrs_list PySem.F.slot_list_insert PySem.F.type_list_insert mt_insert ho ha hbase hfew hline hs hplain) (simE_mut rfl (simA_of ops) mok_ins)
theorem bm0_bm {K : PySem.W.Frag} {T : String} {r : V → List V → Hp → VK → Prop} {to : TE} : tBM0 K T r to = tBM K T r to tNil := rfl
theorem pf_pop (ho : PE X o (tVar i)) (hbase : attributeBase o "pop" X.env (eval o X.env) = eval o X.env := by rfl) (hline : (apos.endLine == cpos.line) = true := by rfl) : PEf X (.Call (.Attribute o "pop" apos) [] [] cpos) (mutF i popD []) :=
  .mk (pe_bm0 PySem.F.plainAttrs_list PySem.F.slot_list_pop PySem.F.type_list_pop mt_pop ho hbase hline) (bm0_bm ▸ simE_mut rfl simA_nil mok_pop)
end
/-! ### isinstance of built-in types -/
def tyName : D → Option String
  | .non => some "NoneType"
  | .bl _ => some "bool"
  | .int _ => some "int"
  | .str _ => some "str"
  | .tup _ => some "tuple"
  | .lst _ _ => some "list"
  | .scr _ => some "list"
  | .ty _ => none
  | .exc _ _ => none
  | .dct _ _ => none
def anyB (t : String) : List String → Option Bool
  | [] => some false
  | n :: ns => match kitB t n with
    | some true => some true
    | some false => anyB t ns
    | none => none
def isiD (n : String) : List D → Option D
  | [d] => (tyName d).bind fun t => (kitB t n).bind fun b => some (.bl b)
  | _ => none
def isiTD (ns : List String) : List D → Option D
  | [d] => if ns.length ≤ smallL then (tyName d).bind fun t => (anyB t ns).bind fun b => some (.bl b) else none
  | _ => none
section
variable {K : PySem.W.Frag} {G H : Hp}
theorem Rep.tyx {v : V} {d : D} {L : List Addr} {t : String} (s : Same G H) (r : Rep K G H v d L) (h : tyName d = some t) : TyX K H v (.type t) := by
  cases r with
  | non => cases h; exact .base .non
  | bl b => cases h; exact .base (.bl b)
  | int i => cases h; exact .base (.int i)
  | str x => cases h; exact .base (.str x)
  | ty n => cases h
  | exc _ _ _ _ => cases h
  | dctS _ => cases h
  | dctO _ _ => cases h
  | scr q =>
    cases h
    rcases Same.seq s q with (q | ⟨o, q⟩) | ⟨o, its, n, hk, hc, _⟩
    · exact .base (.lst q)
    · exact .base (.frz q)
    · exact .kList hk hc
  | tup q r =>
    cases h
    rcases Same.seqT s q with (q | ⟨o, q⟩) | ⟨o, its, n, hk, hc, _⟩
    · exact .base (.tup q)
    · exact .fTuple q
    · exact .kTuple hk hc
  | lstS q r e => cases h; exact .base (.lst (s _ _ q))
  | lstO _ q _ r => cases h; exact .base (.lst q)
theorem vok_isi {n : String} : VOk K (fun vs H Q => match vs with | [x] => rIsi K [x, .ty n] H Q | _ => False) (isiD n) := by
  intro G H vs ds d s rl e Q q
  unfold isiD at e
  split at e
  · rename_i d0
    obtain ⟨v, L, rfl, r1⟩ := rl.one
    cases ht : tyName d0 with
    | none => rw [ht] at e; cases e
    | some t =>
      rw [ht] at e
      have e1 : (kitB t n).bind (fun b => some (D.bl b)) = some d := e
      cases hb : kitB t n with
      | none => rw [hb] at e1; cases e1
      | some b =>
        rw [hb] at e1; cases e1
        exact ⟨v, .ty n, .type t, .type n, b, rfl, .ty n, r1.tyx s ht, kit_ty hb, fin0 s (.bl _) q⟩
  · cases e
theorem kitAny_of {t : String} : ∀ {ns : List String} {b : Bool}, anyB t ns = some b → PySem.W.kitAny K (.type t) (ns.map Value.type) = some b
  | [], b, h => by cases h; exact kitAny_nil
  | n :: ns, b, h => by
    unfold anyB at h
    split at h
    · rename_i hk
      cases h
      exact kitAny_cons (kit_ty hk) (fun z => nomatch z) (fun _ => rfl)
    · rename_i hk
      exact kitAny_cons (kit_ty hk) (fun _ => kitAny_of h) (fun z => nomatch z)
    · cases h
theorem clsVs : ∀ ns : List String, Paired ClsV (ns.map V.ty) (ns.map Value.type)
  | [] => .nil
  | n :: ns => .cons (.ty n) (clsVs ns)
theorem vok_isiT {ns : List String} : VOk K (fun vs H Q => match vs with | [x] => (ns.map V.ty).length ≤ sizeLine ∧ ∀ p, H p = none → rIsiT K [x, .ref p] (upd H p (.tup (ns.map V.ty))) Q | _ => False) (isiTD ns) := by
  intro G H vs ds d s rl e Q q
  unfold isiTD at e
  split at e
  · rename_i d0
    obtain ⟨v, L, rfl, r1⟩ := rl.one
    split at e
    · rename_i hz
      cases ht : tyName d0 with
      | none => rw [ht] at e; cases e
      | some t =>
        rw [ht] at e
        have e1 : (anyB t ns).bind (fun b => some (D.bl b)) = some d := e
        cases hb : anyB t ns with
        | none => rw [hb] at e1; cases e1
        | some b =>
          rw [hb] at e1; cases e1
          refine ⟨by rw [List.length_map]; exact small_line hz, fun p hp => ?_⟩
          have t1 := Tr.newG (A := fun _ => False) (o := .tup (ns.map V.ty)) s hp
          exact ⟨v, p, _, .type t, _, b, rfl, upd_same, clsVs ns, (r1.tr t1 (fun _ _ z => z)).tyx t1.sub ht, kitAny_of hb, q _ _ _ [] (t1.post fun a z => (by cases z)) (.bl _)⟩
    · cases e
  · cases e
end
section
variable {X : Cx} {e : Expr} {p p2 p3 p4 pos : Pos} {k : Nat}
theorem pe_tyn {x : Str} {n : String} (hg : Gl X x) (hm : X.mg x = none) (hv : bootBuiltins x = some (.type n)) (hn : x ≠ "__name__" := by decide) (hd : (x == ("__debug__" : Str)) = false := by decide) : PE X (.Name x p) (tC (.ty n)) := pe_bltn hg hm hv rfl hn hd
theorem pf_isi {x : Str} {n : String} {o : Op} (hgi : Gl X "isinstance") (hmi : X.mg "isinstance" = none) (h : POf X e o) (ht : PE X (.Name x p2) (tC (.ty n)))
    (hs : starEach [e, Expr.Name x p2] X.env = (false, eval e X.env) :: starEach [Expr.Name x p2] X.env := by rfl) (hs2 : starEach [Expr.Name x p2] X.env = (false, eval (Expr.Name x p2) X.env) :: starEach [] X.env := by rfl) (hpl : (backTo pos (starEach [Expr.Name x p2] X.env)).any (·.1) = false := by rfl) :
    PEf X (.Call (.Name "isinstance" p) [e, .Name x p2] [] pos) (opF (isiD n) [o]) := by
  obtain ⟨te, p1, s1⟩ := h.ex
  refine PEf.mk (pe_callB call_isi hgi hmi boot_isinstance (pa_cons p1 (pa_cons ht pa_nil hs2) hs) (by decide) (by decide) hs hpl) ?_
  exact simE_op (ta := tCons te tNil) (r := fun vs H Q => match vs with | [x] => rIsi X.K [x, .ty n] H Q | _ => False) (simA_cons s1 simA_nil) vok_isi
theorem pf_isiT2 {x y : Str} {n m : String} {o : Op} (hgi : Gl X "isinstance") (hmi : X.mg "isinstance" = none) (h : POf X e o) (ht : PE X (.Name x p2) (tC (.ty n))) (ht2 : PE X (.Name y p3) (tC (.ty m)))
    (hs : starEach [e, Expr.Tuple [.Name x p2, .Name y p3] k p4] X.env = (false, eval e X.env) :: starEach [Expr.Tuple [.Name x p2, .Name y p3] k p4] X.env := by rfl) (hs2 : starEach [Expr.Tuple [.Name x p2, .Name y p3] k p4] X.env = (false, eval (Expr.Tuple [.Name x p2, .Name y p3] k p4) X.env) :: starEach [] X.env := by rfl) (hpl : (backTo pos (starEach [Expr.Tuple [.Name x p2, .Name y p3] k p4] X.env)).any (·.1) = false := by rfl) :
    PEf X (.Call (.Name "isinstance" p) [e, .Tuple [.Name x p2, .Name y p3] k p4] [] pos) (opF (isiTD [n, m]) [o]) := by
  obtain ⟨te, p1, s1⟩ := h.ex
  refine PEf.mk (pe_callB call_isiT hgi hmi boot_isinstance (pa_cons p1 (pa_cons (pe_tup (pa_cons ht (pa_cons ht2 pa_nil))) pa_nil hs2) hs) (by decide) (by decide) hs hpl) ?_
  exact simE_op (ta := tCons te tNil) (r := fun vs H Q => match vs with | [x] => ([n, m].map V.ty).length ≤ sizeLine ∧ ∀ p, H p = none → rIsiT X.K [x, .ref p] (upd H p (.tup ([n, m].map V.ty))) Q | _ => False) (simA_cons s1 simA_nil) vok_isiT
end
end VS
set_option Elab.async false
set_option linter.all false
set_option maxRecDepth 100000
namespace VS
open PySem PySem.Spec PyProof.Rows L2 RZ
def pairD : D → D → Option (List D × List D)
  | .lst _ xs, .lst _ ys => some (freezes xs, freezes ys)
  | .tup xs, .tup ys => some (freezes xs, freezes ys)
  | _, _ => none
def itZip (f g : FE) : FI := fun ρ => (f ρ).bind fun p => (g p.2).bind fun q => (pairD p.1 q.1).bind fun r => some ((r.1.zip r.2).map fun u => .tup [u.1, u.2], q.2)
section
variable {K : PySem.W.Frag}
end
section
variable {X : Cx} {e e2 : Expr} {p pos tpos : Pos} {elts : List Expr} {kk : Nat}
end
/-- an int, or nothing -/
def asInt (f : FE) : FE := fun ρ => (f ρ).bind fun p => match p.1 with
  | .int i => some (.int i, p.2)
  | _ => none
section
variable {K : PySem.W.Frag}
end
section
variable {X : Cx} {e a b : Expr} {p2 pos : Pos}
end
end VS
set_option Elab.async false
set_option linter.all false
set_option maxRecDepth 100000
namespace VS
open PySem PySem.Spec PyProof.Rows L2 RZ
/-! ### a, b = x, y of plain local names -/
def setAll : List Nat → List D → Env → Env
  | i :: is, d :: ds, ρ => setAll is ds (ρ.set i (some d))
  | _, _, ρ => ρ
def setAllV : List Nat → List V → L2.St → L2.St
  | i :: is, v :: vs, σ => setAllV is vs (σ.set i (some v))
  | _, _, σ => σ
def parF (is : List Nat) (ops : List Op) : FS := fun ρ => (evOps ops ρ).bind fun p => (takeN ops p.1 p.2).bind fun ds => if ds.length = is.length then some (.nx (setAll is ds p.2)) else none
section
variable {K : PySem.W.Frag} {pn : Nat → Bool} {W : WX}
theorem setAll_ok {G H : Hp} : ∀ {is : List Nat} {vs : List V} {ds : List D} {M : List Addr} {σ : L2.St} {ρ : Env} {F : Nat → List Addr}, (∀ i ∈ is, pn i = false) → REnv K G H σ ρ F → Reps K G H vs ds M → (∀ a ∈ M, ¬ own F a) →
    ∃ F', REnv K G H (setAllV is vs σ) (setAll is ds ρ) F' ∧ (∀ a, own F' a → own F a ∨ a ∈ M) ∧ Pin pn σ (setAllV is vs σ)
  | [], vs, ds, M, σ, ρ, F, hp, r, h, n => ⟨F, r, fun a h => .inl h, Pin.refl⟩
  | i :: is, [], ds, M, σ, ρ, F, hp, r, h, n => by
    cases h
    exact ⟨F, r, fun a h => .inl h, Pin.refl⟩
  | i :: is, v :: vs, [], M, σ, ρ, F, hp, r, h, n => by cases h
  | i :: is, v :: vs, d :: ds, _, σ, ρ, F, hp, r, .cons hv hr hn, n => by
    obtain ⟨F1, r1, s1⟩ := r.put' i hv (fun a ha => n a (List.mem_append_left _ ha))
    obtain ⟨F2, r2, s2, p2⟩ := setAll_ok (is := is) (fun j hj => hp j (List.mem_cons_of_mem _ hj)) r1 hr (fun a ha z => (s1 a z).elim (n a (List.mem_append_right _ ha)) fun y => hn a y ha)
    refine ⟨F2, r2, fun a h => ?_, (Pin.set (hp i List.mem_cons_self)).trans p2⟩
    rcases s2 a h with z | z
    · exact (s1 a z).imp id (List.mem_append_left _)
    · exact .inr (List.mem_append_right _ z)
theorem simS_par {t : TS} {ta : TA} {is : List Nat} {ops : List Op} (hp : ∀ i ∈ is, pn i = false) (h : SimA K ta ops) (ht : ∀ (E : Ends) σ H, (ta σ H fun vs H1 => vs.length = is.length ∧ E.nx (setAllV is vs σ) H1) → t E σ H) : SimS K pn W t (parF is ops) := by
  intro ρ o e σ G H F r E q
  unfold parF at e
  cases he : evOps ops ρ with
  | none => rw [he] at e; cases e
  | some p =>
    obtain ⟨ts, ρ1⟩ := p
    rw [he] at e
    have e1 : (takeN ops ts ρ1).bind (fun ds => if ds.length = is.length then some (Out.nx (setAll is ds ρ1)) else none) = some o := e
    cases htk : takeN ops ts ρ1 with
    | none => rw [htk] at e1; cases e1
    | some ds =>
      rw [htk] at e1
      have e2 : (if ds.length = is.length then some (Out.nx (setAll is ds ρ1)) else none) = some o := e1
      split at e2
      · rename_i hl
        cases e2
        refine ht E σ H (h ρ ts ρ1 he σ G H F r _ fun vs G1 H1 F1 M t1 r1 ok n1 => ?_)
        have rs := ok.take r1 htk
        obtain ⟨F2, r2, s2, p2⟩ := setAll_ok (is := is) hp r1 rs n1
        exact ⟨rs.length.trans hl, q _ G1 H1 F2 (t1.post s2) r2 p2⟩
      · cases e2
end
def iaddD : List D → Option D := fun ds => match ds with | [.int a, .int b] => some (.int (a + b)) | _ => none
def isubD : List D → Option D := fun ds => match ds with | [.int a, .int b] => some (.int (a - b)) | _ => none
section
variable {K : PySem.W.Frag}
theorem vok_iadd : VOk K (fun vs H Q => match vs with | [x, y] => ipI (fun i j => i + j) x y H Q | _ => False) iaddD := by
  intro G H vs ds d s rl e Q q
  unfold iaddD at e
  split at e
  · obtain ⟨v, u, L, M, rfl, r1, r2⟩ := rl.two
    cases e; cases r1; cases r2
    exact ⟨_, _, rfl, rfl, fin0 s (.int _) q⟩
  · cases e
theorem vok_isub : VOk K (fun vs H Q => match vs with | [x, y] => ipI (fun i j => i - j) x y H Q | _ => False) isubD := by
  intro G H vs ds d s rl e Q q
  unfold isubD at e
  split at e
  · obtain ⟨v, u, L, M, rfl, r1, r2⟩ := rl.two
    cases e; cases r1; cases r2
    exact ⟨_, _, rfl, rfl, fin0 s (.int _) q⟩
  · cases e
end
section
variable {X : Cx} {pn : Nat → Bool} {W : WX} {a b c : Expr} {pos px py pz pt : Pos} {kt k2 : Nat} {pt2 : Pos}
theorem psf_par2 {i j : Nat} {x y : Str} {ops : List Op} (hc : X.calm = true) (hN : X.N.Nodup) (hi : X.N[i]? = some x) (hj : X.N[j]? = some y) (hij : i ≠ j) (hp : ∀ k ∈ [i, j], pn k = false)
    (hx : X.env.scope.names.lookup x = some .local) (hy : X.env.scope.names.lookup y = some .local) (ha : PAf X [a, b] ops)
    (hw : swappedStores [.Tuple [.Name x px, .Name y py] kt pt] (.Tuple [a, b] k2 pt2) X.env = pure (some [x, y]))
    (hs : swapsWithSole [.Tuple [.Name x px, .Name y py] kt pt] (.Tuple [a, b] k2 pt2) pos.line X.env = pure false := by rfl) :
    PSf X pn W (.Assign [.Tuple [.Name x px, .Name y py] kt pt] (.Tuple [a, b] k2 pt2) pos) (parF [i, j] ops) :=
  .mk (ps_par hc hN hi hj hij hx hy ha hw hs) (simS_par (ta := taOf X.K ops) hp (simA_of ops) fun E σ H ⟨ρ, ts, ρ', G, F, e, r, q⟩ => ⟨ρ, ts, ρ', G, F, e, r, fun vs G' H' F' M t r' ok n => by
    obtain ⟨hl, q1⟩ := q vs G' H' F' M t r' ok n
    match vs, hl, q1 with
    | [v, w], _, q1 => exact ⟨v, w, rfl, q1⟩⟩)
theorem psf_par3 {i j l : Nat} {x y z : Str} {ops : List Op} (hc : X.calm = true) (hN : X.N.Nodup) (hi : X.N[i]? = some x) (hj : X.N[j]? = some y) (hl : X.N[l]? = some z) (hij : i ≠ j) (hil : i ≠ l) (hjl : j ≠ l) (hp : ∀ k ∈ [i, j, l], pn k = false)
    (hx : X.env.scope.names.lookup x = some .local) (hy : X.env.scope.names.lookup y = some .local) (hz : X.env.scope.names.lookup z = some .local) (ha : PAf X [a, b, c] ops)
    (hw : swappedStores [.Tuple [.Name x px, .Name y py, .Name z pz] kt pt] (.Tuple [a, b, c] k2 pt2) X.env = pure (some [x, y, z]))
    (hs : swapsWithSole [.Tuple [.Name x px, .Name y py, .Name z pz] kt pt] (.Tuple [a, b, c] k2 pt2) pos.line X.env = pure false := by rfl) :
    PSf X pn W (.Assign [.Tuple [.Name x px, .Name y py, .Name z pz] kt pt] (.Tuple [a, b, c] k2 pt2) pos) (parF [i, j, l] ops) :=
  .mk (ps_par3 hc hN hi hj hl hij hil hjl hx hy hz ha hw hs) (simS_par (ta := taOf X.K ops) hp (simA_of ops) fun E σ H ⟨ρ, ts, ρ', G, F, e, r, q⟩ => ⟨ρ, ts, ρ', G, F, e, r, fun vs G' H' F' M t r' ok n => by
    obtain ⟨hl, q1⟩ := q vs G' H' F' M t r' ok n
    match vs, hl, q1 with
    | [u, v, w], _, q1 => exact ⟨u, v, w, rfl, q1⟩⟩)
end
/-! ### how keywords bind -/
theorem kb_of {K : PySem.W.Frag} {x qual : Str} {st : Stmt} {f : Addr} {fd : FuncData} {ps ks : List Str} {n : Nat} {is : List Nat} (F : Fun K x qual st f fd)
    (h : ∀ (kV doc pm : Value) (an : Option Addr) (cdv ct : Value) (us ws : List Value), us.length = n → ws.length = ks.length → bindArgs (PySem.W.fnOf x qual (defArgs st) (defBody st) (defScope st) .none kV doc pm an cdv ct) ⟨us, ks.zip ws⟩ = pure (ps.zip (permL is (us ++ ws)))) : KB K fd ps n ks is := by
  obtain ⟨oc, od, kV, doc, pm, an, cdv, ct, osl, rfl, lk, hcd⟩ := F.ex
  exact fun s us ws _ h1 h2 => .of_eq (h kV doc pm an cdv ct us ws h1 h2)
/-- the law's call: from the script, whatever the heap -/
def spLaw (K : PySem.W.Frag) : Sp := fun vs H Q _ => ∃ (a : Addr) (ns : List Int), vs = [.ref a] ∧ SqL K H a (ns.map V.int) ∧ ns.length ≤ 63 ∧ ∀ H', Q (.bl true) H'
theorem law_sp {K : PySem.W.Frag} {fn : Fn} (hn : fn.np = 1) (h : ∀ ns : List Int, ns.length ≤ 63 → ∃ os, fn.sem [.scr ns] = some (.bl true, os)) {vs : List V} {H : Hp} {Q : VK} {E : XK} (q : spLaw K vs H Q E) : spOf K fn vs H Q E := by
  obtain ⟨a, ns, rfl, hs, hl, q⟩ := q
  obtain ⟨os, hos⟩ := h ns hl
  refine ⟨H, [.scr ns], [], .bl true, os, Same.refl H, Reps.cons0 (.scr hs) .nil, hn.symm, hos, fun v G' H' P N t ro rv n => ?_⟩
  cases rv
  exact q H'
end VS
set_option Elab.async false
set_option linter.all false
set_option maxRecDepth 100000
namespace VS
open PySem PySem.Spec PyProof.Rows L2 RZ
/-! ### sum, all, any, sorted of whole numbers; in; is of truths -/
def intsOf : List D → Option (List Int)
  | [] => some []
  | .int i :: r => (intsOf r).map (i :: ·)
  | _ :: _ => none
def blsOf : List D → Option (List Bool)
  | [] => some []
  | .bl i :: r => (blsOf r).map (i :: ·)
  | _ :: _ => none
section
variable {K : PySem.W.Frag} {G H : Hp}
theorem Reps.ints : ∀ {vs : List V} {xs : List D} {L : List Addr} {ns : List Int}, Reps K G H vs xs L → intsOf xs = some ns → vs = ns.map V.int ∧ xs = ns.map D.int
  | _, [], _, ns, .nil, e => by cases e; exact ⟨rfl, rfl⟩
  | _, x :: r, _, ns, .cons h hr _, e => by
    cases x with
    | int i =>
      obtain ⟨ms, e1, rfl⟩ := Option.map_eq_some_iff.mp (show (intsOf r).map (i :: ·) = some ns from e)
      cases h
      obtain ⟨h1, h2⟩ := hr.ints e1
      exact ⟨by rw [h1]; rfl, by rw [h2]; rfl⟩
    | _ => cases e
theorem Reps.bls : ∀ {vs : List V} {xs : List D} {L : List Addr} {ns : List Bool}, Reps K G H vs xs L → blsOf xs = some ns → vs = ns.map V.bl
  | _, [], _, ns, .nil, e => by cases e; rfl
  | _, x :: r, _, ns, .cons h hr _, e => by
    cases x with
    | bl i =>
      obtain ⟨ms, e1, rfl⟩ := Option.map_eq_some_iff.mp (show (blsOf r).map (i :: ·) = some ns from e)
      cases h
      rw [hr.bls e1]; rfl
    | _ => cases e
end
theorem blsOf_map (ns : List Bool) : blsOf (ns.map D.bl) = some ns := by
  induction ns with
  | nil => rfl
  | cons n ns ih => show (blsOf (ns.map D.bl)).map (n :: ·) = _; rw [ih]; rfl
def sumD : List D → Option D
  | [.lst _ xs] => (intsOf xs).bind fun ns => some (.int ns.sum)
  | _ => none
def allD : List D → Option D
  | [.lst _ xs] => (blsOf xs).bind fun ns => some (.bl (ns.all id))
  | _ => none
def anyD : List D → Option D
  | [.lst _ xs] => (blsOf xs).bind fun ns => some (.bl (ns.any id))
  | _ => none
def sortI (ns : List Int) : List Int := ns.mergeSort (fun a b => decide (a ≤ b))
def sortedID : List D → Option D
  | [.lst _ xs] => (intsOf xs).bind fun ns => some (.lst true ((sortI ns).map .int))
  | _ => none
section
variable {K : PySem.W.Frag}
theorem vok_all : VOk K (rAll K) allD := by
  intro G H vs ds d s rl e Q q
  unfold allD at e
  split at e
  · obtain ⟨v, L, rfl, r1⟩ := rl.one
    obtain ⟨ns, e1, e2⟩ := Option.bind_eq_some_iff.mp e
    cases e2
    obtain ⟨a, vs, L1, rfl, h1, h2, _⟩ := r1.lstInv s
    obtain rfl := h2.bls e1
    exact ⟨a, ns, rfl, SqL.of h1, fin0 s (.bl _) q⟩
  · cases e
/-! is of truths -/
def isBlD : List D → Option D
  | [.bl a, .bl b] => some (.bl (decide (a = b)))
  | _ => none
def notBlD : List D → Option D
  | [.bl a, .bl b] => some (.bl (!decide (a = b)))
  | _ => none
/-! in: of lists (any data), of tuples (flat items) -/
def flatD : D → Bool
  | .non => true
  | .bl _ => true
  | .int _ => true
  | .str _ => true
  | _ => false
def inD (neg : Bool) : List D → Option D
  | [x, .lst o xs] => if eqOk x = true ∧ eqOk (.lst o xs) = true then some (.bl (if neg then !xs.any fun z => deq z x else xs.any fun z => deq z x)) else none
  | [x, .tup xs] => if flatD x = true ∧ xs.all flatD = true then some (.bl (if neg then !xs.any fun z => deq z x else xs.any fun z => deq z x)) else none
  | _ => none
def rInA (K : PySem.W.Frag) : R2 := fun x y H Q => rInD K x y H Q ∨ rIn K false x y H Q
def rNotInA (K : PySem.W.Frag) : R2 := fun x y H Q => rNotInD K x y H Q ∨ rIn K true x y H Q
end
section
variable {X : Cx}
end
end VS
set_option Elab.async false
set_option linter.all false
set_option maxRecDepth 100000
namespace VS
open PySem PySem.Spec PyProof.Rows L2 RZ
/-! ### methods of a list that only read it -/
def isL : Option D → Bool
  | some (.lst _ _) => true
  | _ => false
def methF (i : Nat) (g : List D → Option D) (ops : List Op) : FE := fun ρ => if isL (getS ρ i) = true then opF g (.b i :: ops) ρ else none
def consV (r : V → List V → Hp → VK → Prop) : List V → Hp → VK → Prop := fun vs H Q => match vs with
  | x :: xs => r x xs H Q
  | [] => False
section
variable {K : PySem.W.Frag}
def indexD : List D → Option D
  | [.lst o xs, d] => if eqOk d = true ∧ eqOk (.lst o xs) = true then (xs.findIdx? fun z => deq z d).map fun j => .int (j : Nat) else none
  | _ => none
def clrD : List D → List D → Option (D × List D) := fun xs ds => match ds with
  | [] => if noOwns xs = true then some (.non, []) else none
  | _ => none
end
section
variable {X : Cx} {o e : Expr} {es : List Expr} {i : Nat} {ops : List Op} {o1 : Op} {apos cpos : Pos}
end
/-! ### a < b < c -/
def int1 : List D → Option Int
  | [.int m] => some m
  | _ => none
def int2 : List D → Option (Int × Int)
  | [.int i, .int j] => some (i, j)
  | _ => none
def chainF (p p' : Int → Int → Bool) (o1 o2 o3 : Op) : FE := fun ρ => (evOps [o1, o2] ρ).bind fun P => (fetch [o1, o2] P.1 P.2).bind fun ds => (int2 ds).bind fun ij =>
  if p ij.1 ij.2 = true then (evOps [o3] P.2).bind fun P3 => (fetch [o3] P3.1 P3.2).bind fun es => (int1 es).bind fun m => some (.bl (p' ij.2 m), P3.2) else some (.bl false, P.2)
section
variable {K : PySem.W.Frag}
end
section
variable {X : Cx} {a b c : Expr} {pos : Pos}
end
end VS
namespace VS
open PySem PySem.Spec PyProof.Rows L2 RZ
theorem units65 {k : Nat} {A : Around} (hr : Room k A) : A.units + 65 < cLine := by have := hr.un; omega
end VS
set_option Elab.async false
set_option linter.all false
set_option maxRecDepth 100000
namespace VS
open PySem PySem.Spec PyProof.Rows L2 RZ
/-! ### comb -/
def combD : List D → Option D
  | [.int a, .int b] => if 0 ≤ a ∧ 0 ≤ b ∧ a ≤ 18000 then some (.int (PySem.W.mcComb a b)) else none
  | _ => none
def rComb : List V → Hp → VK → Prop := fun xs H Q => ∃ a b : Int, xs = [.int a, .int b] ∧ 0 ≤ a ∧ 0 ≤ b ∧ a ≤ 18000 ∧ Q (.int (PySem.W.mcComb a b)) H
theorem cr_comb {X : Cx} : CallR X (.builtin "math.comb") rComb := by
  intro pins s σ H vs us Q I r h
  obtain ⟨a, b, rfl, h1, h2, h3, q⟩ := h
  obtain ⟨t, u, rfl⟩ := Vals.int2 r
  exact PySem.W.mc_comb h1 h2 (by omega) (.inr h3) fun _ => ⟨.int _, H, I.tok _, ⟨_, rfl⟩, q⟩
theorem vok_comb {K : PySem.W.Frag} : VOk K rComb combD := by
  intro G H vs ds d s rl e Q q
  unfold combD at e
  split at e
  · split at e
    · rename_i hz
      obtain ⟨v, u, L, M, rfl, r1, r2⟩ := rl.two
      cases e; cases r1; cases r2
      exact ⟨_, _, rfl, hz.1, hz.2.1, hz.2.2, fin0 s (.int _) q⟩
    · cases e
  · cases e
section
variable {X : Cx} {p pos : Pos} {e : Expr} {es : List Expr} {o : Op} {ops : List Op} {x : Str}
theorem pf_comb (hg : Gl X x) (hm : X.mg x = some (.builtin "math.comb")) (ha : PAf X (e :: es) (o :: ops)) (hdb : (x == ("__debug__" : Str)) = false := by decide)
    (he : starEach (e :: es) X.env = (false, eval e X.env) :: starEach es X.env := by rfl) (hpl : (backTo pos (starEach es X.env)).any (·.1) = false := by rfl) : PEf X (.Call (.Name x p) (e :: es) [] pos) (opF combD (o :: ops)) :=
  .mk (pe_callBfun cr_comb hg hm ha hdb he hpl) (simE_op (simA_of _) vok_comb)
end
/-! ### is True, is False, of truths, numbers and None -/
def isBvD : List D → Option D
  | [.bl a, .bl b] => some (.bl (decide (a = b)))
  | [.int _, .bl _] => some (.bl false)
  | [.non, .bl _] => some (.bl false)
  | _ => none
def notBvD : List D → Option D
  | [.bl a, .bl b] => some (.bl (!decide (a = b)))
  | [.int _, .bl _] => some (.bl true)
  | [.non, .bl _] => some (.bl true)
  | _ => none
def rIsBv : R2 := fun x y H Q => rIsB x y H Q ∨ ∃ b : Bool, y = .bl b ∧ (x = .non ∨ ∃ i, x = .int i) ∧ Q (.bl false) H
def rNotBv : R2 := fun x y H Q => rNotB x y H Q ∨ ∃ b : Bool, y = .bl b ∧ (x = .non ∨ ∃ i, x = .int i) ∧ Q (.bl true) H
theorem op_isBv {X : Cx} : OpR X (compareOp .Is) rIsBv := by
  intro pins s σ H x y v u Q I rx ry h
  rcases h with h | ⟨b, rfl, hx, q⟩
  · exact op_isBl pins s σ H x y v u Q I rx ry h
  · cases (show u = Value.bool b from ry)
    rcases hx with rfl | ⟨i, rfl⟩
    · cases (show v = Value.none from rx)
      exact wpAny_is_other rfl (fun z => nomatch z) ⟨.bl false, H, I, rfl, q⟩
    · obtain ⟨t, rfl⟩ := (show ∃ t, v = Value.int i t from rx)
      exact wpAny_is_other rfl (fun z => nomatch z) ⟨.bl false, H, I, rfl, q⟩
theorem op_notBv {X : Cx} : OpR X (compareOp .IsNot) rNotBv := by
  intro pins s σ H x y v u Q I rx ry h
  rcases h with h | ⟨b, rfl, hx, q⟩
  · exact op_notBl pins s σ H x y v u Q I rx ry h
  · cases (show u = Value.bool b from ry)
    rcases hx with rfl | ⟨i, rfl⟩
    · cases (show v = Value.none from rx)
      exact wpAny_isNot_other rfl (fun z => nomatch z) ⟨.bl true, H, I, rfl, q⟩
    · obtain ⟨t, rfl⟩ := (show ∃ t, v = Value.int i t from rx)
      exact wpAny_isNot_other rfl (fun z => nomatch z) ⟨.bl true, H, I, rfl, q⟩
theorem vok_isBv {K : PySem.W.Frag} : VOk K (r2L rIsBv) isBvD := by
  intro G H vs ds d s rl e Q q
  unfold isBvD at e
  split at e
  · obtain ⟨v, u, L, M, rfl, r1, r2⟩ := rl.two
    cases e; cases r1; cases r2
    exact .inl ⟨_, _, rfl, rfl, fin0 s (.bl _) q⟩
  · obtain ⟨v, u, L, M, rfl, r1, r2⟩ := rl.two
    cases e; cases r1; cases r2
    exact .inr ⟨_, rfl, .inr ⟨_, rfl⟩, fin0 s (.bl _) q⟩
  · obtain ⟨v, u, L, M, rfl, r1, r2⟩ := rl.two
    cases e; cases r1; cases r2
    exact .inr ⟨_, rfl, .inl rfl, fin0 s (.bl _) q⟩
  · cases e
theorem vok_notBv {K : PySem.W.Frag} : VOk K (r2L rNotBv) notBvD := by
  intro G H vs ds d s rl e Q q
  unfold notBvD at e
  split at e
  · obtain ⟨v, u, L, M, rfl, r1, r2⟩ := rl.two
    cases e; cases r1; cases r2
    exact .inl ⟨_, _, rfl, rfl, fin0 s (.bl _) q⟩
  · obtain ⟨v, u, L, M, rfl, r1, r2⟩ := rl.two
    cases e; cases r1; cases r2
    exact .inr ⟨_, rfl, .inr ⟨_, rfl⟩, fin0 s (.bl _) q⟩
  · obtain ⟨v, u, L, M, rfl, r1, r2⟩ := rl.two
    cases e; cases r1; cases r2
    exact .inr ⟨_, rfl, .inl rfl, fin0 s (.bl _) q⟩
  · cases e
/-! ### a list that stands in a list -/
section
variable {K : PySem.W.Frag} {G H : Hp}
theorem Reps.elem : ∀ {vs : List V} {xs : List D} {L : List Addr} {j : Nat} {d : D}, Reps K G H vs xs L → xs[j]? = some d → ∃ v M, vs[j]? = some v ∧ Rep K G H v d M ∧ (∀ a ∈ M, a ∈ L) ∧
    ∀ (H' : Hp) (d' : D) (M' : List Addr), (∀ a ∈ L, a ∉ M → H' a = H a) → Rep K G H' v d' M' → (∀ a ∈ M', a ∈ M) → ∃ L', Reps K G H' vs (xs.set j d') L' ∧ ∀ a ∈ L', a ∈ L
  | _, _, _, j, d, .nil, e => by simp at e
  | _, _, _, 0, d, .cons (v := v0) (L := L) (M := M) h r n, e => by
    simp at e; subst e
    refine ⟨v0, L, rfl, h, fun a ha => List.mem_append_left _ ha, fun H' d' M' hk hd hs => ⟨M' ++ M, .cons hd (r.keep ⟨Same.refl G, fun _ _ z => z, fun a ha => hk a (List.mem_append_right _ ha) fun hm => n a hm ha⟩) (fun a ha hm => n a (hs a ha) hm), fun a ha => ?_⟩⟩
    rcases List.mem_append.mp ha with z | z
    · exact List.mem_append_left _ (hs a z)
    · exact List.mem_append_right _ z
  | _, _, _, j + 1, d, .cons (v := v0) (L := L) (M := M) h r n, e => by
    obtain ⟨v, M1, h1, h2, h3, h4⟩ := r.elem (j := j) (by simpa using e)
    refine ⟨v, M1, by simpa using h1, h2, fun a ha => List.mem_append_right _ (h3 a ha), fun H' d' M' hk hd hs => ?_⟩
    obtain ⟨L', r', s'⟩ := h4 H' d' M' (fun a ha hm => hk a (List.mem_append_right _ ha) hm) hd hs
    refine ⟨L ++ L', .cons (h.keep ⟨Same.refl G, fun _ _ z => z, fun a ha => hk a (List.mem_append_left _ ha) fun hm => n a ha (h3 a hm)⟩) r' (fun a ha hm => n a ha (s' a hm)), fun a ha => ?_⟩
    rcases List.mem_append.mp ha with z | z
    · exact List.mem_append_left _ z
    · exact List.mem_append_right _ (s' a z)
end
/-- x[j] != [] -/
def neElF (i j : Nat) : FE := fun ρ => match getS ρ i with
  | some (.lst true xs) => match xs[j]? with
    | some (.lst true ys) => if eqOk (.lst true ys) = true then some (.bl (!deq (.lst true ys) (.lst true [])), ρ) else none
    | _ => none
  | _ => none
/-- x[j].pop() -/
def popElF (i j : Nat) : FE := fun ρ => match getS ρ i with
  | some (.lst true xs) => match xs[j]? with
    | some (.lst true ys) => if noOwns ys = true then (popD ys []).bind fun q => some (q.1, ρ.set i (some (.lst true (xs.set j (.lst true q.2))))) else none
    | _ => none
  | _ => none
section
variable {K : PySem.W.Frag}
theorem atI_natV {vs : List V} {j : Nat} {w : V} (h : vs[j]? = some w) : atI vs (j : Nat) = some w := by
  have hl := (List.getElem?_eq_some_iff.mp h).1
  refine atI_of (j := j) ?_ h
  unfold ixN
  rw [if_pos (by omega), if_pos (by omega), Int.toNat_natCast]
theorem simE_neEl {i j : Nat} : SimE K (tOp (rNeD K) (tOp (rIx K) (tVar i) (tC (.int (j : Nat)))) (tLst tNil)) (neElF i j) := by
  intro ρ d ρ' e σ G H F rr Q q
  unfold neElF at e
  cases h0 : getS ρ i with
  | none => rw [h0] at e; cases e
  | some d0 =>
    rw [h0] at e
    cases d0 with
    | lst o xs =>
      cases o with
      | false => cases e
      | true =>
        have e1 : (match xs[j]? with
          | some (.lst true ys) => if eqOk (.lst true ys) = true then some (D.bl (!deq (.lst true ys) (.lst true [])), ρ) else none
          | _ => none) = some (d, ρ') := e
        cases hx : xs[j]? with
        | none => rw [hx] at e1; cases e1
        | some d1 =>
          rw [hx] at e1
          cases d1 with
          | lst o ys =>
            cases o with
            | false => cases e1
            | true =>
              have e2 : (if eqOk (.lst true ys) = true then some (D.bl (!deq (.lst true ys) (.lst true [])), ρ) else none) = some (d, ρ') := e1
              by_cases hz : eqOk (.lst true ys) = true
              · rw [if_pos hz] at e2
                cases e2
                obtain ⟨v, hv, hrep⟩ := rr.at_ i _ h0
                obtain ⟨a, vs, L, rfl, hH, hr, hL⟩ := hrep.lstInv rr.sub
                obtain ⟨w, M, hw, hwr, hM, _⟩ := hr.elem hx
                refine ⟨_, hv, .inl ⟨a, vs, (j : Nat), w, rfl, rfl, SqL.of hH, atI_natV hw, Nat.zero_le _, fun p hp => ?_⟩⟩
                obtain ⟨t, rp⟩ := new_lst (vs := []) (xs := []) rr.sub hp .nil
                have hne : neD [.lst true ys, .lst true []] = some (.bl (!deq (.lst true ys) (.lst true []))) := by
                  show (if _ then _ else _) = _
                  rw [if_pos ⟨hz, rfl⟩]
                refine vok_ne G (upd H p (.lst [])) [w, .ref p] [.lst true ys, .lst true []] _ t.sub (.cons (hwr.tr t fun _ _ z => z) (.cons rp .nil)) hne Q fun v G' H' L' t2 rv => ?_
                have tt : Tr G H (fun _ => False) G' H' (fun a => a ∈ L') := (t.post fun _ z => z.elim).trans t2
                refine q v G' H' F L' (tt.wk (fun _ z => z.elim) fun a h => h.elim (fun h => .inr (.inl h)) .inl) (rr.tr tt fun _ _ z => z) rv fun a ha ⟨k, hk⟩ => ?_
                rcases tt.new a ha with z | z
                · exact z
                · obtain ⟨_, us, e, ld⟩ := rr.owned k a hk
                  rw [z] at e; cases e
              · rw [if_neg hz] at e2; cases e2
          | _ => cases e1
    | _ => cases e
theorem simE_popEl {i j : Nat} : SimE K (tBM0 K "list" rPop (tOp (rIx K) (tVar i) (tC (.int (j : Nat))))) (popElF i j) := by
  intro ρ d ρ' e σ G H F rr Q q
  unfold popElF at e
  cases h0 : getS ρ i with
  | none => rw [h0] at e; cases e
  | some d0 =>
    rw [h0] at e
    cases d0 with
    | lst o xs =>
      cases o with
      | false => cases e
      | true =>
        have e1 : (match xs[j]? with
          | some (.lst true ys) => if noOwns ys = true then (popD ys []).bind fun q => some (q.1, ρ.set i (some (.lst true (xs.set j (.lst true q.2))))) else none
          | _ => none) = some (d, ρ') := e
        cases hx : xs[j]? with
        | none => rw [hx] at e1; cases e1
        | some d1 =>
          rw [hx] at e1
          cases d1 with
          | lst o ys =>
            cases o with
            | false => cases e1
            | true =>
              have e2 : (if noOwns ys = true then (popD ys []).bind fun q => some (q.1, ρ.set i (some (.lst true (xs.set j (.lst true q.2))))) else none) = some (d, ρ') := e1
              by_cases hz : noOwns ys = true
              · rw [if_pos hz] at e2
                cases hp : popD ys [] with
                | none => rw [hp] at e2; cases e2
                | some pq =>
                  obtain ⟨d2, ys'⟩ := pq
                  rw [hp] at e2; cases e2
                  obtain ⟨v, hv, hrep⟩ := rr.at_ i _ h0
                  generalize hFi : F i = Fi at hrep
                  cases hrep with
                  | lstO hG hH hn hr =>
                    rename_i a vs L
                    obtain ⟨w, M, hw, hwr, hM, hset⟩ := hr.elem hx
                    cases hwr with
                    | lstO hGb hHb hnb hrb =>
                      rename_i b zs M1
                      have hM1 := hrb.noL hz
                      subst hM1
                      have hbL : b ∈ L := hM b List.mem_cons_self
                      have hab : b ≠ a := fun z => hn (z ▸ hbL)
                      refine ⟨.ref a, hv, .inl ⟨a, vs, (j : Nat), .ref b, rfl, rfl, SqL.of hH, atI_natV hw, .inl ⟨rfl, _, SqL.of hHb⟩, ?_⟩⟩
                      refine mok_pop G H b zs [] ys [] [] [] _ ys' rr.sub hGb hHb hrb .nil (fun _ z => nomatch z) hp Q fun v2 zs' L' N hr' hrv sL' sN nLN => ?_
                      have eN : N = [] := List.eq_nil_iff_forall_not_mem.mpr fun x hx => by rcases sN x hx with z | z <;> cases z
                      have eL : L' = [] := List.eq_nil_iff_forall_not_mem.mpr fun x hx => by rcases sL' x hx with z | z <;> cases z
                      subst eN eL
                      have k0 : Keep G H G (upd H b (.lst zs')) ([] : List Addr) := ⟨Same.refl _, fun _ z => (nomatch z), fun _ z => (nomatch z)⟩
                      have hin : Rep K G (upd H b (.lst zs')) (.ref b) (.lst true ys') [b] := .lstO hGb upd_same List.not_mem_nil (hr'.keep k0)
                      obtain ⟨L2, hr2, sL2⟩ := hset (upd H b (.lst zs')) (.lst true ys') [b] (fun x _ hx => upd_ne fun z => hx (z ▸ List.mem_cons_self)) hin (fun x hx => hx)
                      have hsub : ∀ x ∈ a :: L, x ∈ F i := fun x hx => by rw [hFi]; exact hx
                      have haH : (upd H b (.lst zs')) a = some (.lst vs) := (upd_ne hab.symm).trans hH
                      have hnew : Rep K G (upd H b (.lst zs')) (.ref a) (.lst true (xs.set j (.lst true ys'))) (a :: L2) := .lstO hG haH (fun z => hn (sL2 a z)) hr2
                      have tw : Tr G H (fun x => x = b) G (upd H b (.lst zs')) (fun x => x = b) := Tr.write rr.sub hGb rfl ⟨_, hHb⟩
                      have rd := (rr.drop i).tr tw fun x ⟨k, hk⟩ z => by
                        subst z
                        by_cases hki : k = i
                        · subst hki; rw [fset_same] at hk; cases hk
                        · rw [fset_ne hki] at hk; exact rr.dis k i hki _ hk (hsub _ (List.mem_cons_of_mem _ hbL))
                      have sub2 : ∀ x ∈ a :: L2, x ∈ F i := fun x hx => by
                        rcases List.mem_cons.mp hx with z | z
                        · subst z; exact hsub _ List.mem_cons_self
                        · exact hsub x (List.mem_cons_of_mem _ (sL2 x z))
                      have hap : ∀ x ∈ a :: L2, ∀ k, k ≠ i → x ∉ fset F i [] k := fun x hx k hk hxk => by
                        rw [fset_ne hk] at hxk
                        exact rr.dis k i hk _ hxk (sub2 x hx)
                      have rp := rd.re (i := i) (by rw [List.length_set]; exact rr.lt h0) hv hnew hap
                      rw [List.set_set] at rp
                      refine q v2 G _ _ [] ?_ rp (hrv.keep k0) fun x hx => nomatch hx
                      refine tw.wk (fun x z => ⟨i, z ▸ hsub b (List.mem_cons_of_mem _ hbL)⟩) fun x hx => .inr (.inl ?_)
                      rcases hx with ⟨k, hk⟩ | hx
                      · by_cases hki : k = i
                        · subst hki; rw [fset_same] at hk; exact ⟨k, sub2 x hk⟩
                        · rw [fset_ne hki, fset_ne hki] at hk; exact ⟨k, hk⟩
                      · cases hx
              · rw [if_neg hz] at e2; cases e2
          | _ => cases e1
    | _ => cases e
end
section
variable {X : Cx} {a : Expr} {i j : Nat} {k : Nat} {p1 p2 p3 apos cpos : Pos}
theorem pf_popEl (ho : PE X (.Subscript a (.Constant (.int (j : Nat)) k p1) p2) (tOp (rIx X.K) (tVar i) (tC (.int (j : Nat))))) (hbase : attributeBase (.Subscript a (.Constant (.int (j : Nat)) k p1) p2) "pop" X.env (eval (.Subscript a (.Constant (.int (j : Nat)) k p1) p2) X.env) = eval (.Subscript a (.Constant (.int (j : Nat)) k p1) p2) X.env := by rfl) (hline : (apos.endLine == cpos.line) = true := by rfl) :
    PEf X (.Call (.Attribute (.Subscript a (.Constant (.int (j : Nat)) k p1) p2) "pop" apos) [] [] cpos) (popElF i j) :=
  .mk (pe_bm0 PySem.F.plainAttrs_list PySem.F.slot_list_pop PySem.F.type_list_pop mt_pop ho hbase hline) simE_popEl
theorem pt_neEl (hu : X.A.units + 64 < cLine) (ho : PE X (.Subscript a (.Constant (.int (j : Nat)) k p1) p2) (tOp (rIx X.K) (tVar i) (tC (.int (j : Nat))))) : PTf X (.Compare (.Subscript a (.Constant (.int (j : Nat)) k p1) p2) [.NotEq] [.List [] p3] cpos) (bT (neElF i j)) :=
  .mk (pt_cmpR (op_neD hu) ho (pe_lst pa_nil) rfl) (simT_of simE_neEl)
end
end VS
set_option Elab.async false
set_option linter.all false
set_option maxRecDepth 100000
namespace VS
open PySem PySem.Spec PyProof.Rows L2 RZ
/-! ### sum of a tuple -/
section
variable {prog : Program} {w : World} {A : Around} {E : Value → Shared → Prop} {s : Shared} {l : Addr} {xs : Array (Int × Tok)}
end
def rSumT (K : PySem.W.Frag) : List V → Hp → VK → Prop := fun vs H Q => ∃ (a : Addr) (ns : List Int), vs = [V.ref a] ∧ SqT K H a (ns.map V.int) ∧ Q (.int ns.sum) H
def rSumA (K : PySem.W.Frag) : List V → Hp → VK → Prop := fun vs H Q => rSum K vs H Q ∨ rSumT K vs H Q
def sumAD : List D → Option D
  | [.lst _ xs] => (intsOf xs).bind fun ns => some (.int ns.sum)
  | [.tup xs] => (intsOf xs).bind fun ns => some (.int ns.sum)
  | _ => none
/-! ### count of a whole number in a list of such -/
def countF (k : Int) (f : FE) : FE := fun ρ => (f ρ).bind fun p => match p.1 with
  | .lst _ xs => (intsOf xs).bind fun ns => some (.int (ns.count k : Nat), p.2)
  | _ => none
/-! ### a def that is asked, and hands nothing on: what is shown to it stays the caller's -/
def flat1 : D → Bool
  | .non => true
  | .bl _ => true
  | .int _ => true
  | _ => false
def callRdF (fn : Fn) (ops : List Op) : FE := fun ρ => (evOps ops ρ).bind fun p => (fetch ops p.1 p.2).bind fun ds => (fn.sem (freezes ds)).bind fun q => if flat1 q.1 = true then some (q.1, p.2) else none
theorem RepL.frz {K : PySem.W.Frag} {G H : Hp} (s : Same G H) : ∀ {vs : List V} {ds : List D}, RepL K G H vs ds → Reps K H H vs (freezes ds) []
  | _, _, .nil => .nil
  | _, _, .cons h r => by
    have := Reps.cons (h.frz s fun _ _ => rfl) (RepL.frz s r) (fun a ha => nomatch ha)
    exact this
/-! ### x[j][k] = v -/
def tgElF (i j k : Nat) : D → Env → Option Env := fun d ρ => match getS ρ i with
  | some (.lst true xs) => match xs[j]? with
    | some (.lst true ys) => if noOwns ys = true ∧ noOwn d = true ∧ k < ys.length then some (ρ.set i (some (.lst true (xs.set j (.lst true (ys.set k d)))))) else none
    | _ => none
  | _ => none
/-! the rules -/
section
variable {X : Cx} {pn : Nat → Bool} {W : WX} {k : Nat} {f : Addr} {fd : FuncData} {ps : List Str} {fn : Fn} {x : Str} {p pos apos cpos : Pos} {e o a : Expr} {es : List Expr} {o1 : Op} {ops : List Op}
end
end VS
set_option Elab.async false
set_option linter.all false
set_option maxRecDepth 100000
namespace VS
open PySem PySem.Spec PyProof.Rows L2 RZ
/-! ### xs[::-1] -/
def rRevQ (K : PySem.W.Frag) : V → Hp → VK → Prop := fun x H1 Q => ∃ a xs, x = .ref a ∧ SqL K H1 a xs ∧ ∀ p, H1 p = none → Q (.ref p) (upd H1 p (.lst xs.reverse))
def revLD : List D → Option D
  | [.lst _ xs] => if noOwns xs = true then some (.lst true xs.reverse) else none
  | _ => none
section
variable {X : Cx} {e : Expr} {k : Nat} {p1 p2 p3 pos : Pos} {o : Op}
end
end VS
set_option Elab.async false
set_option linter.all false
set_option maxRecDepth 100000
set_option maxHeartbeats 4000000
namespace VS
open PySem PySem.Spec PyProof.Rows L2 RZ
/-! ### tuple * 0, tuple * 1 -/
theorem tuple_mul0W (l : Addr) (items : Array Value) (n : Nat) (dd : Option Addr) (sl : Array (Option Value)) (x : Int) (u : Tok) (c0 : (decide (x < -(2 ^ 63)) || decide (x ≥ 2 ^ 63)) = false) (c1 : (items.isEmpty || x == 1) = false) (c2 : (decide (x ≤ 0) || items.isEmpty) = true) :
    Meets (Builtin.«tuple.__mul__» ⟨[.ref l, .int x u], []⟩) (fun _ R s => s.heap.get? l = some { cls := .type "tuple", dict := dd, data := .seq items n, slots := sl } ∧
      R (.ok (.ret (Value.ref s.heap.objs.size))) { s with heap := s.heap.push { cls := Value.type "tuple", data := Data.seq #[] }, toks := s.toks }) :=
  .of_wp fun prog w A R s h => by
    obtain ⟨hp, g, d, tk, os⟩ := s
    obtain ⟨hl, h⟩ := h
    have f1 := AutoSeq1.idx_int
    wp_walk using wpAny_loadPart' hl
    refine wpAny_ite_false (decide_eq_false (by rw [c0]; exact Bool.false_ne_true)) ?_; wp_walk using wpAny_loadPart' hl
    repeat (first
      | (refine wpAny_ite_false (decide_eq_false (by rw [c1]; exact Bool.false_ne_true)) ?_; wp_walk using wpAny_loadPart' hl)
      | (refine wpAny_ite_true (decide_eq_true c2) ?_; wp_walk using wpAny_loadPart' hl))
    exact ⟨_, rfl, h⟩
theorem tuple_mul1W (l : Addr) (items : Array Value) (n : Nat) (dd : Option Addr) (sl : Array (Option Value)) (x : Int) (u : Tok) (c0 : (decide (x < -(2 ^ 63)) || decide (x ≥ 2 ^ 63)) = false) (c1 : (items.isEmpty || x == 1) = true) :
    Meets (Builtin.«tuple.__mul__» ⟨[.ref l, .int x u], []⟩) (fun _ R s => s.heap.get? l = some { cls := .type "tuple", dict := dd, data := .seq items n, slots := sl } ∧
      R (.ok (.ret (Value.ref l))) s) :=
  .of_wp fun prog w A R s h => by
    obtain ⟨hp, g, d, tk, os⟩ := s
    obtain ⟨hl, h⟩ := h
    have f1 := AutoSeq1.idx_int
    wp_walk using wpAny_loadPart' hl
    refine wpAny_ite_false (decide_eq_false (by rw [c0]; exact Bool.false_ne_true)) ?_; wp_walk using wpAny_loadPart' hl
    exact ⟨_, rfl, h⟩
def rRepT0 (K : PySem.W.Frag) : R2 := fun x y H Q => ∃ l xs, x = .ref l ∧ y = .int 0 ∧ SqT K H l xs ∧ xs ≠ [] ∧ ∀ p, H p = none → Q (.ref p) (upd H p (.tup []))
def rRepT1 (K : PySem.W.Frag) : R2 := fun x y H Q => ∃ l xs, x = .ref l ∧ y = .int 1 ∧ SqT K H l xs ∧ Q (.ref l) H
section
variable {X : Cx}
theorem op_repT0 : OpR X (binaryOp .Mult) (rRepT0 X.K) := by
  intro pins s σ H x y v u Q I rx ry h
  obtain ⟨l, xs, rfl, rfl, hT, hne, q⟩ := h
  cases rx
  obtain ⟨t, rfl⟩ := ry
  obtain ⟨its, r, ⟨⟨cls, dd, data, sl⟩, ho, hc, n, hd⟩, hs⟩ := I.tuple hT
  simp only at hc hd
  subst hc hd
  have hle : its.length = xs.length := r.length.symm
  have hn : its ≠ [] := fun e => hne (by
    rw [e] at hle
    exact List.eq_nil_of_length_eq_zero hle.symm)
  have hi : its.toArray.isEmpty = false := by
    cases its with
    | nil => exact absurd rfl hn
    | cons a b => rfl
  have c1 : (its.toArray.isEmpty || (0 : Int) == 1) = false := by rw [hi]; rfl
  refine wpAny_binaryOp_repeat_ref (T := "tuple") (U := "int") (by decide) ⟨_, ho, rfl⟩ (fun s' => typeIs_int s' 0 t) noFill_tuple_mul F.fills_int_mul F.slot_int_rmul repeat_tuple F.slot_int_index.lookup
    (call_meets F.slot_int_rmul (typeIs_int s 0 t) F.entry_int_rmul (F.args_int_rmul_2 _ _) (int_rmul_tuple 0 t l its.toArray n dd sl)
      ⟨ho, rfl, ⟨_, ho, rfl⟩, call_meets F.slot_tuple_mul ⟨_, ho, rfl⟩ F.entry_tuple_mul (F.args_tuple_mul_2 _ _) (tuple_mul0W l its.toArray n dd sl 0 t rfl c1 rfl) ⟨ho, ?_⟩⟩)
  refine ⟨.ref s.heap.objs.size, _, I.laid (t' := s.toks) (o := .tup []) (fun b ob q => Heap.get?_push_of_some _ q) (Nat.le_refl _) ?_, rfl, q _ (I.hok.fresh (Nat.le_refl _))⟩
  exact ⟨Nat.zero_le _, _, .nil, IsTup.new _ _⟩
theorem op_repT1 : OpR X (binaryOp .Mult) (rRepT1 X.K) := by
  intro pins s σ H x y v u Q I rx ry h
  obtain ⟨l, xs, rfl, rfl, hT, q⟩ := h
  cases rx
  obtain ⟨t, rfl⟩ := ry
  obtain ⟨its, r, ⟨⟨cls, dd, data, sl⟩, ho, hc, n, hd⟩, hs⟩ := I.tuple hT
  simp only at hc hd
  subst hc hd
  have c1 : (its.toArray.isEmpty || (1 : Int) == 1) = true := by cases its.toArray.isEmpty <;> rfl
  refine wpAny_binaryOp_repeat_ref (T := "tuple") (U := "int") (by decide) ⟨_, ho, rfl⟩ (fun s' => typeIs_int s' 1 t) noFill_tuple_mul F.fills_int_mul F.slot_int_rmul repeat_tuple F.slot_int_index.lookup
    (call_meets F.slot_int_rmul (typeIs_int s 1 t) F.entry_int_rmul (F.args_int_rmul_2 _ _) (int_rmul_tuple 1 t l its.toArray n dd sl)
      ⟨ho, rfl, ⟨_, ho, rfl⟩, call_meets F.slot_tuple_mul ⟨_, ho, rfl⟩ F.entry_tuple_mul (F.args_tuple_mul_2 _ _) (tuple_mul1W l its.toArray n dd sl 1 t rfl c1) ⟨ho, ?_⟩⟩)
  exact ⟨.ref l, H, I, rfl, q⟩
def rMulT (K : PySem.W.Frag) : R2 := fun x y H Q => rRepT0 K x y H Q ∨ (rRepT1 K x y H Q ∨ rRepT K x y H Q)
theorem op_mulT : OpR X (binaryOp .Mult) (rMulT X.K) := op_repT0.or (op_repT1.or op_repT)
end
def mulTD : List D → Option D
  | [.tup xs, .int k] => if noOwns xs = true ∧ xs ≠ [] ∧ 0 ≤ k ∧ k ≤ 1000 ∧ xs.length ≤ 1000 then some (.tup (List.replicate k.toNat xs).flatten) else none
  | _ => none
theorem vok_mulT {K : PySem.W.Frag} : VOk K (r2L (rMulT K)) mulTD := by
  intro G H vs ds d s rl e Q q
  unfold mulTD at e
  split at e
  · rename_i xs k
    obtain ⟨v, u, L, M, rfl, r1, r2⟩ := rl.two
    split at e
    · rename_i hz
      cases e; cases r2
      obtain ⟨z1, z2, z3, z4, z5⟩ := hz
      have e0 := r1.noL (d := .tup xs) z1
      subst e0
      obtain ⟨a, vs, rfl, h1, h2⟩ := r1.tupInv s
      have hl := h2.length
      have hne : vs ≠ [] := fun w => z2 (by
        rw [w] at hl
        exact List.eq_nil_of_length_eq_zero (by simpa using hl.symm))
      by_cases k0 : k = 0
      · subst k0
        refine .inl ⟨a, vs, rfl, rfl, h1, hne, fun p hp => ?_⟩
        obtain ⟨G', t, r⟩ := new_tup s hp (xs := []) (vs := []) .nil
        exact q _ _ _ _ t r
      · by_cases k1 : k = 1
        · subst k1
          refine .inr (.inl ⟨a, vs, rfl, rfl, h1, ?_⟩)
          have : (List.replicate (1 : Int).toNat xs).flatten = xs := by simp
          rw [this] at q
          exact fin0 s r1 q
        · refine .inr (.inr ⟨a, k, vs, rfl, rfl, h1, hne, by omega, z4, by rw [hl]; exact z5, fun p hp => ?_⟩)
          obtain ⟨G', t, r⟩ := new_tup s hp ((h2.to0 z1).rep0 _)
          exact q _ _ _ _ t r
    · cases e
  · cases e
end VS
set_option Elab.async false
set_option linter.all false
set_option maxRecDepth 100000
namespace VS
open PySem PySem.Spec PyProof.Rows L2 RZ
/-! ### min of two tuples of ints -/
section
variable {prog : Program} {w : World} {A : Around} {R : Result → Shared → Prop} {I S : Addr} {fp wr : List Addr} {P : Nat → Value → Prop} {St : Nat → Heap → Prop}
end
section
variable {prog : Program} {w : World} {A : Around} {E : Value → Shared → Prop} {s : Shared}
end
def rMinT (K : PySem.W.Frag) : List V → Hp → VK → Prop := fun vs H Q => ∃ (a b : Addr) (ns ms : List Int), vs = [V.ref a, V.ref b] ∧ SqT K H a (ns.map V.int) ∧ SqT K H b (ms.map V.int) ∧ Q (if HT.lexLt ms ns = true then .ref b else .ref a) H
def minTD : List D → Option D
  | [.tup xs, .tup ys] => (intsOf xs).bind fun ns => (intsOf ys).bind fun ms => some (if HT.lexLt ms ns = true then .tup ys else .tup xs)
  | _ => none
end VS
set_option Elab.async false
set_option linter.all false
set_option maxRecDepth 100000
namespace VS
open PySem PySem.Spec PyProof.Rows L2 RZ
/-! ### t1 = t2 = e, of a thing that holds no list of its own -/
def asg2F (f : FE) (g1 g2 : D → Env → Option Env) : FS := fun ρ => (f ρ).bind fun p => if noOwn p.1 = true then (g1 p.1 p.2).bind fun ρ1 => (g2 p.1 ρ1).bind fun ρ2 => some (.nx ρ2) else none
section
variable {X : Cx} {e : Expr} {pos : Pos} {pn : Nat → Bool} {W : WX} {K : PySem.W.Frag}
end
end VS
set_option Elab.async false
set_option linter.all false
set_option maxRecDepth 100000
namespace VS
open PySem PySem.Spec PyProof.Rows L2 RZ
/-! ### xs.extend(ys), xs += ys: ys a list of things that own nothing -/
def extD : List D → List D → Option (D × List D) := fun xs ds => match ds with
  | [.lst _ zs] => if noOwns zs = true ∧ xs.length + zs.length ≤ smallL then some (.non, xs ++ zs) else none
  | _ => none
section
variable {K : PySem.W.Frag} {pn : Nat → Bool} {W : WX}
end
section
variable {X : Cx} {pn : Nat → Bool} {W : WX} {e : Expr} {pos : Pos}
end
end VS
set_option Elab.async false
set_option linter.all false
set_option maxRecDepth 100000
namespace VS
open PySem PySem.Spec PyProof.Rows L2 RZ
/-! ### sorted(xs), xs tuples of one shape, of any depth -/
def rSortedM (K : PySem.W.Frag) : List V → Hp → VK → Prop := fun vs H Q => ∃ (a : Addr) (ys : List V) (ds : List PyData), vs = [V.ref a] ∧ SqL K H a ys ∧ DpAll K H ys ds ∧ PySem.W.AllAlike ds ∧ (∀ d ∈ ds, ∃ x r, d = .tuple (x :: r)) ∧ (∀ d ∈ ds, d.depth ≤ 60) ∧
  ∀ p, H p = none → Q (.ref p) (upd H p (.lst (((ys.zip ds).mergeSort (PySem.W.dataLe false Prod.snd)).map Prod.fst)))
theorem each_zip {h : Heap} : ∀ {ys : List V} {its : List Value} {ds : List PyData} {as : List Addr}, Vals ys its → ReadsAll h its ds as → PySem.W.EachIs (fun v (b : V × PyData) => RelV b.1 v ∧ ∃ as, Reads h v b.2 as) its (ys.zip ds)
  | _, _, _, _, .nil, .nil => .nil
  | _, _, _, _, .cons r1 r2, .cons h1 h2 => .cons ⟨r1, _, h1⟩ (each_zip r2 h2)
theorem each_vals : ∀ {out : List Value} {bs : List (V × PyData)}, PySem.W.EachIs (fun v (b : V × PyData) => RelV b.1 v) out bs → Vals (bs.map Prod.fst) out
  | _, _, .nil => .nil
  | _, _, .cons h t => .cons h (each_vals t)
theorem zip_snd {α β : Type} : ∀ {xs : List α} {ys : List β}, xs.length = ys.length → (xs.zip ys).map Prod.snd = ys
  | [], [], _ => rfl
  | x :: xs, y :: ys, h => by
    simp only [List.zip_cons_cons, List.map_cons]
    rw [zip_snd (by simpa using h)]
  | [], _ :: _, h => by simp at h
  | _ :: _, [], h => by simp at h
theorem dpAll_len {K : PySem.W.Frag} {H : Hp} : ∀ {ys : List V} {ds : List PyData}, DpAll K H ys ds → ys.length = ds.length
  | _, _, .nil => rfl
  | _, _, .cons _ t => by simp [dpAll_len t]
theorem cr_sortedM {X : Cx} (hu : X.A.units + 65 < cLine) : CallR X (.builtin "sorted") (rSortedM X.K) := by
  intro pins s σ H vs us Q I r h
  obtain ⟨a, ys, ds, rfl, hs, hd, hal, hk, hdp, q⟩ := h
  obtain ⟨its, rv, hl, hz⟩ := I.list hs
  rw [Vals.ref1 r]
  obtain ⟨as, ra⟩ := Dp.readsAll I ds ys its hd rv
  have ez := each_zip rv ra
  have hlen := dpAll_len hd
  have e2 : (ys.zip ds).map Prod.snd = ds := zip_snd hlen
  have el : (ys.zip ds).length = ys.length := by rw [List.length_zip]; omega
  refine PySem.W.sorted_data (R := fun v b => RelV b.1 v) (enc := Prod.snd) (bs := ys.zip ds) hl.isList (ez.mono fun _ _ h => h.1) (ez.mono fun _ _ h => h.2) (by rw [e2]; exact hal) (by rw [e2]; exact .inl hk) (by rw [el]; exact hz) (fun b hb => ?_) fun out h1 h2 => ?_
  · have : b.2 ∈ ds := by rw [← e2]; exact List.mem_map_of_mem hb
    have := hdp _ this
    omega
  · have rv2 := each_vals h2
    obtain ⟨ep, he'⟩ := PyProof.Rows.sortedAll_at s.heap its out.toArray
    have hl2 : (((ys.zip ds).mergeSort (PySem.W.dataLe false Prod.snd)).map Prod.fst).length ≤ sizeLine := by
      rw [List.length_map, List.length_mergeSort, el]; exact hz
    exact ⟨.ref _, upd H (s.heap.objs.size + 1) (.lst (((ys.zip ds).mergeSort (PySem.W.dataLe false Prod.snd)).map Prod.fst)), I.laid (t' := s.toks) (fun _ _ => PyProof.Rows.sortedAll_old) (Nat.le_succ _) ⟨hl2, out, ep, rv2, he'⟩, rfl, q _ (I.hok.fresh (Nat.le_succ _))⟩
def tupled : PyData → Bool
  | .tuple (_ :: _) => true
  | _ => false
def shapeOk (ds : List PyData) : Bool := (ds.all fun d => ds.all fun e => PySem.W.alike d e) && (ds.all tupled && ds.all fun d => decide (d.depth ≤ 60))
def sortMD (xs : List D) : List D := xs.mergeSort (PySem.W.dataLe false pyD)
def sortedMD : List D → Option D
  | [.lst _ xs] => if noOwns xs = true ∧ noTys xs = true ∧ shapeOk (pyDs xs) = true then some (.lst true (sortMD xs)) else none
  | _ => none
theorem pyDs_map : ∀ xs : List D, pyDs xs = xs.map pyD
  | [] => rfl
  | x :: xs => by rw [pyDs, pyDs_map xs]; rfl
theorem reps_zip {K : PySem.W.Frag} {G H : Hp} : ∀ {vs : List V} {xs : List D}, Reps K G H vs xs [] → ∃ L : List (V × D), L.map Prod.fst = vs ∧ L.map Prod.snd = xs ∧ ∀ p ∈ L, Rep K G H p.1 p.2 []
  | [], xs, h => by cases h; exact ⟨[], rfl, rfl, fun p hp => (by cases hp)⟩
  | v :: vs, [], h => by cases h
  | v :: vs, x :: xs, h => by
    obtain ⟨h1, h2⟩ : Rep K G H v x [] ∧ Reps K G H vs xs [] := by
      generalize e : ([] : List Addr) = L at h
      cases h with
      | cons hv hr n =>
        obtain ⟨e1, e2⟩ := List.append_eq_nil_iff.mp e.symm
        subst e1; subst e2
        exact ⟨hv, hr⟩
    obtain ⟨L, e1, e2, e3⟩ := reps_zip h2
    refine ⟨(v, x) :: L, by simp [e1], by simp [e2], fun p hp => ?_⟩
    rcases List.mem_cons.mp hp with rfl | hp
    · exact h1
    · exact e3 p hp
theorem reps_of {K : PySem.W.Frag} {G H : Hp} : ∀ {L : List (V × D)}, (∀ p ∈ L, Rep K G H p.1 p.2 []) → Reps K G H (L.map Prod.fst) (L.map Prod.snd) []
  | [], _ => .nil
  | p :: L, h => .cons (L := []) (M := []) (h p (by simp)) (reps_of fun q hq => h q (by simp [hq])) (fun a ha => nomatch ha)
theorem vok_sortedM {K : PySem.W.Frag} : VOk K (rSortedM K) sortedMD := by
  intro G H vs ds d s rl e Q q
  unfold sortedMD at e
  split at e
  · rename_i o xs
    split at e
    · rename_i hz
      cases e
      obtain ⟨v, L, rfl, r1⟩ := rl.one
      obtain ⟨a, us, L1, rfl, h1, h2, _⟩ := r1.lstInv s
      have h0 := h2.to0 hz.1
      obtain ⟨M, m1, m2, m3⟩ := reps_zip h0
      have hs := hz.2.2
      unfold shapeOk at hs
      simp only [Bool.and_eq_true, List.all_eq_true, decide_eq_true_eq] at hs
      refine ⟨a, us, pyDs xs, rfl, SqL.of h1, Reps.dp s h0 hz.2.1, fun d hd d' hd' => hs.1 d hd d' hd', fun d hd => ?_, hs.2.2, fun p hp => ?_⟩
      · have := hs.2.1 d hd
        unfold tupled at this
        split at this
        · exact ⟨_, _, rfl⟩
        · cases this
      · have ez : us.zip (pyDs xs) = M.map fun p => (p.1, pyD p.2) := by
          rw [← m1, ← m2, pyDs_map, List.map_map]
          clear m1 m2 m3
          induction M with
          | nil => rfl
          | cons p M ih => simp only [List.map_cons, List.zip_cons_cons, ih, Function.comp_apply]
        have e1 : ((us.zip (pyDs xs)).mergeSort (PySem.W.dataLe false Prod.snd)) = (M.mergeSort (PySem.W.dataLe false fun p => pyD p.2)).map fun p => (p.1, pyD p.2) := by
          rw [ez]
          exact (List.map_mergeSort (r := PySem.W.dataLe false fun p : V × D => pyD p.2) (s := PySem.W.dataLe false Prod.snd) (f := fun p : V × D => (p.1, pyD p.2)) (l := M) fun a _ b _ => rfl).symm
        have e2 : sortMD xs = (M.mergeSort (PySem.W.dataLe false fun p => pyD p.2)).map Prod.snd := by
          unfold sortMD
          rw [← m2]
          exact (List.map_mergeSort (r := PySem.W.dataLe false fun p : V × D => pyD p.2) (s := PySem.W.dataLe false pyD) (f := Prod.snd) (l := M) fun a _ b _ => rfl).symm
        have rs : Reps K G H ((M.mergeSort (PySem.W.dataLe false fun p => pyD p.2)).map Prod.fst) (sortMD xs) [] := by
          rw [e2]
          exact reps_of fun p hp => m3 p ((List.mergeSort_perm M _).mem_iff.mp hp)
        have e3 : (((us.zip (pyDs xs)).mergeSort (PySem.W.dataLe false Prod.snd)).map Prod.fst) = (M.mergeSort (PySem.W.dataLe false fun p => pyD p.2)).map Prod.fst := by
          rw [e1, List.map_map]; rfl
        rw [e3]
        obtain ⟨t, rr⟩ := new_lst s hp rs
        exact q _ _ _ _ t rr
    · cases e
  · cases e
end VS
set_option Elab.async false
set_option linter.all false
set_option maxRecDepth 100000
namespace VS
open PySem PySem.Spec PyProof.Rows L2 RZ
/-! ### defs with a star parameter: what is left over is a new tuple -/
def spStar (K : PySem.W.Frag) (fn : Fn) (na : Nat) : Sp := fun vs H Q E => ∃ ws rest, vs = ws ++ rest ∧ ws.length = na ∧ rest.length ≤ sizeLine ∧ ∀ p, H p = Option.none → spOf K fn (ws ++ [V.ref p]) (upd H p (.tup rest)) Q E
section
variable {P : Program} {w : World} {K : PySem.W.Frag} {mg : Str → Option Value} {base : Heap}
end
def starD (fn : Fn) (na : Nat) : List D → Option D := fun ds => if noOwns ds = true ∧ na ≤ ds.length ∧ ds.length ≤ smallL then (fn.sem (ds.take na ++ [.tup (ds.drop na)])).bind fun q => if flat1 q.1 = true then some q.1 else none else none
theorem RepL.to0 {K : PySem.W.Frag} {G H : Hp} : ∀ {vs : List V} {ds : List D}, RepL K G H vs ds → noOwns ds = true → Reps K G H vs ds []
  | _, _, .nil, _ => .nil
  | _, _, .cons h r, hn => by
    simp only [noOwns, Bool.and_eq_true] at hn
    have e := h.noL hn.1
    subst e
    exact .cons (L := []) (M := []) h (RepL.to0 r hn.2) (fun a ha => nomatch ha)
section
variable {X : Cx} {k na : Nat} {f : Addr} {fn : Fn} {x : Str} {p pos : Pos} {e : Expr} {es : List Expr} {o : Op} {ops : List Op}
end
end VS
set_option Elab.async false
set_option linter.all false
set_option maxRecDepth 100000
namespace VS
open PySem PySem.Spec PyProof.Rows L2 RZ
/-! ### x[i] op= e, of whole numbers, x a list of its own -/
def elemI : List D → Option D → Option (Int × Int)
  | [.int i], some (.lst true xs) => match atI xs i with
    | some (.int a) => some (i, a)
    | _ => none
  | _, _ => none
def intA1 : List D → Option Int
  | [.int b] => some b
  | _ => none
def augSF (k : Nat) (oi : Op) (f : Int → Int → Int) (o : Op) : FS := fun ρ => (getS ρ k).bind fun _ => (evOps [oi] ρ).bind fun p => (fetch [oi] p.1 p.2).bind fun is => (elemI is (getS p.2 k)).bind fun ix =>
  (evOps [o] p.2).bind fun p2 => (fetch [o] p2.1 p2.2).bind fun ds => (intA1 ds).bind fun b => (tgSub k (.t (litF (.int ix.1))) (.int (f ix.2 b)) p2.2).bind fun ρ' => some (.nx ρ')
section
variable {K : PySem.W.Frag} {pn : Nat → Bool} {W : WX}
end
section
variable {X : Cx} {pn : Nat → Bool} {W : WX} {o i e : Expr} {tpos pos : Pos}
end
end VS
set_option Elab.async false
set_option linter.all false
set_option maxRecDepth 100000
namespace VS
open PySem PySem.Spec PyProof.Rows L2 RZ
/-! ### for x in reversed(xs), reversed(range(..)); a name of the module that holds a tuple of whole numbers -/
def itRev (f : FE) : FI := fun ρ => (f ρ).bind fun p => (seqD p.1).bind fun xs => some (xs.reverse, p.2)
section
variable {K : PySem.W.Frag} {pn : Nat → Bool} {W : WX}
end
section
variable {X : Cx} {tg e : Expr} {p p2 pos pos2 : Pos}
def GTup (K : PySem.W.Frag) (mg : Str → Option Value) (x : Str) (ns : List Int) : Prop := ∃ a, mg x = some (.ref a) ∧ ∀ G H, Rep K G H (.ref a) (.tup (ns.map D.int)) []
end
end VS
set_option Elab.async false
set_option linter.all false
set_option maxRecDepth 100000
namespace VS
open PySem PySem.Spec PyProof.Rows L2 RZ
/-! ### divmod -/
def dvmOk (j : Int) : Bool := decide (j ≠ 0 ∧ j.natAbs.log2 < 9000)
def rDvm : List V → Hp → VK → Prop := fun xs H Q => ∃ i j, xs = [.int i, .int j] ∧ (j ≠ 0 ∧ j.natAbs.log2 < 9000) ∧ ∀ p, H p = none → Q (.ref p) (upd H p (.tup [.int (i.fdiv j), .int (i.fmod j)]))
def dvmD : List D → Option D
  | [.int i, .int j] => if dvmOk j = true then some (.tup [.int (i.fdiv j), .int (i.fmod j)]) else none
  | _ => none
/-! ### any of whole numbers -/
def rAnyI (K : PySem.W.Frag) : List V → Hp → VK → Prop := fun vs H Q => ∃ (a : Addr) (ns : List Int), vs = [V.ref a] ∧ SqL K H a (ns.map V.int) ∧ Q (.bl (ns.any fun n => n != 0)) H
def anyID : List D → Option D
  | [.lst _ xs] => (intsOf xs).bind fun ns => some (.bl (ns.any fun n => n != 0))
  | _ => none
end VS
set_option Elab.async false
set_option linter.all false
set_option maxRecDepth 100000
namespace VS
open PySem PySem.Spec PyProof.Rows L2 RZ
/-! ### a value that is frozen as soon as it is made -/
def frzF (f : FE) : FE := fun ρ => (f ρ).bind fun p => some (freeze p.1, p.2)
section
variable {K : PySem.W.Frag} {X : Cx} {e : Expr}
theorem simE_frzF {te : TE} {f : FE} (h : SimE K te f) : SimE K te (frzF f) := by
  intro ρ d ρ' e σ G H F r Q q
  obtain ⟨p, e1, e2⟩ := Option.bind_eq_some_iff.mp e
  cases e2
  refine h ρ p.1 p.2 e1 σ G H F r Q fun v G' H' F' L t r' hr n => ?_
  obtain ⟨G1, t1, r1, hr1⟩ := r'.frz hr n
  exact q v G1 H' F' [] ((t.trans t1).post fun a h => h.elim id fun z => nomatch z) r1 hr1 (fun a z => nomatch z)
theorem pf_frz {f : FE} (h : PEf X e f) : PEf X e (frzF f) := by
  obtain ⟨te, p, s⟩ := (po_t h).ex
  exact .mk p (simE_frzF s)
end
end VS
set_option Elab.async false
set_option linter.all false
set_option maxRecDepth 100000
namespace VS
open PySem PySem.Spec PyProof.Rows L2
/-! ### defs with defaults, and calls that leave them out -/
/-- a def whose defaults are whole numbers -/
abbrev FunDf (K : PySem.W.Frag) (x : Str) (st : Stmt) (dis : List Int) (f : Addr) (fd : FuncData) : Prop := FunD K x x (defArgs st) (defBody st) (defScope st) (dis.map V.int) [] f fd
section
variable {P : Program} {w : World} {K : PySem.W.Frag} {mg : Str → Option Value} {base : Heap}
end
/-! list(the script) -/
def listSD : List D → Option D
  | [.scr ns] => some (.lst true (ns.map .int))
  | _ => none
theorem OpsOk.snoc {K : PySem.W.Frag} {G H : Hp} {σ : L2.St} {i : Int} : ∀ {ops : List Op} {ts : List (Option D)} {vs : List V} {M : List Addr}, OpsOk K G H σ ops ts vs M → OpsOk K G H σ (ops ++ [.t (litF (.int i))]) (ts ++ [some (.int i)]) (vs ++ [V.int i]) M
  | _, _, _, _, .nil => .t (L := []) (.int i) (fun a z => nomatch z) .nil
  | _, _, _, _, .b h r => .b h r.snoc
  | _, _, _, _, .t hr hn r => .t hr hn r.snoc
section
variable {X : Cx} {k : Nat} {f : Addr} {fd : FuncData} {ps : List Str} {fn : Fn} {x : Str} {p pos : Pos} {e : Expr} {es : List Expr} {ops : List Op} {i : Int}
end
/-! ### asked by keywords, nothing handed on -/
def callRdKF (fn : Fn) (is : List Nat) (ops : List Op) : FE := fun ρ => (evOps ops ρ).bind fun p => (fetch ops p.1 p.2).bind fun ds => (fn.sem (permL is (freezes ds))).bind fun q => if flat1 q.1 = true then some (q.1, p.2) else none
section
variable {X : Cx} {k : Nat} {f : Addr} {fd : FuncData} {ps ks : List Str} {fn : Fn} {x : Str} {p pos : Pos} {e : Expr} {es : List Expr} {kws : List Keyword} {ops kops : List Op} {is : List Nat}
end
end VS
set_option Elab.async false
set_option linter.all false
set_option maxRecDepth 100000
namespace VS
open PySem PySem.Spec PyProof.Rows L2
/-! ### what is raised: its class by name, its value, the data behind -/
abbrev RX := Env → Option (Str × D × Env)
section
variable (K : PySem.W.Frag) (W : WX)
def PostXE (σ : L2.St) (G H : Hp) (A : Addr → Prop) (n : Str) (d : D) (ρ' : Env) : Prop := ∀ G' H' F' (C dd : Addr) (v : V), Tr G H A G' H' (own F') → REnv K G' H' σ ρ' F' → ClsAt K n C → G' dd = some (.xd [(("value" : Str), v)]) → Rep K G' H' v d [] → W (.ref C) (some dd) σ H'
def RzAt (g : RX) (σ : L2.St) (H : Hp) : Prop := ∃ ρ n d ρ' G F, g ρ = some (n, d, ρ') ∧ REnv K G H σ ρ F ∧ PostXE K W σ G H (own F) n d ρ'
def teX (g : RX) : TE := fun σ H _ => RzAt K W g σ H
def ttX (g : RX) : TT := fun σ H _ => RzAt K W g σ H
def taX (g : RX) : TA := fun σ H _ => RzAt K W g σ H
def tiX (g : RX) : TI := fun σ H _ => RzAt K W g σ H
def tsX (g : RX) : TS := fun _ σ H => RzAt K W g σ H
end
section
variable (X : Cx) (W : WX)
abbrev PEx (e : Expr) (g : RX) : Prop := PE X e (teX X.K W g)
abbrev PTx (e : Expr) (g : RX) : Prop := PT X e (ttX X.K W g)
abbrev PAx (es : List Expr) (g : RX) : Prop := PA X es (taX X.K W g)
abbrev PIx (tg e : Expr) (g : RX) : Prop := PI X tg e (tiX X.K W g)
abbrev PSx (st : Stmt) (g : RX) : Prop := PS X st (tsX X.K W g)
end
def orR (g h : RX) : RX := fun ρ => match g ρ with
  | some q => some q
  | none => h ρ
def thenR (o : Op) (g : RX) : RX := fun ρ => (evOps [o] ρ).bind fun p => g p.2
def thenT (c : FB) (g h : RX) : RX := fun ρ => (c ρ).bind fun p => if p.1 = true then g p.2 else h p.2
def noR : RX := fun _ => none
/-- a statement, and what it may raise -/
def orX (f : FS) (g : RX) : FS := fun ρ => match f ρ with
  | some o => some o
  | none => (g ρ).bind fun q => some (.rz q.1 q.2.1 q.2.2)
section
variable {K : PySem.W.Frag} {W : WX} {σ : L2.St} {H : Hp}
theorem RzAt.or {g h : RX} (r : RzAt K W (orR g h) σ H) : RzAt K W g σ H ∨ RzAt K W h σ H := by
  obtain ⟨ρ, n, d, ρ', G, F, e, r, q⟩ := r
  unfold orR at e
  cases hg : g ρ with
  | some q0 =>
    rw [hg] at e
    exact .inl ⟨ρ, n, d, ρ', G, F, hg.trans e, r, q⟩
  | none =>
    rw [hg] at e
    exact .inr ⟨ρ, n, d, ρ', G, F, e, r, q⟩
theorem RzAt.no {g : Prop} (r : RzAt K W noR σ H) : g := by
  obtain ⟨ρ, n, d, ρ', G, F, e, r, q⟩ := r
  cases e
theorem PostXE.mono {n : Str} {d : D} {ρ' : Env} {G H G1 H1 : Hp} {A A1 : Addr → Prop} (q : PostXE K W σ G H A n d ρ') (t : Tr G H A G1 H1 A1) : PostXE K W σ G1 H1 A1 n d ρ' :=
  fun G' H' F' C dd v t' r' => q G' H' F' C dd v (t.trans t') r'
end
section
variable {X : Cx} {pn : Nat → Bool} {W : WX} {e a b : Expr} {es : List Expr} {pos : Pos} {g h : RX}
/-! arguments -/
/-! operations -/
/-! tests -/
/-! statements -/
end
end VS
set_option Elab.async false
set_option linter.all false
set_option maxRecDepth 100000
namespace VS
open PySem PySem.Spec PyProof.Rows L2
/-! ### defs that may raise -/
abbrev Rz := List D → Option (Str × D × List (Option D))
def bodyRz (nN np : Nat) (pins : List Bool) (f : FS) : Rz := fun ds =>
  if ds.length = np then match f (ds.map some ++ List.replicate (nN - np) none) with
    | some (.rz n d ρ) => some (n, d, finP pins ρ)
    | _ => none
  else none
def spRz (K : PySem.W.Frag) (np : Nat) (rz : Rz) (vs : List V) (H : Hp) (E : XK) : Prop := ∃ G ds L n d os, Same G H ∧ Reps K G H vs ds L ∧ vs.length = np ∧ rz ds = some (n, d, os) ∧
  ∀ (C dd : Addr) (v : V) G' H' P, Tr G H (fun a => a ∈ L) G' H' (fun a => a ∈ P) → ROs K G' H' vs os P → ClsAt K n C → G' dd = some (.xd [(("value" : Str), v)]) → Rep K G' H' v d [] → E (.ref C) (some dd) H'
/-- the promise of a def that may raise -/
def spX (K : PySem.W.Frag) (fn : Fn) (rz : Rz) : Sp := fun vs H Q E => spOf K fn vs H Q E ∨ spRz K fn.np rz vs H E
section
variable {P : Program} {w : World} {K : PySem.W.Frag} {mg : Str → Option Value} {base : Heap}
end
/-! ### calls that may raise -/
def rzF (pins : List Bool) (rz : Rz) (ops : List Op) : RX := fun ρ => (evOps ops ρ).bind fun p => (fetchC pins ops p.1 p.2).bind fun c => (rz c.1).bind fun q => some (q.1, q.2.1, putB ops c.1 q.2.2 c.2)
def rzKF (pins : List Bool) (rz : Rz) (is : List Nat) (ops : List Op) : RX := fun ρ => (evOps ops ρ).bind fun p => (fetchC pins (permL is ops) (permL is p.1) p.2).bind fun c => (rz c.1).bind fun q => some (q.1, q.2.1, putB (permL is ops) c.1 q.2.2 c.2)
section
variable {K : PySem.W.Frag} {W : WX}
end
section
variable {X : Cx} {W : WX} {k : Nat} {f : Addr} {fd : FuncData} {ps ks : List Str} {fn : Fn} {rz : Rz} {x : Str} {p pos : Pos} {e : Expr} {es : List Expr} {ops kops : List Op} {kws : List Keyword}
end
end VS
set_option Elab.async false
set_option linter.all false
set_option maxRecDepth 100000
namespace VS
open PySem PySem.Spec PyProof.Rows L2
/-! ### MatError's __init__ -/
def spInit (K : PySem.W.Frag) : Sp := fun vs H Q _ => ∃ (a C : Addr) (v : V), vs = [.ref a, v] ∧ OexC K C ∧ PySem.W.findIn K (.ref C) "value" = some none ∧ H a = some (exo a C none) ∧
  ∀ dx, H dx = none → dx ≠ a → Q .non (upd (upd H dx (exd dx [(("value" : Str), v)])) a (exo a C (some dx)))
/-! ### raise C(e) -/
def raiseF (n : Str) (f : FE) : FS := fun ρ => (f ρ).bind fun p => if noOwn p.1 = true then some (.rz n p.1 p.2) else none
/-- what the written part says of an own exception class -/
structure ExT (K : PySem.W.Frag) (mg : Str → Option Value) (n : Str) (C : Addr) : Prop where
  at_ : ClsAt K n C
  mg_ : mg n = some (.ref C)
  oex : OexC K C
  ga : PySem.W.findIn K (.ref C) "__getattribute__" = some (some (.builtin "BaseException.__getattribute__"))
  gg : PySem.W.findIn K (.ref C) "__getattr__" = some none
  no : PySem.W.findIn K (.ref C) "value" = some none
  hd : PySem.W.hasDictIn K C = true
  cl : (PySem.W.clsIn K C).isSome = true
  ha : PySem.W.findIn K (.ref C) "__class__" = some (some (.builtin "object.__class__"))
  hn : PySem.W.specialIn K (.builtin "object.__class__") "__get__" = some (some (.builtin "getset_descriptor.__get__"))
  ht : PySem.W.takesIn K (.builtin "object.__class__") = some true
  hm : PySem.W.mroIn K C (.type "object") = some true
section
variable {X : Cx} {pn : Nat → Bool} {W : WX} {e : Expr} {x : Str} {p pos pos2 : Pos} {C fI : Addr} {fdI : FuncData}
end
/-! ### e.value, isinstance of what was caught -/
def ExN (K : PySem.W.Frag) (mg : Str → Option Value) (ns : List Str) : Prop := ∀ n, n ∈ ns → ∃ C, ExT K mg n C
/-- what is said of the classes with these names -/
def AllC (K : PySem.W.Frag) (ns : List Str) (P : Str → Addr → Prop) : Prop := ∀ n, n ∈ ns → ∀ C, ClsAt K n C → P n C
def subB (n c : Str) : Bool := n == c || c == "MatError" || c == "ValueError" || c == "Exception"
def excValD (ns : List Str) : List D → Option D
  | [.exc n d] => if ns.contains n = true then some d else none
  | _ => none
def rExcVal (K : PySem.W.Frag) : V → Hp → VK → Prop := fun x H Q => ∃ (a C dd : Addr) (v : V), x = .ref a ∧ H a = some (ExV a C dd) ∧ H dd = some (.xd [(("value" : Str), v)]) ∧ XfC K C ∧ PySem.W.findIn K (.ref C) "value" = some none ∧ Q v H
theorem ExN.get {K : PySem.W.Frag} {mg : Str → Option Value} {ns : List Str} {n : Str} {C : Addr} (T : ExN K mg ns) (h : ns.contains n = true) (hC : ClsAt K n C) : ExT K mg n C := by
  obtain ⟨D, h⟩ := T n (by simpa using h)
  have := h.at_
  unfold ClsAt at this hC
  rw [hC] at this
  cases this
  exact h
/-- isinstance(x, c), x None or what was caught -/
def isXD (ns : List Str) (c : Str) : List D → Option D
  | [.exc n _] => if ns.contains n = true then some (.bl (subB n c)) else none
  | [.non] => some (.bl false)
  | _ => none
def rIsX (K : PySem.W.Frag) : List V → Hp → VK → Prop := fun xs H Q => ∃ x c cv, xs = [x, c] ∧ ClsV c cv ∧ ((x = .non ∧ PySem.W.kitOne K (.type "NoneType") cv = some false ∧ Q (.bl false) H) ∨
  ∃ (a C dd : Addr) (mg : Str → Option Value) (n : Str) (fs : List (Str × V)) (b : Bool), x = .ref a ∧ H a = some (ExV a C dd) ∧ H dd = some (.xd fs) ∧ ExT K mg n C ∧ PySem.W.kitOne K (.ref C) cv = some b ∧ Q (.bl b) H)
end VS
set_option Elab.async false
set_option linter.all false
set_option maxRecDepth 100000
set_option maxHeartbeats 2000000
namespace VS
open PySem PySem.Spec PyProof.Rows L2
/-! ### try: body, except c as n: suite, .. -/
/-- a clause: the class, the slot of its name (if it has one), its suite's reading -/
abbrev HdT := Value × Option Nat × (Addr → TS)
def endsOf (D : Ends) : Option Nat → Ends
  | some i => { nx := fun σ' H' => D.nx (σ'.set i none) H', rt := D.rt, bk := fun σ' H' => D.bk (σ'.set i none) H', ct := fun σ' H' => D.ct (σ'.set i none) H' }
  | none => D
def stOf (σ : L2.St) (a : Addr) : Option Nat → L2.St
  | some i => σ.set i (some (.ref a))
  | none => σ
def wTry (K : PySem.W.Frag) (Wout : WX) (D : Ends) : List HdT → WX
  | [] => Wout
  | (c, i, ts) :: r => fun cls d σ H => ∃ C dd, cls = .ref C ∧ d = some dd ∧ ∃ b, PySem.W.exmOne K cls c = some b ∧ (b = true → ∀ a, H a = none → ts a (endsOf D i) (stOf σ a i) (upd H a (ExV a C dd))) ∧ (b = false → wTry K Wout D r cls d σ H)
inductive HdsT (X : Cx) : List ExceptHandler → List HdT → Prop
  | nil : HdsT X [] []
  | as {x n : Str} {c : Value} {i : Nat} {ts : Addr → TS} {b₀ : Stmt} {suite : List Stmt} {np pos' : Pos} {hds : List ExceptHandler} {l : List HdT} (hi : X.N[i]? = some n) (hln : X.env.kindOf n = some .local) (hc : Names X x c)
      (hsu : ∀ (a : Addr) (pn : List (Addr × Obj)), PSs (X.suite a pn) (b₀ :: suite) (ts a)) (r : HdsT X hds l) : HdsT X (.ExceptHandler (some (.Name x np)) (some n) (b₀ :: suite) pos' :: hds) ((c, some i, ts) :: l)
  | only {x : Str} {c : Value} {ts : Addr → TS} {b₀ : Stmt} {suite : List Stmt} {np pos' : Pos} {hds : List ExceptHandler} {l : List HdT} (hc : Names X x c)
      (hsu : ∀ (a : Addr) (pn : List (Addr × Obj)), PSs (X.suite a pn) (b₀ :: suite) (ts a)) (r : HdsT X hds l) : HdsT X (.ExceptHandler (some (.Name x np)) none (b₀ :: suite) pos' :: hds) ((c, none, ts) :: l)
section
variable {X : Cx} {pins : List (Addr × Obj)} {σ : L2.St} {H : Hp} {sI s s' : Shared} {B : Heap}
end
section
variable {X : Cx} {body : List Stmt} {h₀ : ExceptHandler} {hds : List ExceptHandler} {l : List HdT} {pos : Pos} {tb : WX → TS} {Wout : WX}
end
end VS
set_option Elab.async false
set_option linter.all false
set_option maxRecDepth 100000
set_option maxHeartbeats 2000000
namespace VS
open PySem PySem.Spec PyProof.Rows L2
/-! ### a pair is unpacked while an exception is handled -/
section
variable {prog : Program} {w : World} {A : Around} {E : Value → Shared → Prop} {s : Shared}
theorem next_end_hot {it t x1 : Addr} {i : Nat} {items} {Q : Option Value → Shared → Prop} (hot : HotX.HotAt A x1 s.heap) (nx : x1 ≠ it)
    (hit : IsTupIter s.heap it t i) (ht : IsTup s.heap t items) (hx : items[i]? = none)
    (hQ : ∀ h', Heap.ExtBut it s.heap h' → Q none { s with heap := h' }) : wpAny (model prog w) A (pyNext (.ref it)) Q E s := by
  obtain ⟨o, ho, hc, hd⟩ := id hit
  obtain ⟨ol, hol, _, nl, hdl⟩ := ht
  obtain ⟨hh, o1, vs1, h1, d1, c1⟩ := hot
  unfold pyNext
  refine wpAny_bind (wpAny_attempt (wpAny_callSpecial?_slot (name := Str.ofString "__next__") hit.typeIs slot_tupleiter_next
    (wpAny_call_entry slot_tupleiter_next hit.typeIs entry_tupleiter_next ?_ (args_tupleiter_next _))))
  show wpAny _ _ (field (.ref it) 0 >>= _) _ _ s
  refine wpAny_bind (wpAny_field ho hd (x := .ref t) rfl ?_)
  show wpAny _ _ (if (Value.ref t == Value.none) = true then _ else _) _ _ s
  rw [if_neg (show ¬ ((Value.ref t == Value.none) = true) from Bool.false_ne_true)]
  show wpAny _ _ (field (.ref it) 1 >>= _) _ _ s
  refine wpAny_bind (wpAny_field ho hd (x := .int i 0) rfl ?_)
  show wpAny _ _ (seqItems? (.ref t) >>= _) _ _ s
  refine wpAny_bind (wpAny_seqItems hol hdl ?_)
  simp only [Int.toNat_natCast, hx]
  refine wpAny_bind (wpAny_rule (wpAny_bind (wpAny_setField ho hd (by simp) ?_)))
  show wpAny _ _ (newExc (.type "StopIteration") [] >>= _) _ _ _
  refine wpAny_bind ?_
  simp only [newExc, newTuple]
  refine wpAny_bind (wpAny_newObj_type ?_ (by size_fits))
  refine wpAny_bind (m := firstArgMember _ _) (wpAny_of_eq (a := Value.none) (by first | rfl | (simp only [firstArgMember]; rfl)) ?_)
  refine wpAny_newObj_type ?_ (by size_fits)
  have h1' : ∀ f, (s.heap.update it f).get? x1 = some o1 := fun f => (Heap.get?_update_other _ _ (Ne.symm nx)).trans h1
  refine HotX.raiseNew_hot ⟨hh, o1, vs1, Heap.get?_push_of_some _ (Heap.get?_push_of_some _ (h1' _)), d1, c1⟩ (Nat.ne_of_lt (Heap.lt_size (Heap.get?_push_of_some _ (h1' _)))) (Heap.get?_push_size _ rfl) rfl (by first | (simp; done) | (simp; omega) | (simp only [Array.size_append]; simp; omega)) ?_
  refine wpAny_bind (wpAny_isInstance (T := "StopIteration") (b := true) ⟨_, Heap.get?_update_self _ (Heap.get?_push_size _ rfl) rfl, rfl⟩ isSubtype_stop ?_)
  refine wpAny_pure (hQ _ fun b o hb e => ?_)
  have e0 : ∀ f, (s.heap.update it f).get? b = some o := fun f => (Heap.get?_update_other _ _ (Ne.symm hb)).trans e
  rw [Heap.get?_update_other _ _ (Nat.ne_of_gt (Heap.lt_size (Heap.get?_push_of_some _ (e0 _))))]
  exact Heap.get?_push_of_some _ (Heap.get?_push_of_some _ (e0 _))
theorem unpack_hot {t x1 : Addr} {items : Array Value} {Q : List Value → Shared → Prop} (hot : HotX.HotAt A x1 s.heap) (ht : IsTup s.heap t items)
    (hQ : ∀ h', Heap.ExtBut s.heap.objs.size s.heap h' → Q items.toList { s with heap := h' }) : wpAny (model prog w) A (unpackItems (.ref t) items.size none) Q E s := by
  have hlt : t ≠ s.heap.objs.size := by obtain ⟨o, ho, _⟩ := ht; exact Nat.ne_of_lt (Heap.lt_size ho)
  obtain ⟨hh, o1, vs1, h1, d1, c1⟩ := hot
  have nx : x1 ≠ s.heap.objs.size := Nat.ne_of_lt (Heap.lt_size h1)
  unfold unpackItems
  refine wpAny_bind ?_
  · unfold notIterableAtAll
    refine wpAny_bind (wpAny_specialOf ht.typeIs slot_tuple_iter.lookup ?_)
    refine wpAny_pure ?_
    simp only [Bool.false_eq_true, if_false]
    refine wpAny_bind (wpAny_holding (iter_tuple ht ?_))
    refine wpAny_bind (wpAny_holding (draw_tuple hlt items.size 0 _ _ ⟨_, Heap.get?_push_size _ rfl, rfl, rfl⟩ (ht.push _) (by omega) fun h₁ hit₁ hs₁ => ?_))
    rw [show List.take items.size (List.drop 0 items.toList) = items.toList by rw [List.drop_zero]; exact List.take_of_length_le (by simp), if_neg (by simp)]
    have ht₁ : IsTup h₁ t items := (ht.push _).extBut hs₁.extBut hlt
    have h1₁ : h₁.get? x1 = some o1 := hs₁.extBut x1 o1 nx (Heap.get?_push_of_some _ h1)
    refine wpAny_bind (wpAny_holding (next_end_hot (x1 := x1) ⟨hh, o1, vs1, h1₁, d1, c1⟩ nx hit₁ ht₁ (by simp) fun h₂ he₂ => ?_))
    simp only [Option.isSome_none, Bool.false_eq_true, if_false]
    exact wpAny_pure (hQ h₂ fun b o hb e => he₂ b o hb (hs₁.extBut b o hb (Heap.get?_push_of_some _ e)))
end
/-- a, b = x, y in an except suite: the caught exception stands as it was made -/
def tParH (a : Addr) (i j : Nat) (ta : TA) : TS := fun D σ H => ta σ H fun vs H1 => ∃ v w, vs = [v, w] ∧ (∃ C dd, H1 a = some (ExV a C dd)) ∧ D.nx ((σ.set i (some v)).set j (some w)) H1
theorem ps_parH {X : Cx} {a : Addr} {pn : List (Addr × Obj)} {pos : Pos} {i j : Nat} {x y : Str} {e1 e2 : Expr} {ta : TA} {px py pt : Pos} {kt k2 pt2} (hN : X.N.Nodup) (hi : X.N[i]? = some x) (hj : X.N[j]? = some y) (hij : i ≠ j)
    (hx : X.env.scope.names.lookup x = some .local) (hy : X.env.scope.names.lookup y = some .local) (ha : PA (X.suite a pn) [e1, e2] ta)
    (hw : swappedStores [.Tuple [.Name x px, .Name y py] kt pt] (.Tuple [e1, e2] k2 pt2) X.env = pure (some [x, y]))
    (hs : swapsWithSole [.Tuple [.Name x px, .Name y py] kt pt] (.Tuple [e1, e2] k2 pt2) pos.line X.env = pure false) :
    PS (X.suite a pn) (.Assign [.Tuple [.Name x px, .Name y py] kt pt] (.Tuple [e1, e2] k2 pt2) pos) (tParH a i j ta) := by
  refine ⟨fun pins s σ H D I h => ?_⟩
  rw [exec_Assign_arm]
  refine wpAny_bind (wpAny_standAt ?_)
  rw [show swapsWithSole [.Tuple [.Name x px, .Name y py] kt pt] (.Tuple [e1, e2] k2 pt2) pos.line (X.suite a pn).env = pure false from hs]
  refine wpAny_bind (wpAny_pure ?_)
  rw [if_neg (by decide)]
  refine wpAny_bind (Tuple_ (thn (ha.run _ pins s σ H _ I h) fun us s1 ⟨vs, H1, I1, r1, q1⟩ => ?_))
  obtain ⟨v, w, ev, ⟨C, dd, hx1⟩, q1⟩ := q1
  subst ev
  obtain ⟨u1, u2, rfl, rv, rw'⟩ : ∃ u1 u2, us = [u1, u2] ∧ RelV v u1 ∧ RelV w u2 := by
    cases r1 with
    | cons p q =>
      cases q with
      | cons p' q' =>
        cases q'
        exact ⟨_, _, rfl, p, p'⟩
  refine wpAny_newObj_type ?_ (by show 2 ≤ sizeLine; decide)
  have I2 : Inv (X.suite a pn) pins σ H1 { s1 with heap := s1.heap.push { cls := .type "tuple", data := .seq [u1, u2].toArray } } := I1.kept (t' := s1.toks) fun b o e => Heap.get?_push_of_some _ e
  have hot : HotX.HotAt (X.suite a pn).A a (s1.heap.push { cls := .type "tuple", data := .seq [u1, u2].toArray }) := by
    obtain ⟨⟨oe, vs, ge, z, d⟩, _⟩ := I2.hok a _ hx1
    exact ⟨rfl, oe, vs, ge, d, z.2.2 vs d⟩
  rw [show swappedStores [.Tuple [.Name x px, .Name y py] kt pt] (.Tuple [e1, e2] k2 pt2) (X.suite a pn).env = pure (some [x, y]) from hw]
  refine wpAny_bind (wpAny_pure ?_)
  show wpAny (model X.prog X.w) (X.suite a pn).A (do rule "assign.swapped-stores"; let items ← unpackItems (.ref s1.heap.objs.size) 2 none; assignInOrder [fun v => bindName X.env y v, fun v => bindName X.env x v] items.reverse; pure Flow.next) _ _ _
  refine wpAny_bind (wpAny_rule (wpAny_bind (unpack_hot (items := #[u1, u2]) hot (IsTup.new s1.heap _) fun h' hx' => ?_)))
  have I3 := I2.kept (h' := h') (t' := s1.toks) fun b o e => hx' b o (Nat.ne_of_lt (Heap.lt_size e)) e
  show wpAny _ _ (assignInOrder [fun v => bindName X.env y v, fun v => bindName X.env x v] [u2, u1] >>= fun _ => pure Flow.next) _ _ _
  refine wpAny_bind (assignInOrder_cons (wpAny_bindName (store_ok (X := X.suite a pn) I3 hN hj (.inl hy) rw' (fun s2 I4 => ?_) (.inr hy))))
  refine assignInOrder_cons (wpAny_bindName (store_ok (X := X.suite a pn) I4 hN hi (.inl hx) rv (fun s3 I5 => assignInOrder_nil (wpAny_pure ?_)) (.inr hx)))
  rw [List.set_comm _ _ (Ne.symm hij)] at I5
  exact ⟨_, H1, I5, q1⟩
end VS
set_option Elab.async false
set_option linter.all false
set_option maxRecDepth 100000
namespace VS
open PySem PySem.Spec PyProof.Rows L2
/-! ### try by its data: a clause: its class's name, the slot of its name, its suite -/
abbrev HdF := Str × Option Nat × FS
def clrO (i : Option Nat) : Out → Option Out
  | .nx ρ => some (.nx (match i with | some i => ρ.set i none | none => ρ))
  | .bk ρ => some (.bk (match i with | some i => ρ.set i none | none => ρ))
  | .ct ρ => some (.ct (match i with | some i => ρ.set i none | none => ρ))
  | .rt d ρ => some (.rt d ρ)
  | .rz _ _ _ => none
def putE (ρ : Env) (n : Str) (d : D) : Option Nat → Env
  | some i => ρ.set i (some (.exc n d))
  | none => ρ
def goHd (ns : List Str) (n : Str) (d : D) (ρ : Env) : List HdF → Option Out
  | [] => some (.rz n d ρ)
  | (c, i, f) :: r => if ns.contains n = true then (if subB n c = true then (f (putE ρ n d i)).bind (clrO i) else goHd ns n d ρ r) else none
def tryF (ns : List Str) (body : FS) (hs : List HdF) : FS := fun ρ => (body ρ).bind fun o => match o with
  | .rz n d ρ1 => goHd ns n d ρ1 hs
  | o => some o
def tryT (tb : WX → TS) (K : PySem.W.Frag) (Wout : WX) (l : List HdT) : TS := fun D σ H => tb (wTry K Wout D l) D σ H
section
variable {K : PySem.W.Frag} {pn : Nat → Bool} {W : WX}
/-- a suite's reading: the caught exception stands frozen at a -/
def SimH (K : PySem.W.Frag) (pn : Nat → Bool) (a : Addr) (ts : TS) (f : FS) : Prop := ∀ ρ o, f ρ = some o → ∀ (σ : L2.St) (G H : Hp) (F : Nat → List Addr), REnv K G H σ ρ F → (∃ C dd, G a = some (ExV a C dd)) → ∀ E : Ends, Post K pn noW σ G H (own F) E o → ts E σ H
theorem SimH.of {a : Addr} {ts : TS} {f : FS} (h : SimS K pn noW ts f) : SimH K pn a ts f := fun ρ o e σ G H F r _ E q => h ρ o e σ G H F r E q
inductive HdS (K : PySem.W.Frag) (pn : Nat → Bool) (ns : List Str) : List HdT → List HdF → Prop
  | nil : HdS K pn ns [] []
  | cons {c : Str} {cv : Value} {i : Option Nat} {ts : Addr → TS} {f : FS} {l : List HdT} {hs : List HdF} (hi : ∀ j, i = some j → pn j = false) (hx : AllC K ns fun n C => PySem.W.exmOne K (.ref C) cv = some (subB n c)) (h : ∀ a, SimH K pn a (ts a) f) (r : HdS K pn ns l hs) : HdS K pn ns ((cv, i, ts) :: l) ((c, i, f) :: hs)
end
/-- the clauses by their text -/
inductive HdP (X : Cx) (pn : Nat → Bool) (ns : List Str) : List ExceptHandler → List HdF → Prop
  | nil : HdP X pn ns [] []
  | as {x n c : Str} {cv : Value} {i : Nat} {f : FS} {b₀ : Stmt} {suite : List Stmt} {np pos' : Pos} {hds : List ExceptHandler} {hs : List HdF} (hi : X.N[i]? = some n) (hln : X.env.kindOf n = some .local) (hp : pn i = false) (hc : Names X x cv) (hx : AllC X.K ns fun n C => PySem.W.exmOne X.K (.ref C) cv = some (subB n c))
      (hsu : ∀ (a : Addr) (pn' : List (Addr × Obj)), PSsf (X.suite a pn') pn noW (b₀ :: suite) f) (r : HdP X pn ns hds hs) : HdP X pn ns (.ExceptHandler (some (.Name x np)) (some n) (b₀ :: suite) pos' :: hds) ((c, some i, f) :: hs)
  | asPar {x n c u v : Str} {cv : Value} {i j l : Nat} {ops : List Op} {e1 e2 : Expr} {px py pt np pos' pos : Pos} {kt k2 pt2} {hds : List ExceptHandler} {hs' : List HdF} (hN : X.N.Nodup) (hi : X.N[i]? = some n) (hln : X.env.kindOf n = some .local) (hp : pn i = false) (hc : Names X x cv) (hx : AllC X.K ns fun n C => PySem.W.exmOne X.K (.ref C) cv = some (subB n c))
      (hj : X.N[j]? = some u) (hl : X.N[l]? = some v) (hjl : j ≠ l) (hpp : ∀ k ∈ [j, l], pn k = false) (hu : X.env.scope.names.lookup u = some .local) (hv : X.env.scope.names.lookup v = some .local)
      (ha : ∀ (a : Addr) (pn' : List (Addr × Obj)), PAf (X.suite a pn') [e1, e2] ops)
      (hw : swappedStores [.Tuple [.Name u px, .Name v py] kt pt] (.Tuple [e1, e2] k2 pt2) X.env = pure (some [u, v]))
      (hs : swapsWithSole [.Tuple [.Name u px, .Name v py] kt pt] (.Tuple [e1, e2] k2 pt2) pos.line X.env = pure false)
      (r : HdP X pn ns hds hs') : HdP X pn ns (.ExceptHandler (some (.Name x np)) (some n) [.Assign [.Tuple [.Name u px, .Name v py] kt pt] (.Tuple [e1, e2] k2 pt2) pos] pos' :: hds) ((c, some i, parF [j, l] ops) :: hs')
  | only {x c : Str} {cv : Value} {f : FS} {b₀ : Stmt} {suite : List Stmt} {np pos' : Pos} {hds : List ExceptHandler} {hs : List HdF} (hc : Names X x cv) (hx : AllC X.K ns fun n C => PySem.W.exmOne X.K (.ref C) cv = some (subB n c))
      (hsu : ∀ (a : Addr) (pn' : List (Addr × Obj)), PSsf (X.suite a pn') pn noW (b₀ :: suite) f) (r : HdP X pn ns hds hs) : HdP X pn ns (.ExceptHandler (some (.Name x np)) none (b₀ :: suite) pos' :: hds) ((c, none, f) :: hs)
theorem SimH.par {K : PySem.W.Frag} {pn : Nat → Bool} {a : Addr} {i j : Nat} {ops : List Op} (hp : ∀ k ∈ [i, j], pn k = false) : SimH K pn a (tParH a i j (taOf K ops)) (parF [i, j] ops) := by
  intro ρ o e σ G H F r ⟨C, dd, hG⟩ E q
  unfold parF at e
  cases he : evOps ops ρ with
  | none => rw [he] at e; cases e
  | some p =>
    obtain ⟨ts, ρ1⟩ := p
    rw [he] at e
    have e1 : (takeN ops ts ρ1).bind (fun ds => if ds.length = [i, j].length then some (Out.nx (setAll [i, j] ds ρ1)) else none) = some o := e
    cases htk : takeN ops ts ρ1 with
    | none => rw [htk] at e1; cases e1
    | some ds =>
      rw [htk] at e1
      have e2 : (if ds.length = [i, j].length then some (Out.nx (setAll [i, j] ds ρ1)) else none) = some o := e1
      split at e2
      · rename_i hl
        cases e2
        refine simA_of ops ρ ts ρ1 he σ G H F r _ fun vs G1 H1 F1 M t1 r1 ok n1 => ?_
        have rs := ok.take r1 htk
        obtain ⟨F2, r2, s2, p2⟩ := setAll_ok (is := [i, j]) hp r1 rs n1
        have hv : vs.length = 2 := rs.length.trans hl
        match vs, hv, r2, p2 with
        | [v, w], _, r2, p2 => exact ⟨v, w, rfl, ⟨C, dd, t1.sub a _ (t1.g a _ hG)⟩, q _ G1 H1 F2 (t1.post s2) r2 p2⟩
      · cases e2
theorem HdP.go {X : Cx} {pn : Nat → Bool} {ns : List Str} : ∀ {hds : List ExceptHandler} {hs : List HdF}, HdP X pn ns hds hs → ∃ l, HdsT X hds l ∧ HdS X.K pn ns l hs
  | _, _, .nil => ⟨[], .nil, .nil⟩
  | _, _, .as hi hln hp hc hx hsu r => by
    obtain ⟨l, a, b⟩ := r.go
    exact ⟨_, .as (ts := fun _ => tsOf X.K pn noW _) hi hln hc hsu a, .cons (fun j e => by cases e; exact hp) hx (fun _ => .of (simS_of _)) b⟩
  | _, _, .asPar hN hi hln hp hc hx hj hl hjl hpp hu hv ha hw hs r => by
    obtain ⟨l, a, b⟩ := r.go
    exact ⟨_, .as (ts := fun a => tParH a _ _ (taOf X.K _)) hi hln hc (fun a pn' => pss_one (ps_parH hN hj hl hjl hu hv (ha a pn') hw hs)) a, .cons (fun j e => by cases e; exact hp) hx (fun a => .par hpp) b⟩
  | _, _, .only hc hx hsu r => by
    obtain ⟨l, a, b⟩ := r.go
    exact ⟨_, .only (ts := fun _ => tsOf X.K pn noW _) hc hsu a, .cons (fun j e => by cases e) hx (fun _ => .of (simS_of _)) b⟩
end VS
set_option Elab.async false
set_option linter.all false
set_option maxRecDepth 100000
namespace VS
open PySem PySem.Spec PyProof.Rows L2
section
variable {X : Cx} {pn : Nat → Bool} {W : WX} {e a b : Expr} {es : List Expr} {pos : Pos} {g h : RX}
end
/-! ### isinstance of what was caught, by a tuple of classes -/
def tCs : List V → TA
  | [] => tNil
  | v :: r => tCons (tC v) (tCs r)
def isXTD (ns : List Str) (cs : List Str) : List D → Option D
  | [.exc n _] => if ns.contains n = true then some (.bl (cs.any (subB n))) else none
  | [.non] => some (.bl false)
  | _ => none
def rIsXT (K : PySem.W.Frag) : List V → Hp → VK → Prop := fun xs H Q => ∃ (x : V) (tp : Addr) (cs : List V) (us : List Value), xs = [x, .ref tp] ∧ H tp = some (.tup cs) ∧ Paired ClsV cs us ∧ ((x = .non ∧ PySem.W.kitAny K (.type "NoneType") us = some false ∧ Q (.bl false) H) ∨
  ∃ (a C dd : Addr) (mg : Str → Option Value) (n : Str) (fs : List (Str × V)) (b : Bool), x = .ref a ∧ H a = some (ExV a C dd) ∧ H dd = some (.xd fs) ∧ ExT K mg n C ∧ PySem.W.kitAny K (.ref C) us = some b ∧ Q (.bl b) H)
end VS
set_option Elab.async false
set_option linter.all false
set_option maxRecDepth 100000
namespace VS
open PySem PySem.Spec PyProof.Rows L2
/-! ### e.index(x), e any list -/
def isLq : Option (D × Env) → Bool
  | some (.lst _ _, _) => true
  | _ => false
def methTF (f : FE) (g : List D → Option D) (ops : List Op) : FE := fun ρ => if isLq (f ρ) = true then opF g (.t f :: ops) ρ else none
section
variable {X : Cx} {W : WX} {o e : Expr} {es : List Expr} {f : FE} {g : RX} {ops : List Op} {apos cpos : Pos}
end
end VS
set_option Elab.async false
set_option linter.all false
namespace VS
open PySem PySem.Spec PyProof.Rows L2
/-! ### sorted(xs), also of one thing or none -/
def rSortedN (K : PySem.W.Frag) : List V → Hp → VK → Prop := fun vs H Q => rSortedM K vs H Q ∨ ∃ (a : Addr) (ys : List V), vs = [V.ref a] ∧ SqL K H a ys ∧ ys.length ≤ 1 ∧ ∀ p, H p = none → Q (.ref p) (upd H p (.lst ys))
def sortedND : List D → Option D
  | [.lst o xs] => if xs.length ≤ 1 then (if noOwns xs = true then some (.lst true xs) else none) else sortedMD [.lst o xs]
  | _ => none
end VS
set_option Elab.async false
set_option linter.all false
set_option maxRecDepth 100000
namespace VS
open PySem PySem.Spec PyProof.Rows L2
/-! ### a dict of whole numbers, in a slot -/
def valI (kvs : List (Int × Int)) (k : Int) : Option Int := (kvs.find? fun p => decide (p.1 = k)).map (·.2)
def putI (kvs : List (Int × Int)) (k v : Int) : List (Int × Int) := if (kvs.any fun p => decide (p.1 = k)) = true then kvs.map (fun p => if p.1 = k then (p.1, v) else p) else kvs ++ [(k, v)]
def dropI (kvs : List (Int × Int)) (k : Int) : List (Int × Int) := kvs.filter fun p => decide (p.1 ≠ k)
section
variable {K : PySem.W.Frag} {pn : Nat → Bool}
/-- {} -/
def dctF : FE := fun ρ => some (.dct true [], ρ)
/-- d[k] -/
def dgetD : List D → Option D
  | [.dct _ kvs, .int k] => (valI kvs k).map D.int
  | _ => none
/-- d[k] = v -/
def rSetDK : V → V → V → Hp → (Hp → Prop) → Prop := fun o i v H Q => ∃ p kvs k, o = .ref p ∧ i = kV k ∧ H p = some (.dK kvs) ∧ kvs.length < sizeLine ∧ Q (upd H p (.dK (putK kvs k v)))
def dputAt (ρ : Env) (k : Nat) (d : D) (ds : List D) : Option Env := match d, ds, getS ρ k with
  | .int v, [.int i], some (.dct true kvs) => if kvs.length < smallL then some (ρ.set k (some (.dct true (putI kvs i v)))) else none
  | _, _, _ => none
def tgPut (k : Nat) (oi : Op) : D → Env → Option Env := fun d ρ => (getS ρ k).bind fun _ => (evOps [oi] ρ).bind fun p => (fetch [oi] p.1 p.2).bind fun ds => dputAt p.2 k d ds
/-- d.pop(k) -/
def dpopAt (ρ : Env) (k : Nat) (ds : List D) : Option (D × Env) := match ds, getS ρ k with
  | [.int i], some (.dct true kvs) => (valI kvs i).bind fun v => some (.int v, ρ.set k (some (.dct true (dropI kvs i))))
  | _, _ => none
def dpopF (k : Nat) (oi : Op) : FE := fun ρ => match getS ρ k with
  | some (.dct true _) => (evOps [oi] ρ).bind fun p => (fetch [oi] p.1 p.2).bind fun ds => dpopAt p.2 k ds
  | _ => none
/-- d.get(k, x) -/
def dget2At (ρ : Env) (k : Nat) (ds : List D) : Option (D × Env) := match ds, getS ρ k with
  | [.int i, .int z], some (.dct _ kvs) => some (.int ((valI kvs i).getD z), ρ)
  | _, _ => none
def dget2F (k : Nat) (o1 o2 : Op) : FE := fun ρ => match getS ρ k with
  | some (.dct _ _) => (evOps [o1, o2] ρ).bind fun p => (fetch [o1, o2] p.1 p.2).bind fun ds => dget2At p.2 k ds
  | _ => none
end
section
variable {X : Cx} {pn : Nat → Bool} {a b e f : Expr} {apos cpos pos : Pos}
end
end VS
set_option Elab.async false
set_option linter.all false
set_option maxRecDepth 100000
namespace VS
open PySem PySem.Spec PyProof.Rows L2
/-! ### (a, b, ..) = a tuple, or a list that is read -/
def tgU (n : Nat) (gs : List D → Env → Option Env) : D → Env → Option Env := fun d ρ => match d with
  | .tup xs => if xs.length = n then gs xs ρ else none
  | .lst false xs => if xs.length = n then gs xs ρ else none
  | _ => none
def gU (K : PySem.W.Frag) (n : Nat) (t : TGs) : TG := fun v σ H Q => gTup K n t v σ H Q ∨ gUnl K n t v σ H Q
section
variable {K : PySem.W.Frag} {pn : Nat → Bool}
end
section
variable {X : Cx} {pn : Nat → Bool} {es : List Expr} {k n : Nat} {pos : Pos}
end
end VS
set_option Elab.async false
set_option linter.all false
set_option maxRecDepth 100000
namespace VS
open PySem PySem.Spec PyProof.Rows L2 RZ
/-! ### gcd -/
def gcdD : List D → Option D
  | [.int a, .int b] => some (.int ((Nat.gcd a.natAbs b.natAbs : Nat) : Int))
  | _ => none
section
variable {X : Cx} {p pos : Pos} {e : Expr} {es : List Expr} {o : Op} {ops : List Op} {x : Str}
end
/-! ### e.count(x), whole numbers -/
def cntD : List D → Option D
  | [.lst _ xs, .int k] => (intsOf xs).bind fun ns => some (.int (ns.count k : Nat))
  | _ => none
section
variable {X : Cx} {W : WX} {o e : Expr} {es : List Expr} {f : FE} {g : RX} {ops : List Op} {apos cpos : Pos}
end
end VS
set_option Elab.async false
set_option linter.all false
set_option maxRecDepth 100000
namespace VS
open PySem PySem.Spec PyProof.Rows L2 RZ
end VS
set_option Elab.async false
set_option linter.all false
set_option maxRecDepth 100000
namespace VS
open PySem PySem.Spec PyProof.Rows L2 RZ
/-! ### a & 1, a >>= 1, min and max of a list -/
def bandD : List D → Option D
  | [.int a, .int b] => if 0 ≤ a ∧ b = 1 then some (.int (a % 2)) else none
  | _ => none
def rOdd : R2 := fun x y H Q => ∃ n : Nat, x = .int (n : Int) ∧ y = .int 1 ∧ Q (.int ((n % 2 : Nat) : Int)) H
def ishrD : List D → Option D
  | [.int a, .int b] => if b = 1 then some (.int (a / 2)) else none
  | _ => none
def minIs : List Int → Option Int
  | [] => none
  | a :: r => match minIs r with | none => some a | some b => some (if b < a then b else a)
def maxIs : List Int → Option Int
  | [] => none
  | a :: r => match maxIs r with | none => some a | some b => some (if a < b then b else a)
def min1D : List D → Option D
  | [.lst _ xs] => (intsOf xs).bind fun ns => (minIs ns).map D.int
  | _ => none
def max1D : List D → Option D
  | [.lst _ xs] => (intsOf xs).bind fun ns => (maxIs ns).map D.int
  | _ => none
section
variable {K : PySem.W.Frag}
end
/-! ### first, *others = a list that is read -/
def gStar (K : PySem.W.Frag) (t : TGs) : TG := fun v σ H Q => ∃ a x xs, v = .ref a ∧ SqL K H a (x :: xs) ∧ xs.length ≤ 16000 ∧ ∀ p, H p = none → t [x, .ref p] σ (upd H p (.lst xs)) Q
section
variable {X : Cx} {pos : Pos}
end
def tgStar (gs : List D → Env → Option Env) : D → Env → Option Env := fun d ρ => match d with
  | .lst false (x :: xs) => if xs.length ≤ 16000 then gs [x, .lst true xs] ρ else none
  | _ => none
section
variable {K : PySem.W.Frag} {pn : Nat → Bool}
end
end VS
set_option Elab.async false
set_option linter.all false
set_option maxRecDepth 100000
namespace VS
open PySem PySem.Spec PyProof.Rows L2 RZ
/-! ### while (x := e) op b: .. -/
def walF (i : Nat) (f : FE) (fb : FB) : FB := fun ρ => (f ρ).bind fun p => fb (p.2.set i (some p.1))
def SimTw (K : PySem.W.Frag) (pn : Nat → Bool) (tt : TTw) (f : FB) : Prop := ∀ ρ b ρ', f ρ = some (b, ρ') → ∀ (σ : L2.St) (G H : Hp) (F : Nat → List Addr), REnv K G H σ ρ F → ∀ Q : Bool → L2.St → Hp → Prop,
  (∀ σ' G' H' F', Tr G H (own F) G' H' (own F') → REnv K G' H' σ' ρ' F' → Pin pn σ σ' → Q b σ' H') → tt σ H Q
section
variable {K : PySem.W.Frag} {pn : Nat → Bool} {W : WX}
end
section
variable {X : Cx} {pn : Nat → Bool} {W : WX} {e b : Expr} {pos pos3 p1 p2 : Pos}
end
section
variable {X : Cx} {pn : Nat → Bool} {es : List Expr} {pos : Pos} {e : Expr}
end
end VS
set_option Elab.async false
set_option linter.all false
set_option maxRecDepth 100000
namespace VS
open PySem PySem.Spec PyProof.Rows L2 RZ
/-! ### a def that is asked and hands on tuples alone: what is shown to it stays the caller's -/
mutual
def pureT : D → Bool
  | .tup xs => pureTs xs
  | .lst _ _ => false
  | .dct _ _ => false
  | .scr _ => false
  | .exc _ _ => false
  | _ => true
def pureTs : List D → Bool
  | [] => true
  | x :: r => pureT x && pureTs r
end
section
variable {K : PySem.W.Frag}
mutual
theorem Rep.pure {G H G' H' : Hp} (k : ∀ a vs, SqT K G a vs → SqT K G' a vs) {v : V} {d : D} {L : List Addr} (h : pureT d = true) (r : Rep K G H v d L) : Rep K G' H' v d [] := by
  cases r with
  | non => exact .non
  | bl b => exact .bl b
  | int i => exact .int i
  | str s => exact .str s
  | ty n => exact .ty n
  | tup h1 r => exact .tup (k _ _ h1) (Reps.pure k h r)
  | scr h1 => cases h
  | exc h1 h2 h3 r => cases h
  | lstS h1 r e => cases h
  | lstO h1 h2 h3 r => cases h
  | dctS h1 => cases h
  | dctO h1 h2 => cases h
theorem Reps.pure {G H G' H' : Hp} (k : ∀ a vs, SqT K G a vs → SqT K G' a vs) {vs : List V} {ds : List D} {L : List Addr} (h : pureTs ds = true) (r : Reps K G H vs ds L) : Reps K G' H' vs ds [] := by
  cases r with
  | nil => exact .nil
  | cons h1 r1 n =>
    have h : (pureT _ && pureTs _) = true := h
    rw [Bool.and_eq_true] at h
    exact Reps.cons0 (Rep.pure k h.1 h1) (Reps.pure k h.2 r1)
end
open Classical in
/-- what may be owned is frozen -/
noncomputable def gFrz (G H : Hp) : Hp := fun a => if G a = none then (if ∃ o, H a = some o ∧ LD o then H a else none) else G a
theorem gFrz_G {G H : Hp} : Same G (gFrz G H) := fun a o e => by
  unfold gFrz; rw [if_neg (by rw [e]; exact fun z => by cases z), e]
theorem gFrz_H {G H : Hp} (s : Same G H) : Same (gFrz G H) H := fun a o e => by
  unfold gFrz at e
  split at e
  · split at e
    · exact e
    · cases e
  · exact s a o e
theorem gFrz_o {G H : Hp} {v : V} {d : D} {L : List Addr} (r : Rep K G H v d L) : ∀ a ∈ L, gFrz G H a = H a := fun a ha => by
  obtain ⟨h1, h2⟩ := r.owned a ha
  unfold gFrz; rw [if_pos h1, if_pos h2]
/-- the caller's view behind the call -/
def gBack (G1 H1 G' : Hp) : Hp := fun a => match H1 a with
  | none => G' a
  | some _ => G1 a
theorem back_ok {G1 H1 G' H' : Hp} {A' : Addr → Prop} (s : Same G1 H1) (t : Tr (gFrz G1 H1) H1 (fun a => a ∈ ([] : List Addr)) G' H' A') : Tr G1 H1 (fun _ => False) (gBack G1 H1 G') H' (fun _ => False) ∧ ∀ a vs, SqT K G' a vs → SqT K (gBack G1 H1 G') a vs := by
  have kp : ∀ a o, H1 a = some o → H' a = some o := fun a o e => t.keep a o e fun z => nomatch z
  refine ⟨⟨fun a o e => ?_, fun a o e => ?_, fun a o e _ => kp a o e, fun a o e _ => ?_, fun _ z => .inl z, fun a e => ?_⟩, fun a vs h => ?_⟩
  · unfold gBack; rw [s a o e]; exact e
  · unfold gBack at e
    cases ha : H1 a with
    | none => rw [ha] at e; exact t.sub a o e
    | some o' => rw [ha] at e; exact kp a o (s a o e)
  · unfold gBack; rw [e]
  · cases ha : H1 a with
    | none => rfl
    | some o => rw [kp a o ha] at e; cases e
  · have key : ∀ u, G' a = some u → (¬ LD u) → gBack G1 H1 G' a = some u := fun u hu hn => by
      unfold gBack
      cases ha : H1 a with
      | none => exact hu
      | some o =>
        have := t.keepG a o ha fun z => nomatch z
        rw [hu] at this
        unfold gFrz at this
        show G1 a = some u
        split at this
        · split at this
          · rename_i h2
            obtain ⟨o2, e2, l2⟩ := h2
            rw [e2] at this
            cases this
            exact absurd l2 hn
          · cases this
        · exact this.symm
    rcases h with h | h
    · rcases h with h | ⟨o, h⟩
      · exact .inl (.inl (key _ h fun z => nomatch z))
      · exact .inl (.inr ⟨o, key _ h fun z => nomatch z⟩)
    · exact .inr h
def callRtF (fn : Fn) (ops : List Op) : FE := fun ρ => (evOps ops ρ).bind fun p => (fetch ops p.1 p.2).bind fun ds => (fn.sem (freezes ds)).bind fun q => if pureT q.1 = true then some (q.1, p.2) else none
def callRtKF (fn : Fn) (is : List Nat) (ops : List Op) : FE := fun ρ => (evOps ops ρ).bind fun p => (fetch ops p.1 p.2).bind fun ds => (fn.sem (permL is (freezes ds))).bind fun q => if pureT q.1 = true then some (q.1, p.2) else none
end
section
variable {X : Cx} {pn : Nat → Bool} {W : WX} {k : Nat} {f : Addr} {fd : FuncData} {ps ks : List Str} {fn : Fn} {x : Str} {p pos : Pos} {e : Expr} {es : List Expr} {kws : List Keyword} {ops kops : List Op} {is : List Nat}
end
end VS
set_option Elab.async false
set_option linter.all false
set_option maxRecDepth 100000
namespace VS
open PySem PySem.Spec PyProof.Rows L2 RZ
/-! ### xs[a:c] = a list made for it -/
def slPut (ρ : Env) (k : Nat) (d : D) : List D → Option D → Option Env
  | [.int a, .int c], some (.lst true xs) => match d with
    | .lst true ys => if 0 ≤ a ∧ a ≤ c ∧ c ≤ (xs.length : Int) ∧ noOwns xs = true ∧ noOwns ys = true ∧ xs.length + ys.length ≤ smallL then some (ρ.set k (some (.lst true (xs.take a.toNat ++ ys ++ xs.drop c.toNat)))) else none
    | _ => none
  | _, _ => none
def tgSlS (k : Nat) (o1 o2 : Op) : D → Env → Option Env := fun d ρ => match getS ρ k with
  | none => none
  | some _ => (evOps [o1, o2] ρ).bind fun p => (fetch [o1, o2] p.1 p.2).bind fun ds => slPut p.2 k d ds (getS p.2 k)
def gSlS (to : TE) (tl th : TE) : TG := fun v σ H Q => to σ H fun o H1 => tl σ H1 fun l H2 => th σ H2 fun u H3 => ∃ x b xs ys a c, o = .ref x ∧ v = .ref b ∧ l = .int a ∧ u = .int c ∧ H3 x = some (.lst xs) ∧ H3 b = some (.lst ys) ∧ x ≠ b ∧ 0 ≤ a ∧ a ≤ c ∧ c ≤ (xs.length : Int) ∧ xs.length + ys.length ≤ sizeLine ∧ Q σ (upd H3 x (.lst (xs.take a.toNat ++ ys ++ xs.drop c.toNat)))
section
variable {X : Cx} {o lo hi : Expr} {to tl th : TE} {pos p2 : Pos}
end
section
variable {K : PySem.W.Frag} {pn : Nat → Bool}
end
section
variable {X : Cx} {pn : Nat → Bool} {o lo hi : Expr} {pos p2 : Pos}
end
end VS
set_option Elab.async false
set_option linter.all false
namespace L2
open PySem PySem.Spec PyProof.Rows
open VS
/-! ### tuple(range(n)) -/
def rRgT : List V → Hp → VK → Prop := fun vs H Q => ∃ (j : Int) (n : Nat), vs = [.int j] ∧ RgC 0 j 1 n ∧ n ≤ 2 ^ 24 ∧ ∀ q, H q = none → Q (.ref q) (upd H q (.tup ((List.range n).map fun k => V.int (0 + (k : Nat) * 1))))
section
variable {X : Cx} {a b c : Expr} {ta : TA} {p p2 pos pos2 : Pos}
end
end L2
namespace VS
open PySem PySem.Spec PyProof.Rows L2 RZ
def trgD (rd : List D → Option (List D)) : List D → Option D := fun ds => (rd ds).bind fun xs => if xs.length ≤ smallL then some (.tup xs) else none
section
variable {K : PySem.W.Frag}
end
section
variable {X : Cx} {a b c : Expr} {p p2 pos pos2 : Pos} {ops : List Op}
end
end VS
set_option Elab.async false
set_option linter.all false
set_option maxRecDepth 100000
set_option maxHeartbeats 4000000
namespace HT
open PySem PySem.Spec PyProof.Rows
section
variable {prog : Program} {w : World} {A : Around} {E : Value → Shared → Prop} {s : Shared}
end
end HT
namespace L2
open PySem PySem.Spec PyProof.Rows HT
def tRevT (K : PySem.W.Frag) (te : TE) : TE := fun σ H Q => te σ H fun x H1 => ∃ a xs, x = .ref a ∧ SqT K H1 a xs ∧ ∀ p, H1 p = none → Q (.ref p) (upd H1 p (.tup xs.reverse))
section
variable {X : Cx}
end
end L2
namespace VS
open PySem PySem.Spec PyProof.Rows L2 RZ
def rRevT (K : PySem.W.Frag) : V → Hp → VK → Prop := fun x H1 Q => ∃ a xs, x = .ref a ∧ SqT K H1 a xs ∧ ∀ p, H1 p = none → Q (.ref p) (upd H1 p (.tup xs.reverse))
def revTD : List D → Option D
  | [.tup xs] => if noOwns xs = true then some (.tup xs.reverse) else none
  | _ => none
section
variable {X : Cx} {e : Expr} {k : Nat} {p1 p2 p3 pos : Pos} {o : Op}
end
end VS
set_option Elab.async false
set_option linter.all false
set_option maxRecDepth 100000
namespace L2
open PySem PySem.Spec PyProof.Rows
open VS
/-! ### len(set(xs)) of a list of whole numbers -/
def nMet (ns : List Int) : Nat := (PyProof.Rows.firstMet (fun i => ns.getD i 0) ns.length).length
def rLenSet (K : PySem.W.Frag) : List V → Hp → VK → Prop := fun vs H Q => ∃ (p : Addr) (ns : List Int), vs = [.ref p] ∧ SqL K H p (ns.map V.int) ∧ ns.length ≤ 1000 ∧ nMet ns ≤ 1000 ∧ Q (.int (nMet ns : Nat)) H
section
variable {X : Cx} {a b c : Expr} {ta : TA} {p p2 pos pos2 : Pos}
end
end L2
namespace VS
open PySem PySem.Spec PyProof.Rows L2 RZ
def lenSetD : List D → Option D
  | [.lst _ xs] => (intsOf xs).bind fun ns => if ns.length ≤ 1000 then some (.int (nMet ns : Nat)) else none
  | _ => none
section
variable {K : PySem.W.Frag}
end
section
variable {X : Cx} {a b c : Expr} {p p2 pos pos2 : Pos} {ops : List Op}
end
end VS
set_option Elab.async false
set_option linter.all false
set_option maxRecDepth 100000
namespace L2
open PySem PySem.Spec PyProof.Rows
open VS
/-! ### tuple(range(a, b)) -/
def rRgT2 : List V → Hp → VK → Prop := fun vs H Q => ∃ (i j : Int) (n : Nat), vs = [.int i, .int j] ∧ RgC i j 1 n ∧ n ≤ 2 ^ 24 ∧ ∀ q, H q = none → Q (.ref q) (upd H q (.tup ((List.range n).map fun k => V.int (i + (k : Nat) * 1))))
section
variable {X : Cx} {a b c : Expr} {ta : TA} {p p2 pos pos2 : Pos}
end
end L2
namespace VS
open PySem PySem.Spec PyProof.Rows L2 RZ
section
variable {K : PySem.W.Frag}
end
section
variable {X : Cx} {a b c : Expr} {p p2 pos pos2 : Pos} {ops : List Op}
end
end VS
set_option Elab.async false
set_option linter.all false
set_option maxRecDepth 100000
namespace VS
open PySem PySem.Spec PyProof.Rows L2 RZ
/-! ### order of things of one shape, of any depth -/
def notNoneP : PyData → Bool
  | .none => false
  | _ => true
def ordOk (d e : PyData) : Bool := PySem.W.alike d e && (notNoneP d && decide (min d.depth e.depth ≤ 60))
def rOrd (K : PySem.W.Frag) (p : PyData → PyData → Bool) : R2 := fun x y H Q => ∃ da db, Dp K H x da ∧ Dp K H y db ∧ ordOk da db = true ∧ Q (.bl (p da db)) H
def ordD (p : PyData → PyData → Bool) : List D → Option D
  | [x, y] => if noTy x = true ∧ noTy y = true ∧ ordOk (pyD x) (pyD y) = true then some (.bl (p (pyD x) (pyD y))) else none
  | _ => none
def leMD := ordD fun a b => !PySem.W.dataLt b a
def ltMD := ordD fun a b => PySem.W.dataLt a b
def geMD := ordD fun a b => !PySem.W.dataLt a b
def gtMD := ordD fun a b => PySem.W.dataLt b a
end VS
set_option Elab.async false
set_option linter.all false
set_option maxRecDepth 100000
namespace L2
open PySem PySem.Spec PyProof.Rows
open VS
/-! ### x in range(..), x not in range(..) -/
end L2
namespace VS
open PySem PySem.Spec PyProof.Rows L2 RZ
def rRg1 : List V → Hp → VK → Prop := fun vs H Q => ∃ j, vs = [V.int j] ∧ ∀ p, H p = none → Q (.ref p) (upd H p (.rng 0 j))
def rRg2 : List V → Hp → VK → Prop := fun vs H Q => ∃ i j, vs = [V.int i, V.int j] ∧ ∀ p, H p = none → Q (.ref p) (upd H p (.rng i j))
def rInR (f : Bool → Bool) : R2 := fun x y H Q => ∃ i a lo hi, x = V.int i ∧ y = V.ref a ∧ H a = some (.rng lo hi) ∧ Q (V.bl (f (decide (lo ≤ i ∧ i < hi)))) H
def rInV (f : Bool → Bool) (rr : List V → Hp → VK → Prop) : List V → Hp → VK → Prop := fun vs H Q => match vs with
  | x :: r => rr r H fun y H1 => rInR f x y H1 Q
  | [] => False
def inR1 (f : Bool → Bool) : List D → Option D
  | [.int k, .int j] => some (.bl (f (decide (0 ≤ k ∧ k < j))))
  | _ => none
def inR2 (f : Bool → Bool) : List D → Option D
  | [.int k, .int i, .int j] => some (.bl (f (decide (i ≤ k ∧ k < j))))
  | _ => none
section
variable {X : Cx} {x a b : Expr} {p pos pos2 : Pos} {o1 : Op} {oa : Op} {ops : List Op} {op : CmpOp} {f : Bool → Bool}
end
end VS
set_option Elab.async false
set_option linter.all false
set_option maxRecDepth 100000
namespace L2
open PySem PySem.Spec PyProof.Rows
open VS
/-! ### count of a truth in a list of such -/
def rCntB (K : PySem.W.Frag) : V → List V → Hp → VK → Prop := fun x xs H Q => ∃ (p : Addr) (bs : List Bool) (k : Bool), x = .ref p ∧ xs = [.bl k] ∧ SqL K H p (bs.map V.bl) ∧ Q (.int (bs.count k : Nat)) H
end L2
namespace VS
open PySem PySem.Spec PyProof.Rows L2 RZ
def cntBD : List D → Option D
  | [.lst _ xs, .bl k] => (blsOf xs).bind fun bs => some (.int (bs.count k : Nat))
  | _ => none
section
variable {X : Cx} {W : WX} {o e : Expr} {es : List Expr} {f : FE} {g : RX} {ops : List Op} {apos cpos : Pos}
end
end VS
set_option Elab.async false
set_option linter.all false
set_option maxRecDepth 100000
namespace VS
open PySem PySem.Spec PyProof.Rows L2
/-! ### {'a': 1, ..}.get(k, x): a display of texts and whole numbers, read at once -/
def evInts : List FE → Env → Option (List Int × Env)
  | [], ρ => some ([], ρ)
  | f :: r, ρ => (f ρ).bind fun p => match p.1 with
    | .int i => (evInts r p.2).bind fun q => some (i :: q.1, q.2)
    | _ => none
def strGet : List Str → List Int → Str → Option Int
  | k :: ks, i :: is, s => if k = s then some i else strGet ks is s
  | _, _, _ => none
def dgF (ks : List Str) (fs : List FE) (fk fd : FE) : FE := fun ρ => (evInts fs ρ).bind fun p => (fk p.2).bind fun q => match q.1 with
  | .str s => (fd q.2).bind fun z => match z.1 with
    | .int j => some (.int ((strGet ks p.1 s).getD j), z.2)
    | _ => none
  | _ => none
def kvS : List Str → List Int → List (Key × V)
  | k :: ks, i :: is => (.inr k, .int i) :: kvS ks is
  | _, _ => []
inductive Keyed (K : PySem.W.Frag) : List (TE × TE) → List Str → List FE → Prop
  | nil : Keyed K [] [] []
  | cons {k : Str} {tv : TE} {f : FE} {trs ks fs} : SimE K tv f → Keyed K trs ks fs → Keyed K ((tC (.str k), tv) :: trs) (k :: ks) (f :: fs)
section
variable {K : PySem.W.Frag}
theorem Keyed.run {trs : List (TE × TE)} {ks : List Str} {fs : List FE} (h : Keyed K trs ks fs) : ∀ ρ is ρ', evInts fs ρ = some (is, ρ') → ∀ (σ : L2.St) (G H : Hp) (F : Nat → List Addr), REnv K G H σ ρ F → ∀ Q : List (V × V) → Hp → Prop,
    (∀ G' H' F', Tr G H (own F) G' H' (own F') → REnv K G' H' σ ρ' F' → Q ((kvS ks is).map fun kv => (kV kv.1, kv.2)) H') → tPairs trs σ H Q := by
  induction h with
  | nil =>
    intro ρ is ρ' e σ G H F r Q q
    cases e
    exact q G H F (Tr.refl r.sub) r
  | @cons k tv f trs ks fs h1 h2 ih =>
    intro ρ is ρ' e σ G H F r Q q
    unfold evInts at e
    cases hf : f ρ with
    | none => rw [hf] at e; cases e
    | some p =>
      obtain ⟨d, ρ1⟩ := p
      rw [hf] at e
      cases d with
      | int i =>
        have e2 : ((evInts fs ρ1).bind fun q => some (i :: q.1, q.2)) = some (is, ρ') := e
        cases hr : evInts fs ρ1 with
        | none => rw [hr] at e2; cases e2
        | some p =>
          obtain ⟨is1, ρ2⟩ := p
          rw [hr] at e2
          cases e2
          show tv σ H _
          refine h1 ρ (.int i) ρ1 hf σ G H F r _ fun v G1 H1 F1 L t1 r1 rp n1 => ?_
          cases rp
          have t1' : Tr G H (own F) G1 H1 (own F1) := t1.post fun a z => .inl z
          refine ih ρ1 is1 ρ2 hr σ G1 H1 F1 r1 _ fun G2 H2 F2 t2 r2 => ?_
          exact q G2 H2 F2 (t1'.trans t2) r2
      | _ => cases e
end
section
variable {X : Cx} {pn : Nat → Bool} {e f : Expr} {apos cpos pos : Pos}
inductive KeysF (X : Cx) (pos : Pos) : List (Option Expr) → List Expr → List Str → List FE → Prop
  | nil : KeysF X pos [] [] [] []
  | cons {k : Str} {j} {kp : Pos} {v : Expr} {f : FE} {keys vals ks fs} : PEf X v f → KeysF X pos keys vals ks fs → KeysF X pos (some (.Constant (.str k) j kp) :: keys) (v :: vals) (k :: ks) (f :: fs)
theorem KeysF.ex {keys vals ks fs} (h : KeysF X pos keys vals ks fs) : ∃ trs, PPs X pos keys vals trs ∧ Keyed X.K trs ks fs ∧ keys.all (·.isSome) = true ∧ keys.length = vals.length ∧ ks.length = keys.length := by
  induction h with
  | nil => exact ⟨[], pps_nil, .nil, rfl, rfl, rfl⟩
  | cons h1 h2 ih =>
    obtain ⟨trs, a, b, c, d, e⟩ := ih
    exact ⟨_, pps_cons pe_str h1 a, .cons (simE_of _) b, by simpa using c, by simp [d], by simp [e]⟩
end
end VS
set_option Elab.async false
set_option linter.all false
set_option maxRecDepth 100000
namespace VS
open PySem PySem.Spec PyProof.Rows L2
/-! ### for over reversed(..) of what may raise -/
section
variable {X : Cx} {W : WX} {e : Expr} {p pos : Pos} {g : RX}
end
end VS
set_option Elab.async false
set_option linter.all false
set_option maxRecDepth 100000
namespace VS
open PySem PySem.Spec PyProof.Rows L2 RZ
/-! ### what is read alone: all that is owned is lent for as long -/
def lendOk : D → Bool
  | .lst true xs => pureTs xs
  | d => pureT d
def lendE (ρ : Env) : Env := ρ.map (Option.map freeze)
def lendF (f : FE) : FE := fun ρ => (f (lendE ρ)).bind fun p => if lendOk p.1 = true then some (p.1, ρ) else none
def lendB (f : FB) : FB := fun ρ => (f (lendE ρ)).bind fun p => some (p.1, ρ)
section
variable {K : PySem.W.Frag}
theorem lendE_get {ρ : Env} {i : Nat} {d : D} (h : getS (lendE ρ) i = some d) : ∃ d0, getS ρ i = some d0 ∧ d = freeze d0 := by
  unfold getS lendE at h
  rw [List.getElem?_map] at h
  unfold getS
  cases e : ρ[i]? with
  | none => rw [e] at h; cases h
  | some o =>
    rw [e] at h
    cases o with
    | none => cases h
    | some d0 => exact ⟨d0, rfl, (Option.some.inj h).symm⟩
theorem REnv.lend {G H : Hp} {σ : L2.St} {ρ : Env} {F : Nat → List Addr} (r : REnv K G H σ ρ F) : REnv K (gFrz G H) H σ (lendE ρ) (fun _ => []) := by
  refine ⟨gFrz_H r.sub, by unfold lendE; rw [List.length_map]; exact r.len, fun i d q => ?_, fun _ _ => rfl, fun _ _ _ a ha => nomatch ha⟩
  obtain ⟨d0, h0, rfl⟩ := lendE_get q
  obtain ⟨v, hv, hr⟩ := r.at_ i d0 h0
  exact ⟨v, hv, hr.frz gFrz_G (gFrz_o hr)⟩
theorem lend_tr {G H G' H' : Hp} {F F' : Nat → List Addr} {L : List Addr} {σ : L2.St} {ρ : Env} (r : REnv K G H σ ρ F) (t : Tr (gFrz G H) H (own fun _ => []) G' H' (fun a => own F' a ∨ a ∈ L)) :
    Tr G H (own F) (gBack G H G') H' (fun a => own F a ∨ a ∈ L) ∧ REnv K (gBack G H G') H' σ ρ F ∧ (∀ a vs, SqT K G' a vs → SqT K (gBack G H G') a vs) ∧ (∀ a ∈ L, H a = none) := by
  obtain ⟨tt, k⟩ := back_ok (K := K) r.sub (t.wk (B := fun a => a ∈ ([] : List Addr)) (A2 := fun a => own F' a ∨ a ∈ L) (fun x ⟨_, z⟩ => nomatch z) fun x z => .inl z)
  have fresh : ∀ a ∈ L, H a = none := fun a ha => by
    rcases t.new a (.inr ha) with ⟨_, z⟩ | z
    · cases z
    · exact z
  refine ⟨tt.wk (fun _ z => z.elim) fun a z => ?_, r.tr tt fun _ _ z => z, k, fresh⟩
  rcases z with z | z
  · exact .inr (.inl z)
  · exact .inr (.inr (fresh a z))
theorem simE_lend {te : TE} {f : FE} (h : SimE K te f) : SimE K te (lendF f) := by
  intro ρ d ρ' e σ G H F r Q q
  unfold lendF at e
  obtain ⟨⟨d1, ρ1⟩, e1, e2⟩ := Option.bind_eq_some_iff.mp e
  simp only at e2
  by_cases hz : lendOk d1 = true
  · rw [if_pos hz] at e2
    cases e2
    refine h _ d ρ1 e1 σ (gFrz G H) H (fun _ => []) r.lend Q fun v G' H' F' L t rE rv n => ?_
    obtain ⟨tt, rr, k, fresh⟩ := lend_tr r t
    have ap : ∀ a ∈ L, ¬ own F a := fun a ha ⟨i, hi⟩ => by
      obtain ⟨_, _, e, _⟩ := r.owned i a hi
      rw [fresh a ha] at e; cases e
    by_cases hp : pureT d = true
    · exact q v _ H' F [] (tt.post fun a z => z.elim .inl fun z => nomatch z) rr (rv.pure k hp) fun a z => nomatch z
    · cases d with
      | lst o xs =>
        cases o with
        | false => exact absurd hz hp
        | true =>
          have hz : pureTs xs = true := hz
          cases rv with
          | lstO hG hH hn hr =>
            rename_i a vs L1
            have hg : gBack G H G' a = none := by
              unfold gBack
              rw [fresh a List.mem_cons_self]
              exact hG
            refine q _ _ H' F [a] (tt.post fun x z => z.elim .inl fun z => .inr ?_) rr (.lstO hg hH List.not_mem_nil (hr.pure k hz)) fun x hx => ?_
            · rcases List.mem_cons.mp z with z | z
              · exact z ▸ List.mem_cons_self
              · cases z
            · rcases List.mem_cons.mp hx with z | z
              · exact z ▸ ap a List.mem_cons_self
              · cases z
      | non => exact absurd rfl hp
      | bl b => exact absurd rfl hp
      | int i => exact absurd rfl hp
      | str s => exact absurd rfl hp
      | ty n => exact absurd rfl hp
      | tup xs => exact absurd hz hp
      | scr ns => cases hz
      | exc n d => cases hz
      | dct o kvs => cases hz
  · rw [if_neg hz] at e2; cases e2
theorem simT_lend {te : TT} {f : FB} (h : SimT K te f) : SimT K te (lendB f) := by
  intro ρ b ρ' e σ G H F r Q q
  unfold lendB at e
  obtain ⟨⟨b1, ρ1⟩, e1, e2⟩ := Option.bind_eq_some_iff.mp e
  cases e2
  refine h _ b1 ρ1 e1 σ (gFrz G H) H (fun _ => []) r.lend Q fun G' H' F' t rE => ?_
  obtain ⟨tt, rr, k, _⟩ := lend_tr (F' := F') (L := []) r (t.wk (fun _ z => z) fun a z => .inl (z.elim id fun z => nomatch z))
  exact q _ H' F (tt.post fun a z => .inl z) rr
end
section
variable {X : Cx} {e : Expr}
theorem pf_lend {f : FE} (h : PEf X e f) : PEf X e (lendF f) := .mk h (simE_lend (simE_of f))
theorem pt_lend {f : FB} (h : PTf X e f) : PTf X e (lendB f) := .mk h (simT_lend (simT_of' f))
end
end VS
set_option Elab.async false
set_option linter.all false
set_option maxRecDepth 100000
namespace VS
open PySem PySem.Spec PyProof.Rows L2 RZ
/-! ### a list in a list, handed to a def that may change it -/
section
variable {K : PySem.W.Frag} {G H : Hp}
theorem Reps.elemG : ∀ {vs : List V} {xs : List D} {L : List Addr} {j : Nat} {d : D}, Reps K G H vs xs L → xs[j]? = some d → ∃ v M, vs[j]? = some v ∧ Rep K G H v d M ∧ (∀ a ∈ M, a ∈ L) ∧
    ∀ (G' H' : Hp) (d' : D) (M' : List Addr), Same G G' → (∀ a ∈ L, a ∉ M → (G a = none → G' a = none) ∧ H' a = H a) → Rep K G' H' v d' M' → (∀ a ∈ M', a ∈ L → a ∈ M) → ∃ L', Reps K G' H' vs (xs.set j d') L' ∧ ∀ a ∈ L', (a ∈ L ∧ a ∉ M) ∨ a ∈ M'
  | _, _, _, j, d, .nil, e => by simp at e
  | _, _, _, 0, d, .cons (v := v0) (L := L) (M := M) h r n, e => by
    simp at e; subst e
    refine ⟨v0, L, rfl, h, fun a ha => List.mem_append_left _ ha, fun G' H' d' M' sg hk hd hs => ⟨M' ++ M, .cons hd (r.keep ⟨sg, fun a ha => (hk a (List.mem_append_right _ ha) fun hm => n a hm ha).1, fun a ha => (hk a (List.mem_append_right _ ha) fun hm => n a hm ha).2⟩) (fun a ha hm => n a (hs a ha (List.mem_append_right _ hm)) hm), fun a ha => ?_⟩⟩
    rcases List.mem_append.mp ha with z | z
    · exact .inr z
    · exact .inl ⟨List.mem_append_right _ z, fun y => n a y z⟩
  | _, _, _, j + 1, d, .cons (v := v0) (L := L) (M := M) h r n, e => by
    obtain ⟨v, M1, h1, h2, h3, h4⟩ := r.elemG (j := j) (by simpa using e)
    refine ⟨v, M1, by simpa using h1, h2, fun a ha => List.mem_append_right _ (h3 a ha), fun G' H' d' M' sg hk hd hs => ?_⟩
    obtain ⟨L', r', s'⟩ := h4 G' H' d' M' sg (fun a ha hm => hk a (List.mem_append_right _ ha) hm) hd (fun a ha hl => hs a ha (List.mem_append_right _ hl))
    have out : ∀ a ∈ L, a ∉ M1 := fun a ha hm => n a ha (h3 a hm)
    refine ⟨L ++ L', .cons (h.keep ⟨sg, fun a ha => (hk a (List.mem_append_left _ ha) (out a ha)).1, fun a ha => (hk a (List.mem_append_left _ ha) (out a ha)).2⟩) r' (fun a ha hm => ?_), fun a ha => ?_⟩
    · rcases s' a hm with z | z
      · exact n a ha z.1
      · exact out a ha (hs a z (List.mem_append_left _ ha))
    · rcases List.mem_append.mp ha with z | z
      · exact .inl ⟨List.mem_append_left _ z, out a z⟩
      · rcases s' a z with y | y
        · exact .inl ⟨List.mem_append_right _ y.1, y.2⟩
        · exact .inr y
end
def twoOs : List (Option D) → Option (D × D)
  | [some a, some b] => some (a, b)
  | _ => none
/-- fn(w, x[j]) -/
def callElF (fn : Fn) (iw il ix : Nat) : FE := fun ρ => if iw = il then none else match getS ρ iw, getS ρ il, getS ρ ix with
  | some w, some (.lst true xs), some (.int j) => (ixN xs.length j).bind fun k => (xs[k]?).bind fun y => (fn.sem [w, y]).bind fun q => (twoOs q.2).bind fun o => some (q.1, (ρ.set iw (some o.1)).set il (some (.lst true (xs.set k o.2))))
  | _, _, _ => none
section
variable {X : Cx} {k : Nat} {f : Addr} {fd : FuncData} {ps : List Str} {fn : Fn} {x : Str} {p pos : Pos} {e1 e2 : Expr} {iw il ix : Nat}
end
end VS
set_option Elab.async false
set_option linter.all false
set_option maxRecDepth 100000
namespace VS
open PySem PySem.Spec PyProof.Rows L2 RZ
/-! ### x = x + [..], where the lists hold lists of their own: what x held goes into the new one -/
section
variable {K : PySem.W.Frag} {G H : Hp}
end
def catMvF (i : Nat) (f : FE) : FE := fun ρ => match getS ρ i with
  | none => none
  | some _ => (f ρ).bind fun p => match p.1, getS p.2 i with
    | .lst true ys, some (.lst true xs) => if xs.length + ys.length ≤ smallL then some (.lst true (xs ++ ys), p.2.set i none) else none
    | _, _ => none
section
variable {X : Cx} {a b : Expr} {pos : Pos} {i : Nat} {f : FE}
end
end VS
set_option Elab.async false
set_option linter.all false
set_option maxRecDepth 100000
namespace VS
open PySem PySem.Spec PyProof.Rows L2 RZ
/-! ### a list in a list, changed in place: x[i].append(v), x[i][j] = v -/
section
variable {K : PySem.W.Frag}
theorem lend_run {te : TE} {f : FE} {ρ ρ1 : Env} {d : D} {σ : L2.St} {G H : Hp} {F : Nat → List Addr} (h : SimE K te f) (e1 : f (lendE ρ) = some (d, ρ1)) (hp : pureT d = true) (r : REnv K G H σ ρ F) (Q : VK)
    (q : ∀ v G' H', Tr G H (fun _ => False) G' H' (fun _ => False) → Rep K G' H' v d [] → Q v H') : te σ H Q := by
  refine h _ d ρ1 e1 σ (gFrz G H) H (fun _ => []) r.lend Q fun v G' H' F' L t rE rv n => ?_
  obtain ⟨tt, k⟩ := back_ok (K := K) r.sub (t.wk (B := fun a => a ∈ ([] : List Addr)) (A2 := fun a => own F' a ∨ a ∈ L) (fun x ⟨_, z⟩ => nomatch z) fun x z => .inl z)
  exact q v _ H' tt (rv.pure k hp)
/-- what is read alone leaves all as it stands -/
theorem Tr.all {G H G' H' : Hp} (t : Tr G H (fun _ => False) G' H' (fun _ => False)) {a : Addr} {o : HO} (e : H a = some o) : H' a = some o := t.keep a o e fun z => z
end
def mutElF (il : Nat) (fi : FE) (g : List D → List D → Option (D × List D)) (fa : FE) : FE := fun ρ => match getS ρ il with
  | some (.lst true xs) => (fi (lendE ρ)).bind fun p => match p.1 with
    | .int j => (ixN xs.length j).bind fun k => match xs[k]? with
      | some (.lst true ys) => (fa (lendE ρ)).bind fun q => if pureT q.1 = true then (g ys [q.1]).bind fun r => some (r.1, ρ.set il (some (.lst true (xs.set k (.lst true r.2))))) else none
      | _ => none
    | _ => none
  | _ => none
theorem simE_mutEl {K : PySem.W.Frag} {ti ta : TE} {fi fa : FE} {il : Nat} {r : V → List V → Hp → VK → Prop} {g : List D → List D → Option (D × List D)} (hi : SimE K ti fi) (ha : SimE K ta fa) (hm : MOk K r g) :
    SimE K (tBM K "list" r (tOp (rIx K) (tVar il) ti) (tCons ta tNil)) (mutElF il fi g fa) := by
  intro ρ d ρ' e σ G H F rr Q q
  unfold mutElF at e
  cases h0 : getS ρ il with
  | none => rw [h0] at e; cases e
  | some d0 =>
  rw [h0] at e
  cases d0 with
  | lst o xs =>
    cases o with
    | false => cases e
    | true =>
      have e1 : ((fi (lendE ρ)).bind fun p => match p.1 with
        | .int j => (ixN xs.length j).bind fun k => match xs[k]? with
          | some (.lst true ys) => (fa (lendE ρ)).bind fun q => if pureT q.1 = true then (g ys [q.1]).bind fun r => some (r.1, ρ.set il (some (.lst true (xs.set k (.lst true r.2))))) else none
          | _ => none
        | _ => none) = some (d, ρ') := e
      obtain ⟨⟨dj, ρi⟩, hfi, e2⟩ := Option.bind_eq_some_iff.mp e1
      cases dj with
      | int j =>
        have e3 : ((ixN xs.length j).bind fun k => match xs[k]? with
          | some (.lst true ys) => (fa (lendE ρ)).bind fun q => if pureT q.1 = true then (g ys [q.1]).bind fun r => some (r.1, ρ.set il (some (.lst true (xs.set k (.lst true r.2))))) else none
          | _ => none) = some (d, ρ') := e2
        obtain ⟨k, hk, e4⟩ := Option.bind_eq_some_iff.mp e3
        cases hy : xs[k]? with
        | none => rw [hy] at e4; cases e4
        | some dy =>
        rw [hy] at e4
        cases dy with
        | lst o2 ys =>
          cases o2 with
          | false => cases e4
          | true =>
            have e5 : ((fa (lendE ρ)).bind fun q => if pureT q.1 = true then (g ys [q.1]).bind fun r => some (r.1, ρ.set il (some (.lst true (xs.set k (.lst true r.2))))) else none) = some (d, ρ') := e4
            obtain ⟨⟨da, ρa⟩, hfa, e6⟩ := Option.bind_eq_some_iff.mp e5
            simp only at e6
            by_cases hp : pureT da = true
            · rw [if_pos hp] at e6
              obtain ⟨⟨d2, ys'⟩, hg, e7⟩ := Option.bind_eq_some_iff.mp e6
              cases e7
              obtain ⟨v, hv, hrep⟩ := rr.at_ il _ h0
              generalize hFi : F il = Fi at hrep
              cases hrep with
              | @lstO a vs _ L hG hH hn hr =>
              have subF : ∀ x ∈ a :: L, x ∈ F il := fun x hx => by rw [hFi]; exact hx
              refine ⟨.ref a, hv, ?_⟩
              refine lend_run hi hfi rfl rr _ fun vj G1 H1 t1 rj => ?_
              cases rj
              have r1 := rr.tr t1 fun _ _ z => z
              obtain ⟨u, M, hu, hur, hM, hset⟩ := hr.elemG hy
              have hkL : ixN vs.length j = some k := by rw [hr.length]; exact hk
              cases hur with
              | @lstO b zs _ M1 hGb hHb hnb hrb =>
              refine .inl ⟨a, vs, j, .ref b, rfl, rfl, SqL.of (t1.all hH), by unfold atI; rw [hkL]; exact hu, .inl ⟨rfl, _, SqL.of (t1.all hHb)⟩, ?_⟩
              refine lend_run ha hfa hp r1 _ fun va G2 H2 t2 ra => ?_
              have t12 := t1.trans t2
              have kb : ∀ x ∈ a :: L, G x = none ∧ ∃ o, H x = some o ∧ LD o := fun x hx => rr.owned il x (subF x hx)
              have gN : ∀ x ∈ a :: L, G2 x = none := fun x hx => by
                obtain ⟨h1, o, h2, _⟩ := kb x hx
                exact (t12.keepG x o h2 fun z => z).trans h1
              have hN : ∀ x ∈ a :: L, H2 x = H x := fun x hx => by
                obtain ⟨h1, o, h2, _⟩ := kb x hx
                rw [h2]; exact t12.all h2
              have r2 := r1.tr t2 fun _ _ z => z
              have bL : b ∈ L := hM b List.mem_cons_self
              have hrb2 : Reps K G2 H2 zs ys M1 := hrb.tr t12 fun _ _ z => z
              refine hm G2 H2 b zs [va] ys [da] M1 ([] ++ []) d2 ys' r2.sub (gN b (List.mem_cons_of_mem _ bL)) (t12.all hHb) hrb2 (.cons ra .nil fun _ z => nomatch z) (fun _ _ z => nomatch z) hg Q fun v2 zs' L' N hr' hrv sL' sN nLN => ?_
              have sL1 : ∀ x ∈ L', x ∈ M1 := fun x hx => (sL' x hx).elim id fun z => nomatch z
              have sN1 : ∀ x ∈ N, x ∈ M1 := fun x hx => (sN x hx).elim id fun z => nomatch z
              have hab : b ≠ a := fun z => hn (z ▸ bL)
              have M1L : ∀ x ∈ M1, x ∈ L := fun x hx => hM x (List.mem_cons_of_mem _ hx)
              have k0 : ∀ W : List Addr, (∀ x ∈ W, x ≠ b) → Keep G2 H2 G2 (upd H2 b (.lst zs')) W := fun W hW => ⟨Same.refl _, fun _ _ z => z, fun x hx => upd_ne (hW x hx)⟩
              have hL'b : ∀ x ∈ L', x ≠ b := fun x hx z => hnb (z ▸ sL1 x hx)
              have hNb : ∀ x ∈ N, x ≠ b := fun x hx z => hnb (z ▸ sN1 x hx)
              have hin : Rep K G2 (upd H2 b (.lst zs')) (.ref b) (.lst true ys') (b :: L') := .lstO (gN b (List.mem_cons_of_mem _ bL)) upd_same (fun z => hL'b b z rfl) (hr'.keep (k0 _ hL'b))
              obtain ⟨L2, hr2, sL2⟩ := hset G2 (upd H2 b (.lst zs')) (.lst true ys') (b :: L') t12.g (fun x hx hm => ⟨fun _ => gN x (List.mem_cons_of_mem _ hx), by
                have ne : x ≠ b := fun z => hm (List.mem_cons.mpr (.inl z))
                rw [upd_ne ne]
                exact hN x (List.mem_cons_of_mem _ hx)⟩) hin (fun x hx hl => by
                rcases List.mem_cons.mp hx with z | z
                · exact List.mem_cons.mpr (.inl z)
                · exact List.mem_cons_of_mem _ (sL1 x z))
              have sub2 : ∀ x ∈ L2, x ∈ L ∧ x ∉ N := fun x hx => by
                rcases sL2 x hx with z | z
                · exact ⟨z.1, fun y => z.2 (List.mem_cons_of_mem _ (sN1 x y))⟩
                · rcases List.mem_cons.mp z with z | z
                  · exact ⟨z ▸ bL, fun y => hNb x y z⟩
                  · exact ⟨M1L x (sL1 x z), fun y => nLN x z y⟩
              have haH : (upd H2 b (.lst zs')) a = some (.lst vs) := by rw [upd_ne hab.symm]; exact t12.all hH
              have hnew : Rep K G2 (upd H2 b (.lst zs')) (.ref a) (.lst true (xs.set k (.lst true ys'))) (a :: L2) := .lstO (gN a List.mem_cons_self) haH (fun z => hn (sub2 a z).1) hr2
              have tw : Tr G2 H2 (fun x => x = b) G2 (upd H2 b (.lst zs')) (fun x => x = b) := Tr.write r2.sub (gN b (List.mem_cons_of_mem _ bL)) rfl ⟨_, t12.all hHb⟩
              have r02 := ((rr.drop il).tr t1 fun _ _ z => z).tr t2 fun _ _ z => z
              have rd := r02.tr tw fun x ⟨m, hx⟩ z => by
                subst z
                by_cases hki : m = il
                · subst hki; rw [fset_same] at hx; cases hx
                · rw [fset_ne hki] at hx; exact rr.dis m il hki _ hx (subF _ (List.mem_cons_of_mem _ bL))
              have in2 : ∀ x ∈ a :: L2, x ∈ F il := fun x hx => by
                rcases List.mem_cons.mp hx with z | z
                · exact z ▸ subF a List.mem_cons_self
                · exact subF x (List.mem_cons_of_mem _ (sub2 x z).1)
              have rp := rd.re (i := il) (by rw [List.length_set]; exact rr.lt h0) hv hnew (fun x hx m hm hxm => by
                rw [fset_ne hm] at hxm
                exact rr.dis m il hm _ hxm (in2 x hx))
              rw [List.set_set] at rp
              have hN2 : ∀ x ∈ N, x ∈ F il := fun x hx => subF x (List.mem_cons_of_mem _ (M1L x (sN1 x hx)))
              have Fn : ∀ {x}, own (fset (fset F il []) il (a :: L2)) x → own F x := fun {x} ⟨m, hx⟩ => by
                by_cases c : m = il
                · subst c; rw [fset_same] at hx; exact ⟨m, in2 x hx⟩
                · rw [fset_ne c, fset_ne c] at hx; exact ⟨m, hx⟩
              refine q v2 G2 _ _ N ((t12.wk (B := own F) (A2 := own F) (fun _ z => z.elim) fun x z => .inr (.inl z)).trans (tw.wk (B := own F) (fun x z => z ▸ ⟨il, subF b (List.mem_cons_of_mem _ bL)⟩) fun x hx => .inr (.inl ?_))) rp (hrv.keep (k0 _ hNb)) fun x hx ho => ?_
              · rcases hx with z | z
                · exact Fn z
                · exact ⟨il, hN2 x z⟩
              · obtain ⟨m, hxm⟩ := ho
                by_cases c : m = il
                · subst c
                  rw [fset_same] at hxm
                  rcases List.mem_cons.mp hxm with z | z
                  · exact hn (z ▸ M1L x (sN1 x hx))
                  · exact (sub2 x z).2 hx
                · rw [fset_ne c, fset_ne c] at hxm
                  exact rr.dis m il c x hxm (hN2 x hx)
            · rw [if_neg hp] at e6; cases e6
        | _ => cases e4
      | _ => cases e2
  | _ => cases e
section
variable {X : Cx} {o i e : Expr} {p1 apos cpos : Pos} {il : Nat} {fi fa : FE}
theorem pf_appEl (h1 : PE X o (tVar il)) (h2 : PEf X i fi) (h3 : PEf X e fa) (hpl : PlainIx i) (hbase : attributeBase (.Subscript o i p1) "append" X.env (eval (.Subscript o i p1) X.env) = eval (.Subscript o i p1) X.env := by rfl)
    (hfew : ((backTo cpos (starEach [e] X.env)).all (fun x => !x.1) && (backToKw cpos (keywordEach [] X.env)).all (fun x => x.1.isSome)
      && decide ([e].length + ([] : List Keyword).length + (if ([] : List Keyword).isEmpty then 0 else 1) < 30)) = true := by rfl)
    (hline : (apos.endLine == cpos.line) = true := by rfl) (hs : starEach [e] X.env = (false, eval e X.env) :: starEach [] X.env := by rfl) (hplain : (backTo cpos (starEach ([] : List Expr) X.env)).any (·.1) = false := by rfl) :
    PEf X (.Call (.Attribute (.Subscript o i p1) "append" apos) [e] [] cpos) (mutElF il fi appD fa) :=
  .mk (pe_bm PySem.F.plainAttrs_list PySem.F.slot_list_append PySem.F.type_list_append mt_append (pe_ix ix_seq h1 h2 hpl) (pa_cons h3 pa_nil hs) hbase hfew hline hs hplain) (simE_mutEl (simE_of fi) (simE_of fa) mok_app)
end
end VS
set_option Elab.async false
set_option linter.all false
set_option maxRecDepth 100000
namespace VS
open PySem PySem.Spec PyProof.Rows L2 RZ
def tgElVF (il : Nat) (fi fj : FE) : D → Env → Option Env := fun d ρ => match getS ρ il with
  | some (.lst true xs) => (fi (lendE ρ)).bind fun p => match p.1 with
    | .int j => (ixN xs.length j).bind fun k => match xs[k]? with
      | some (.lst true ys) => (fj (lendE ρ)).bind fun q => match q.1 with
        | .int l => (ixN ys.length l).bind fun n => if noOwns ys = true ∧ noOwn d = true then some (ρ.set il (some (.lst true (xs.set k (.lst true (ys.set n d)))))) else none
        | _ => none
      | _ => none
    | _ => none
  | _ => none
theorem simG_elV {K : PySem.W.Frag} {pn : Nat → Bool} {ti tj : TE} {fi fj : FE} {il : Nat} (hi : SimE K ti fi) (hj : SimE K tj fj) : SimG K pn (gSub (tOp (rIx K) (tVar il) ti) tj rSetL) (tgElVF il fi fj) := by
  intro d ρ ρ' e v σ G H F L0 rr hvd nn Q q
  unfold tgElVF at e
  cases h0 : getS ρ il with
  | none => rw [h0] at e; cases e
  | some d0 =>
  rw [h0] at e
  cases d0 with
  | lst o xs =>
    cases o with
    | false => cases e
    | true =>
      have e1 : ((fi (lendE ρ)).bind fun p => match p.1 with
        | .int j => (ixN xs.length j).bind fun k => match xs[k]? with
          | some (.lst true ys) => (fj (lendE ρ)).bind fun q => match q.1 with
            | .int l => (ixN ys.length l).bind fun n => if noOwns ys = true ∧ noOwn d = true then some (ρ.set il (some (.lst true (xs.set k (.lst true (ys.set n d)))))) else none
            | _ => none
          | _ => none
        | _ => none) = some ρ' := e
      obtain ⟨⟨dj, ρi⟩, hfi, e2⟩ := Option.bind_eq_some_iff.mp e1
      cases dj with
      | int j =>
        have e3 : ((ixN xs.length j).bind fun k => match xs[k]? with
          | some (.lst true ys) => (fj (lendE ρ)).bind fun q => match q.1 with
            | .int l => (ixN ys.length l).bind fun n => if noOwns ys = true ∧ noOwn d = true then some (ρ.set il (some (.lst true (xs.set k (.lst true (ys.set n d)))))) else none
            | _ => none
          | _ => none) = some ρ' := e2
        obtain ⟨k, hk, e4⟩ := Option.bind_eq_some_iff.mp e3
        cases hy : xs[k]? with
        | none => rw [hy] at e4; cases e4
        | some dy =>
        rw [hy] at e4
        cases dy with
        | lst o2 ys =>
          cases o2 with
          | false => cases e4
          | true =>
            have e5 : ((fj (lendE ρ)).bind fun q => match q.1 with
              | .int l => (ixN ys.length l).bind fun n => if noOwns ys = true ∧ noOwn d = true then some (ρ.set il (some (.lst true (xs.set k (.lst true (ys.set n d)))))) else none
              | _ => none) = some ρ' := e4
            obtain ⟨⟨dl, ρj⟩, hfj, e6⟩ := Option.bind_eq_some_iff.mp e5
            cases dl with
            | int l =>
              have e7 : ((ixN ys.length l).bind fun n => if noOwns ys = true ∧ noOwn d = true then some (ρ.set il (some (.lst true (xs.set k (.lst true (ys.set n d)))))) else none) = some ρ' := e6
              obtain ⟨n, hn2, e8⟩ := Option.bind_eq_some_iff.mp e7
              by_cases hz : noOwns ys = true ∧ noOwn d = true
              · rw [if_pos hz] at e8
                cases e8
                obtain ⟨z1, z2⟩ := hz
                have eL0 := hvd.noL z2
                subst eL0
                obtain ⟨v0, hv, hrep⟩ := rr.at_ il _ h0
                generalize hFi : F il = Fi at hrep
                cases hrep with
                | @lstO a vs _ L hG hH hn hr =>
                have subF : ∀ x ∈ a :: L, x ∈ F il := fun x hx => by rw [hFi]; exact hx
                refine ⟨.ref a, hv, ?_⟩
                refine lend_run hi hfi rfl rr _ fun vj G1 H1 t1 rj => ?_
                cases rj
                have r1 := rr.tr t1 fun _ _ z => z
                obtain ⟨u, M, hu, hur, hM, hset⟩ := hr.elemG hy
                have hkL : ixN vs.length j = some k := by rw [hr.length]; exact hk
                cases hur with
                | @lstO b zs _ M1 hGb hHb hnb hrb =>
                have hM1 := hrb.noL z1
                subst hM1
                refine .inl ⟨a, vs, j, .ref b, rfl, rfl, SqL.of (t1.all hH), by unfold atI; rw [hkL]; exact hu, ?_⟩
                refine lend_run hj hfj rfl r1 _ fun vl G2 H2 t2 rl => ?_
                cases rl
                have t12 := t1.trans t2
                refine ⟨b, zs, l, n, rfl, rfl, t12.all hHb, by rw [hrb.length]; exact hn2, ?_⟩
                have r2 := r1.tr t2 fun _ _ z => z
                have kb : ∀ x ∈ a :: L, G x = none ∧ ∃ o, H x = some o ∧ LD o := fun x hx => rr.owned il x (subF x hx)
                have gN : ∀ x ∈ a :: L, G2 x = none := fun x hx => by
                  obtain ⟨h1, o, h2, _⟩ := kb x hx
                  exact (t12.keepG x o h2 fun z => z).trans h1
                have hN : ∀ x ∈ a :: L, H2 x = H x := fun x hx => by
                  obtain ⟨h1, o, h2, _⟩ := kb x hx
                  rw [h2]; exact t12.all h2
                have bL : b ∈ L := hM b List.mem_cons_self
                have hab : b ≠ a := fun z => hn (z ▸ bL)
                have hvd2 : Rep K G2 H2 v d [] := hvd.tr t12 fun _ z => nomatch z
                have hrb2 : Reps K G2 H2 zs ys [] := hrb.tr t12 fun _ z => nomatch z
                obtain ⟨N, hN3, sN⟩ := hrb2.setAt n hvd2 (fun _ z => (nomatch z))
                have eN : N = [] := List.eq_nil_iff_forall_not_mem.mpr fun x hx => by rcases sN x hx with z | z <;> cases z
                subst eN
                have k0 : Keep G2 H2 G2 (upd H2 b (.lst (zs.set n v))) ([] : List Addr) := ⟨Same.refl _, fun _ z => (nomatch z), fun _ z => (nomatch z)⟩
                have hin : Rep K G2 (upd H2 b (.lst (zs.set n v))) (.ref b) (.lst true (ys.set n d)) [b] := .lstO (gN b (List.mem_cons_of_mem _ bL)) upd_same List.not_mem_nil (hN3.keep k0)
                obtain ⟨L2, hr2, sL2⟩ := hset G2 (upd H2 b (.lst (zs.set n v))) (.lst true (ys.set n d)) [b] t12.g (fun x hx hm => ⟨fun _ => gN x (List.mem_cons_of_mem _ hx), by
                  have ne : x ≠ b := fun z => hm (List.mem_cons.mpr (.inl z))
                  rw [upd_ne ne]
                  exact hN x (List.mem_cons_of_mem _ hx)⟩) hin (fun x hx _ => hx)
                have sub2 : ∀ x ∈ L2, x ∈ L := fun x hx => by
                  rcases sL2 x hx with z | z
                  · exact z.1
                  · rcases List.mem_cons.mp z with z | z
                    · exact z ▸ bL
                    · cases z
                have haH : (upd H2 b (.lst (zs.set n v))) a = some (.lst vs) := by rw [upd_ne hab.symm]; exact t12.all hH
                have hnew : Rep K G2 (upd H2 b (.lst (zs.set n v))) (.ref a) (.lst true (xs.set k (.lst true (ys.set n d)))) (a :: L2) := .lstO (gN a List.mem_cons_self) haH (fun z => hn (sub2 a z)) hr2
                have tw : Tr G2 H2 (fun x => x = b) G2 (upd H2 b (.lst (zs.set n v))) (fun x => x = b) := Tr.write r2.sub (gN b (List.mem_cons_of_mem _ bL)) rfl ⟨_, t12.all hHb⟩
                have r02 := ((rr.drop il).tr t1 fun _ _ z => z).tr t2 fun _ _ z => z
                have rd := r02.tr tw fun x ⟨m, hx⟩ z => by
                  subst z
                  by_cases hki : m = il
                  · subst hki; rw [fset_same] at hx; cases hx
                  · rw [fset_ne hki] at hx; exact rr.dis m il hki _ hx (subF _ (List.mem_cons_of_mem _ bL))
                have in2 : ∀ x ∈ a :: L2, x ∈ F il := fun x hx => by
                  rcases List.mem_cons.mp hx with z | z
                  · exact z ▸ subF a List.mem_cons_self
                  · exact subF x (List.mem_cons_of_mem _ (sub2 x z))
                have rp := rd.re (i := il) (by rw [List.length_set]; exact rr.lt h0) hv hnew (fun x hx m hm hxm => by
                  rw [fset_ne hm] at hxm
                  exact rr.dis m il hm _ hxm (in2 x hx))
                rw [List.set_set] at rp
                have Fn : ∀ {x}, own (fset (fset F il []) il (a :: L2)) x → own F x := fun {x} ⟨m, hx⟩ => by
                  by_cases c : m = il
                  · subst c; rw [fset_same] at hx; exact ⟨m, in2 x hx⟩
                  · rw [fset_ne c, fset_ne c] at hx; exact ⟨m, hx⟩
                refine q σ G2 _ _ ((t12.wk (B := fun x => own F x ∨ x ∈ ([] : List Addr)) (A2 := fun x => own F x ∨ x ∈ ([] : List Addr)) (fun _ z => z.elim) fun x z => .inr (.inl z)).trans (tw.wk (B := fun x => own F x ∨ x ∈ ([] : List Addr)) (fun x z => .inl (z ▸ ⟨il, subF b (List.mem_cons_of_mem _ bL)⟩)) fun x hx => .inr (.inl (.inl (Fn hx))))) rp Pin.refl
              · rw [if_neg hz] at e8; cases e8
            | _ => cases e6
        | _ => cases e4
      | _ => cases e2
  | _ => cases e
section
variable {X : Cx} {pn : Nat → Bool} {a i e : Expr} {q2 pos : Pos} {il : Nat} {fi fj : FE}
theorem pgf_elV (h1 : PE X a (tVar il)) (h2 : PEf X i fi) (h3 : PEf X e fj) (hpl : PlainIx i)
    (ha : ∀ v, assign (.Subscript (.Subscript a i q2) e pos) X.env v = (do
      let ov ← holding [v] (eval (.Subscript a i q2) X.env)
      let iv ← holding [v, ov] (eval e X.env)
      standAt pos
      holding [v, ov, iv] (setItem ov iv v)
      release [v, ov, iv] []) := by intro _; rfl) : PGf X pn (.Subscript (.Subscript a i q2) e pos) (tgElVF il fi fj) :=
  .mk (pg_sub (pe_ix ix_seq h1 h2 hpl) h3 set_list ha) (simG_elV (simE_of fi) (simE_of fj))
end
end VS
set_option Elab.async false
set_option linter.all false
set_option maxRecDepth 100000
namespace VS
open PySem PySem.Spec PyProof.Rows L2 RZ
/-! ### the words' values, step by step: what simp may use; each «and then» has a name, so that simp stays out of it -/
theorem nrfl {α : Sort _} {a b : α} (h : a = b) : a = b := h
def bd {α β : Type} (o : Option α) (f : α → Option β) : Option β := o.bind f
@[simp] theorem bd_some {α β : Type} (x : α) (f : α → Option β) : bd (some x) f = f x := nrfl rfl
@[simp] theorem bd_none {α β : Type} (f : α → Option β) : bd none f = none := nrfl rfl
def ift {α β : Type} (b : Bool) (x y : α → β) (a : α) : β := if b = true then x a else y a
@[simp] theorem ift_t {α β : Type} (x y : α → β) (a : α) : ift true x y a = x a := nrfl rfl
@[simp] theorem ift_f {α β : Type} (x y : α → β) (a : α) : ift false x y a = y a := nrfl rfl
def gb {α : Type} (b : Bool) (x : Option α) : Option α := if b = true then x else none
@[simp] theorem gb_t {α : Type} (x : Option α) : gb true x = x := nrfl rfl
@[simp] theorem gb_f {α : Type} (x : Option α) : gb false x = none := nrfl rfl
theorem gb_of {α : Type} {b : Bool} {x : Option α} (h : b = true) : gb b x = x := by rw [h]; rfl
theorem gb_ite {α : Type} {p : Prop} [Decidable p] (x : Option α) : (if p then x else none) = gb (decide p) x := by
  unfold gb
  by_cases h : p <;> simp [h]
def outK (g : FS) : Out → Option Out
  | .nx ρ => g ρ
  | o => some o
@[simp] theorem outK_nx (g : FS) (ρ : Env) : outK g (.nx ρ) = g ρ := nrfl rfl
@[simp] theorem outK_rt (g : FS) (d : D) (ρ : Env) : outK g (.rt d ρ) = some (.rt d ρ) := nrfl rfl
@[simp] theorem outK_bk (g : FS) (ρ : Env) : outK g (.bk ρ) = some (.bk ρ) := nrfl rfl
@[simp] theorem outK_ct (g : FS) (ρ : Env) : outK g (.ct ρ) = some (.ct ρ) := nrfl rfl
def blK : D × Env → Option (Bool × Env)
  | (.bl b, ρ) => some (b, ρ)
  | _ => none
@[simp] theorem blK_e (b : Bool) (ρ : Env) : blK (.bl b, ρ) = some (b, ρ) := rfl
def nxK  : Env → Option Out := fun ρ => some (.nx ρ)
@[simp] theorem nxK_e  (ρ : Env) : nxK  ρ = some (.nx ρ) := nrfl rfl
def asgK (g : D → Env → Option Env) : D × Env → Option Out := fun (d, ρ) => bd (g d ρ) nxK
@[simp] theorem asgK_e (g : D → Env → Option Env) (d : D) (ρ : Env) : asgK g (d, ρ) = bd (g d ρ) nxK := nrfl rfl
def dropK  : D × Env → Option Out := fun (d, ρ) => some (.nx ρ)
@[simp] theorem dropK_e  (d : D) (ρ : Env) : dropK  (d, ρ) = some (.nx ρ) := nrfl rfl
def retK  : D × Env → Option Out := fun (d, ρ) => some (.rt d ρ)
@[simp] theorem retK_e  (d : D) (ρ : Env) : retK  (d, ρ) = some (.rt d ρ) := nrfl rfl
def ifK (f : FS) (g : FS) : Bool × Env → Option Out := fun (b, ρ) => ift b f g ρ
@[simp] theorem ifK_e (f : FS) (g : FS) (b : Bool) (ρ : Env) : ifK f g (b, ρ) = ift b f g ρ := nrfl rfl
def notK  : Bool × Env → Option (Bool × Env) := fun (b, ρ) => some (!b, ρ)
@[simp] theorem notK_e  (b : Bool) (ρ : Env) : notK  (b, ρ) = some (!b, ρ) := nrfl rfl
def boK (b0 : Bool) : Env → Option (Bool × Env) := fun ρ => some (b0, ρ)
@[simp] theorem boK_e (b0 : Bool) (ρ : Env) : boK b0 ρ = some (b0, ρ) := nrfl rfl
def bvK (b0 : Bool) : Env → Option (D × Env) := fun ρ => some (D.bl b0, ρ)
@[simp] theorem bvK_e (b0 : Bool) (ρ : Env) : bvK b0 ρ = some (D.bl b0, ρ) := nrfl rfl
def andK (g : FB) : Bool × Env → Option (Bool × Env) := fun (b, ρ) => ift b g (boK false) ρ
@[simp] theorem andK_e (g : FB) (b : Bool) (ρ : Env) : andK g (b, ρ) = ift b g (boK false) ρ := nrfl rfl
def orK (g : FB) : Bool × Env → Option (Bool × Env) := fun (b, ρ) => ift b (boK true) g ρ
@[simp] theorem orK_e (g : FB) (b : Bool) (ρ : Env) : orK g (b, ρ) = ift b (boK true) g ρ := nrfl rfl
def bEK  : Bool × Env → Option (D × Env) := fun (b, ρ) => some (D.bl b, ρ)
@[simp] theorem bEK_e  (b : Bool) (ρ : Env) : bEK  (b, ρ) = some (D.bl b, ρ) := nrfl rfl
def ifEK (f : FE) (g : FE) : Bool × Env → Option (D × Env) := fun (b, ρ) => ift b f g ρ
@[simp] theorem ifEK_e (f : FE) (g : FE) (b : Bool) (ρ : Env) : ifEK f g (b, ρ) = ift b f g ρ := nrfl rfl
def andVK (g : FE) : Bool × Env → Option (D × Env) := fun (b, ρ) => ift b g (bvK false) ρ
@[simp] theorem andVK_e (g : FE) (b : Bool) (ρ : Env) : andVK g (b, ρ) = ift b g (bvK false) ρ := nrfl rfl
def orVK (g : FE) : Bool × Env → Option (D × Env) := fun (b, ρ) => ift b (bvK true) g ρ
@[simp] theorem orVK_e (g : FE) (b : Bool) (ρ : Env) : orVK g (b, ρ) = ift b (bvK true) g ρ := nrfl rfl
def notVK  : Bool × Env → Option (D × Env) := fun (b, ρ) => some (D.bl (!b), ρ)
@[simp] theorem notVK_e  (b : Bool) (ρ : Env) : notVK  (b, ρ) = some (D.bl (!b), ρ) := nrfl rfl
def pairK (ρ : Env) : D → Option (D × Env) := fun d => some (d, ρ)
@[simp] theorem pairK_e (ρ : Env) (d : D) : pairK ρ d = some (d, ρ) := nrfl rfl
def setK (ρ : Env) (i : Nat) : D → Option (D × Env) := fun d => some (d, ρ.set i none)
@[simp] theorem setK_e (ρ : Env) (i : Nat) (d : D) : setK ρ i d = some (d, ρ.set i none) := nrfl rfl
def frzK (i : Nat) (d : D) : Env → Option (D × Env) := fun ρ => some (freeze d, ρ.set i (some (freeze d)))
@[simp] theorem frzK_e (i : Nat) (d : D) (ρ : Env) : frzK i d ρ = some (freeze d, ρ.set i (some (freeze d))) := nrfl rfl
def keepK (d : D) : Env → Option (D × Env) := fun ρ => some (d, ρ)
@[simp] theorem keepK_e (d : D) (ρ : Env) : keepK d ρ = some (d, ρ) := nrfl rfl
def varK (ρ : Env) (i : Nat) : D → Option (D × Env) := fun d => ift (noOwn d) (keepK d) (frzK i d) ρ
@[simp] theorem varK_e (ρ : Env) (i : Nat) (d : D) : varK ρ i d = ift (noOwn d) (keepK d) (frzK i d) ρ := nrfl rfl
def evbK2  : List (Option D) × Env → Option (List (Option D) × Env) := fun (ts, ρ) => some (none :: ts, ρ)
@[simp] theorem evbK2_e  (ts : List (Option D)) (ρ : Env) : evbK2  (ts, ρ) = some (none :: ts, ρ) := nrfl rfl
def evtK2 (d : D) : List (Option D) × Env → Option (List (Option D) × Env) := fun (ts, ρ) => some (some d :: ts, ρ)
@[simp] theorem evtK2_e (d : D) (ts : List (Option D)) (ρ : Env) : evtK2 d (ts, ρ) = some (some d :: ts, ρ) := nrfl rfl
def evbK (r : List Op) (ρ : Env) : D → Option (List (Option D) × Env) := fun _ => bd (evOps r ρ) evbK2
@[simp] theorem evbK_e (r : List Op) (ρ : Env) (d : D) : evbK r ρ d = bd (evOps r ρ) evbK2 := nrfl rfl
def evtK (r : List Op) : D × Env → Option (List (Option D) × Env) := fun (d, ρ) => bd (evOps r ρ) (evtK2 d)
@[simp] theorem evtK_e (r : List Op) (d : D) (ρ : Env) : evtK r (d, ρ) = bd (evOps r ρ) (evtK2 d) := nrfl rfl
def consK (d : D) : List D → Option (List D) := fun ds => some (d :: ds)
@[simp] theorem consK_e (d : D) (ds : List D) : consK d ds = some (d :: ds) := nrfl rfl
def febK (r : List Op) (ts : List (Option D)) (ρ : Env) : D → Option (List D) := fun d => bd (fetch r ts ρ) (consK d)
@[simp] theorem febK_e (r : List Op) (ts : List (Option D)) (ρ : Env) (d : D) : febK r ts ρ d = bd (fetch r ts ρ) (consK d) := nrfl rfl
def tabK (r : List Op) (ts : List (Option D)) (ρ : Env) : D → Option (List D) := fun d => gb (noOwn d) (bd (takeN r ts ρ) (consK d))
@[simp] theorem tabK_e (r : List Op) (ts : List (Option D)) (ρ : Env) (d : D) : tabK r ts ρ d = gb (noOwn d) (bd (takeN r ts ρ) (consK d)) := nrfl rfl
def opK2 (g : List D → Option D) (ρ : Env) : List D → Option (D × Env) := fun ds => bd (g ds) (pairK ρ)
@[simp] theorem opK2_e (g : List D → Option D) (ρ : Env) (ds : List D) : opK2 g ρ ds = bd (g ds) (pairK ρ) := nrfl rfl
def opK (g : List D → Option D) (ops : List Op) : List (Option D) × Env → Option (D × Env) := fun (ts, ρ) => bd (fetch ops ts ρ) (opK2 g ρ)
@[simp] theorem opK_e (g : List D → Option D) (ops : List Op) (ts : List (Option D)) (ρ : Env) : opK g ops (ts, ρ) = bd (fetch ops ts ρ) (opK2 g ρ) := nrfl rfl
def tupK2 (ρ : Env) : List D → Option (D × Env) := fun ds => gb (decide (ds.length ≤ smallL)) (some (D.tup ds, ρ))
@[simp] theorem tupK2_e (ρ : Env) (ds : List D) : tupK2 ρ ds = gb (decide (ds.length ≤ smallL)) (some (D.tup ds, ρ)) := nrfl rfl
def tupK (ops : List Op) : List (Option D) × Env → Option (D × Env) := fun (ts, ρ) => bd (takeN ops ts ρ) (tupK2 ρ)
@[simp] theorem tupK_e (ops : List Op) (ts : List (Option D)) (ρ : Env) : tupK ops (ts, ρ) = bd (takeN ops ts ρ) (tupK2 ρ) := nrfl rfl
def lstK2 (ρ : Env) : List D → Option (D × Env) := fun ds => gb (decide (ds.length ≤ smallL)) (some (D.lst true ds, ρ))
@[simp] theorem lstK2_e (ρ : Env) (ds : List D) : lstK2 ρ ds = gb (decide (ds.length ≤ smallL)) (some (D.lst true ds, ρ)) := nrfl rfl
def lstK (ops : List Op) : List (Option D) × Env → Option (D × Env) := fun (ts, ρ) => bd (takeN ops ts ρ) (lstK2 ρ)
@[simp] theorem lstK_e (ops : List Op) (ts : List (Option D)) (ρ : Env) : lstK ops (ts, ρ) = bd (takeN ops ts ρ) (lstK2 ρ) := nrfl rfl
def parK2 (is : List Nat) (ρ : Env) : List D → Option Out := fun ds => gb (decide (ds.length = is.length)) (some (.nx (setAll is ds ρ)))
@[simp] theorem parK2_e (is : List Nat) (ρ : Env) (ds : List D) : parK2 is ρ ds = gb (decide (ds.length = is.length)) (some (.nx (setAll is ds ρ))) := nrfl rfl
def parK (is : List Nat) (ops : List Op) : List (Option D) × Env → Option Out := fun (ts, ρ) => bd (takeN ops ts ρ) (parK2 is ρ)
@[simp] theorem parK_e (is : List Nat) (ops : List Op) (ts : List (Option D)) (ρ : Env) : parK is ops (ts, ρ) = bd (takeN ops ts ρ) (parK2 is ρ) := nrfl rfl
def tgcK (gs : List D → Env → Option Env) (r : List D) : Env → Option Env := fun ρ => gs r ρ
@[simp] theorem tgcK_e (gs : List D → Env → Option Env) (r : List D) (ρ : Env) : tgcK gs r ρ = gs r ρ := nrfl rfl
def sub3K (k : Nat) (d0 : D) (ρ : Env) : List D → Option Env := fun ds => subPut ρ k d0 ds (getS ρ k)
@[simp] theorem sub3K_e (k : Nat) (d0 : D) (ρ : Env) (ds : List D) : sub3K k d0 ρ ds = subPut ρ k d0 ds (getS ρ k) := nrfl rfl
def sub2K (k : Nat) (oi : Op) (d0 : D) : List (Option D) × Env → Option Env := fun (ts, ρ) => bd (fetch [oi] ts ρ) (sub3K k d0 ρ)
@[simp] theorem sub2K_e (k : Nat) (oi : Op) (d0 : D) (ts : List (Option D)) (ρ : Env) : sub2K k oi d0 (ts, ρ) = bd (fetch [oi] ts ρ) (sub3K k d0 ρ) := nrfl rfl
def sub1K (k : Nat) (oi : Op) (d0 : D) (ρ : Env) : D → Option Env := fun _ => bd (evOps [oi] ρ) (sub2K k oi d0)
@[simp] theorem sub1K_e (k : Nat) (oi : Op) (d0 : D) (ρ : Env) (d : D) : sub1K k oi d0 ρ d = bd (evOps [oi] ρ) (sub2K k oi d0) := nrfl rfl
def putAt (ρ : Env) (k : Nat) (d : D) (xs : List D) : Nat → Option Env := fun j => some (ρ.set k (some (.lst true (xs.set j d))))
@[simp] theorem putAt_e (ρ : Env) (k : Nat) (d : D) (xs : List D) (j : Nat) : putAt ρ k d xs j = some (ρ.set k (some (.lst true (xs.set j d)))) := nrfl rfl
def truK2 (ρ : Env) : Bool → Option (Bool × Env) := fun b => some (b, ρ)
@[simp] theorem truK2_e (ρ : Env) (b : Bool) : truK2 ρ b = some (b, ρ) := nrfl rfl
def truK1 (ρ : Env) : List D → Option (Bool × Env)
  | [d] => bd (truD d) (truK2 ρ)
  | _ => none
@[simp] theorem truK1_e (ρ : Env) (d : D) : truK1 ρ [d] = bd (truD d) (truK2 ρ) := nrfl rfl
def truK (o : Op) : List (Option D) × Env → Option (Bool × Env) := fun p => bd (fetch [o] p.1 p.2) (truK1 p.2)
@[simp] theorem truK_e (o : Op) (ts : List (Option D)) (ρ : Env) : truK o (ts, ρ) = bd (fetch [o] ts ρ) (truK1 ρ) := nrfl rfl
def mutK2 (i : Nat) (ρ : Env) : D × List D → Option (D × Env) := fun q => some (q.1, ρ.set i (some (.lst true q.2)))
@[simp] theorem mutK2_e (i : Nat) (ρ : Env) (d : D) (xs : List D) : mutK2 i ρ (d, xs) = some (d, ρ.set i (some (.lst true xs))) := nrfl rfl
def mutK (g : List D → List D → Option (D × List D)) (i : Nat) (ρ : Env) (ds : List D) : Option D → Option (D × Env)
  | some (.lst true xs) => bd (g xs ds) (mutK2 i ρ)
  | _ => none
@[simp] theorem mutK_e (g : List D → List D → Option (D × List D)) (i : Nat) (ρ : Env) (ds xs : List D) : mutK g i ρ ds (some (.lst true xs)) = bd (g xs ds) (mutK2 i ρ) := nrfl rfl
def isO : Option D → Bool
  | some (.lst true _) => true
  | _ => false
@[simp] theorem isO_e (xs : List D) : isO (some (.lst true xs)) = true := rfl
def mutK1 (g : List D → List D → Option (D × List D)) (i : Nat) (ρ : Env) : List D → Option (D × Env) := fun ds => mutK g i ρ ds (getS ρ i)
@[simp] theorem mutK1_e (g : List D → List D → Option (D × List D)) (i : Nat) (ρ : Env) (ds : List D) : mutK1 g i ρ ds = mutK g i ρ ds (getS ρ i) := nrfl rfl
def mutK0 (g : List D → List D → Option (D × List D)) (i : Nat) (ops : List Op) : List (Option D) × Env → Option (D × Env) := fun (ts, ρ) => bd (takeN ops ts ρ) (mutK1 g i ρ)
@[simp] theorem mutK0_e (g : List D → List D → Option (D × List D)) (i : Nat) (ops : List Op) (ts : List (Option D)) (ρ : Env) : mutK0 g i ops (ts, ρ) = bd (takeN ops ts ρ) (mutK1 g i ρ) := nrfl rfl
def augK3 (i : Nat) (ρ : Env) : D → Option Out := fun d => some (.nx (ρ.set i (some d)))
@[simp] theorem augK3_e (i : Nat) (ρ : Env) (d : D) : augK3 i ρ d = some (.nx (ρ.set i (some d))) := nrfl rfl
def augK2 (i : Nat) (g : List D → Option D) (d0 : D) (ρ : Env) : List D → Option Out := fun ds => bd (g (d0 :: ds)) (augK3 i ρ)
@[simp] theorem augK2_e (i : Nat) (g : List D → Option D) (d0 : D) (ρ : Env) (ds : List D) : augK2 i g d0 ρ ds = bd (g (d0 :: ds)) (augK3 i ρ) := nrfl rfl
def augK1 (i : Nat) (g : List D → Option D) (o : Op) (d0 : D) : List (Option D) × Env → Option Out := fun (ts, ρ) => bd (fetch [o] ts ρ) (augK2 i g d0 ρ)
@[simp] theorem augK1_e (i : Nat) (g : List D → Option D) (o : Op) (d0 : D) (ts : List (Option D)) (ρ : Env) : augK1 i g o d0 (ts, ρ) = bd (fetch [o] ts ρ) (augK2 i g d0 ρ) := nrfl rfl
def augK (i : Nat) (g : List D → Option D) (o : Op) (ρ : Env) : D → Option Out := fun d => gb (noOwn d) (bd (evOps [o] ρ) (augK1 i g o d))
@[simp] theorem augK_e (i : Nat) (g : List D → Option D) (o : Op) (ρ : Env) (d : D) : augK i g o ρ d = gb (noOwn d) (bd (evOps [o] ρ) (augK1 i g o d)) := nrfl rfl
def fcK (d0 : D) : List D × Env → Option (List D × Env) := fun (ds, ρ) => some (d0 :: ds, ρ)
@[simp] theorem fcK_e (d0 : D) (ds : List D) (ρ : Env) : fcK d0 (ds, ρ) = some (d0 :: ds, ρ) := nrfl rfl
def fcB (ps : List Bool) (r : List Op) (ts : List (Option D)) : Env → Option (List D × Env) := fetchC ps r ts
@[simp] theorem fcB_e (ps : List Bool) (r : List Op) (ts : List (Option D)) (ρ : Env) : fcB ps r ts ρ = fetchC ps r ts ρ := nrfl rfl
def fcN (ps : List Bool) (i : Nat) (r : List Op) (ts : List (Option D)) : Env → Option (List D × Env) := fun ρ => fetchC ps r ts (ρ.set i none)
@[simp] theorem fcN_e (ps : List Bool) (i : Nat) (r : List Op) (ts : List (Option D)) (ρ : Env) : fcN ps i r ts ρ = fetchC ps r ts (ρ.set i none) := nrfl rfl
def fcb1 (ps : List Bool) (r : List Op) (ts : List (Option D)) (d : D) : Env → Option (List D × Env) := fun ρ => bd (fcB ps r ts ρ) (fcK d)
@[simp] theorem fcb1_e (ps : List Bool) (r : List Op) (ts : List (Option D)) (d : D) (ρ : Env) : fcb1 ps r ts d ρ = bd (fetchC ps r ts ρ) (fcK d) := nrfl rfl
def fcb2 (p : Bool) (ps : List Bool) (i : Nat) (r : List Op) (ts : List (Option D)) (d : D) : Env → Option (List D × Env) := fun ρ => gb p (bd (fcN ps i r ts ρ) (fcK d))
@[simp] theorem fcb2_e (p : Bool) (ps : List Bool) (i : Nat) (r : List Op) (ts : List (Option D)) (d : D) (ρ : Env) : fcb2 p ps i r ts d ρ = gb p (bd (fetchC ps r ts (ρ.set i none)) (fcK d)) := rfl
def fcbK (p : Bool) (ps : List Bool) (i : Nat) (r : List Op) (ts : List (Option D)) (ρ : Env) : D → Option (List D × Env) := fun d => ift (noOwn d) (fcb1 ps r ts d) (fcb2 p ps i r ts d) ρ
@[simp] theorem fcbK_e (p : Bool) (ps : List Bool) (i : Nat) (r : List Op) (ts : List (Option D)) (ρ : Env) (d : D) : fcbK p ps i r ts ρ d = ift (noOwn d) (fcb1 ps r ts d) (fcb2 p ps i r ts d) ρ := nrfl rfl
def caK2 (ops : List Op) (ds : List D) (ρ : Env) : D × List (Option D) → Option (D × Env) := fun (d, os) => some (d, putB ops ds os ρ)
@[simp] theorem caK2_e (ops : List Op) (ds : List D) (ρ : Env) (d : D) (os : List (Option D)) : caK2 ops ds ρ (d, os) = some (d, putB ops ds os ρ) := nrfl rfl
def caK1 (fn : Fn) (ops : List Op) : List D × Env → Option (D × Env) := fun (ds, ρ) => bd (fn.sem ds) (caK2 ops ds ρ)
@[simp] theorem caK1_e (fn : Fn) (ops : List Op) (ds : List D) (ρ : Env) : caK1 fn ops (ds, ρ) = bd (fn.sem ds) (caK2 ops ds ρ) := nrfl rfl
def caK (fn : Fn) (ops : List Op) : List (Option D) × Env → Option (D × Env) := fun (ts, ρ) => bd (fetchC fn.pins ops ts ρ) (caK1 fn ops)
@[simp] theorem caK_e (fn : Fn) (ops : List Op) (ts : List (Option D)) (ρ : Env) : caK fn ops (ts, ρ) = bd (fetchC fn.pins ops ts ρ) (caK1 fn ops) := nrfl rfl
def ckK (fn : Fn) (is : List Nat) (ops : List Op) : List (Option D) × Env → Option (D × Env) := fun (ts, ρ) => bd (fetchC fn.pins (permL is ops) (permL is ts) ρ) (caK1 fn (permL is ops))
@[simp] theorem ckK_e (fn : Fn) (is : List Nat) (ops : List Op) (ts : List (Option D)) (ρ : Env) : ckK fn is ops (ts, ρ) = bd (fetchC fn.pins (permL is ops) (permL is ts) ρ) (caK1 fn (permL is ops)) := nrfl rfl
@[simp] theorem seqF_e (f g : FS) (ρ : Env) : seqF f g ρ = bd (f ρ) (outK g) := by
  unfold seqF bd
  congr 1
@[simp] theorem asgF_e (f : FE) (g : D → Env → Option Env) (ρ : Env) : asgF f g ρ = bd (f ρ) (asgK g) := nrfl rfl
@[simp] theorem dropF_e (f : FE) (ρ : Env) : dropF f ρ = bd (f ρ) dropK := nrfl rfl
@[simp] theorem retF_e (f : FE) (ρ : Env) : retF f ρ = bd (f ρ) retK := nrfl rfl
@[simp] theorem retN_e (ρ : Env) : retN ρ = some (.rt .non ρ) := nrfl rfl
@[simp] theorem passF_e (ρ : Env) : passF ρ = some (.nx ρ) := nrfl rfl
@[simp] theorem brkF_e (ρ : Env) : brkF ρ = some (.bk ρ) := nrfl rfl
@[simp] theorem cntF_e (ρ : Env) : cntF ρ = some (.ct ρ) := nrfl rfl
@[simp] theorem neverF_e (ρ : Env) : neverF ρ = none := nrfl rfl
@[simp] theorem ifF_e (c : FB) (f g : FS) (ρ : Env) : ifF c f g ρ = bd (c ρ) (ifK f g) := nrfl rfl
@[simp] theorem tgN_e (i : Nat) (d : D) (ρ : Env) : tgN i d ρ = some (ρ.set i (some d)) := nrfl rfl
@[simp] theorem tgNil_e (ρ : Env) : tgNil [] ρ = some ρ := nrfl rfl
@[simp] theorem tgCons_e (g : D → Env → Option Env) (gs : List D → Env → Option Env) (d : D) (r : List D) (ρ : Env) : tgCons g gs (d :: r) ρ = bd (g d ρ) (tgcK gs r) := nrfl rfl
@[simp] theorem tgT_e (n : Nat) (gs : List D → Env → Option Env) (xs : List D) (ρ : Env) : tgT n gs (.tup xs) ρ = gb (decide (xs.length = n)) (gs xs ρ) := gb_ite _
@[simp] theorem tgSub_e (k : Nat) (oi : Op) (d : D) (ρ : Env) : tgSub k oi d ρ = bd (getS ρ k) (sub1K k oi d ρ) := nrfl rfl
@[simp] theorem subPut_e (ρ : Env) (k : Nat) (d : D) (i : Int) (xs : List D) : subPut ρ k d [.int i] (some (.lst true xs)) = bd (ixN xs.length i) (putAt ρ k d xs) := nrfl rfl
@[simp] theorem tstF_e (o : Op) (ρ : Env) : tstF o ρ = bd (evOps [o] ρ) (truK o) := by
  unfold tstF bd
  congr 1
@[simp] theorem notF_e (f : FB) (ρ : Env) : notF f ρ = bd (f ρ) notK := nrfl rfl
@[simp] theorem andF_e (f g : FB) (ρ : Env) : andF f g ρ = bd (f ρ) (andK g) := nrfl rfl
@[simp] theorem orF_e (f g : FB) (ρ : Env) : orF f g ρ = bd (f ρ) (orK g) := nrfl rfl
@[simp] theorem yesF_e (ρ : Env) : yesF ρ = some (true, ρ) := nrfl rfl
@[simp] theorem bT_e (f : FE) (ρ : Env) : bT f ρ = bd (f ρ) blK := by
  unfold bT bd
  congr 1
  funext p
  obtain ⟨d, ρ⟩ := p
  cases d <;> rfl
@[simp] theorem bE_e (f : FB) (ρ : Env) : bE f ρ = bd (f ρ) bEK := nrfl rfl
@[simp] theorem ifE_e (c : FB) (f g : FE) (ρ : Env) : ifE c f g ρ = bd (c ρ) (ifEK f g) := nrfl rfl
def thenK {α β γ : Type} (f : α → Option β) (g : β → Option γ) : α → Option γ := fun a => bd (f a) g
@[simp] theorem thenK_e {α β γ : Type} (f : α → Option β) (g : β → Option γ) (a : α) : thenK f g a = bd (f a) g := nrfl rfl
@[simp] theorem andV_e (f g : FE) (ρ : Env) : andV f g ρ = bd (f ρ) (thenK blK (andVK g)) := by
  unfold andV bd
  congr 1
  funext p
  obtain ⟨d, ρ⟩ := p
  cases d <;> first | rfl | (rename_i b; cases b <;> rfl)
@[simp] theorem orV_e (f g : FE) (ρ : Env) : orV f g ρ = bd (f ρ) (thenK blK (orVK g)) := by
  unfold orV bd
  congr 1
  funext p
  obtain ⟨d, ρ⟩ := p
  cases d <;> first | rfl | (rename_i b; cases b <;> rfl)
@[simp] theorem notV_e (f : FE) (ρ : Env) : notV f ρ = bd (f ρ) (thenK blK notVK) := by
  unfold notV bd
  congr 1
  funext p
  obtain ⟨d, ρ⟩ := p
  cases d <;> rfl
@[simp] theorem litF_e (d : D) (ρ : Env) : litF d ρ = some (d, ρ) := nrfl rfl
@[simp] theorem varF_e (i : Nat) (ρ : Env) : varF i ρ = bd (getS ρ i) (varK ρ i) := nrfl rfl
@[simp] theorem movF_e (i : Nat) (ρ : Env) : movF i ρ = bd (getS ρ i) (setK ρ i) := nrfl rfl
@[simp] theorem getS_z (a : Option D) (ρ : Env) : getS (a :: ρ) 0 = a := by
  cases a <;> rfl
@[simp] theorem getS_s (a : Option D) (ρ : Env) (n : Nat) : getS (a :: ρ) (n + 1) = getS ρ n := nrfl rfl
@[simp] theorem evOps_nil (ρ : Env) : evOps [] ρ = some ([], ρ) := nrfl rfl
@[simp] theorem evOps_b (i : Nat) (r : List Op) (ρ : Env) : evOps (.b i :: r) ρ = bd (getS ρ i) (evbK r ρ) := nrfl rfl
@[simp] theorem evOps_t (f : FE) (r : List Op) (ρ : Env) : evOps (.t f :: r) ρ = bd (f ρ) (evtK r) := nrfl rfl
@[simp] theorem fetch_nil (ts : List (Option D)) (ρ : Env) : fetch [] ts ρ = some [] := nrfl rfl
@[simp] theorem fetch_b (i : Nat) (r : List Op) (t : Option D) (ts : List (Option D)) (ρ : Env) : fetch (.b i :: r) (t :: ts) ρ = bd (getS ρ i) (febK r ts ρ) := nrfl rfl
@[simp] theorem fetch_t (f : FE) (r : List Op) (d : D) (ts : List (Option D)) (ρ : Env) : fetch (.t f :: r) (some d :: ts) ρ = bd (fetch r ts ρ) (consK d) := nrfl rfl
@[simp] theorem takeN_nil (ts : List (Option D)) (ρ : Env) : takeN [] ts ρ = some [] := nrfl rfl
@[simp] theorem takeN_b (i : Nat) (r : List Op) (t : Option D) (ts : List (Option D)) (ρ : Env) : takeN (.b i :: r) (t :: ts) ρ = bd (getS ρ i) (tabK r ts ρ) := nrfl rfl
@[simp] theorem takeN_t (f : FE) (r : List Op) (d : D) (ts : List (Option D)) (ρ : Env) : takeN (.t f :: r) (some d :: ts) ρ = bd (takeN r ts ρ) (consK d) := nrfl rfl
@[simp] theorem opF_e (g : List D → Option D) (ops : List Op) (ρ : Env) : opF g ops ρ = bd (evOps ops ρ) (opK g ops) := nrfl rfl
@[simp] theorem tupF_e (ops : List Op) (ρ : Env) : tupF ops ρ = bd (evOps ops ρ) (tupK ops) := by
  unfold tupF tupK tupK2 bd; congr 1; funext p; congr 1; funext ds; exact gb_ite _
@[simp] theorem lstF_e (ops : List Op) (ρ : Env) : lstF ops ρ = bd (evOps ops ρ) (lstK ops) := by
  unfold lstF lstK lstK2 bd; congr 1; funext p; congr 1; funext ds; exact gb_ite _
@[simp] theorem parF_e (is : List Nat) (ops : List Op) (ρ : Env) : parF is ops ρ = bd (evOps ops ρ) (parK is ops) := by
  unfold parF parK parK2 bd; congr 1; funext p; congr 1; funext ds; exact gb_ite _
@[simp] theorem setAll_c (i : Nat) (is : List Nat) (d : D) (ds : List D) (ρ : Env) : setAll (i :: is) (d :: ds) ρ = setAll is ds (ρ.set i (some d)) := nrfl rfl
@[simp] theorem setAll_n (ρ : Env) : setAll [] [] ρ = ρ := nrfl rfl
@[simp] theorem mutF_e (i : Nat) (g : List D → List D → Option (D × List D)) (ops : List Op) (ρ : Env) : mutF i g ops ρ = gb (isO (getS ρ i)) (bd (evOps ops ρ) (mutK0 g i ops)) := by
  unfold mutF
  cases h : getS ρ i with
  | none => rfl
  | some d =>
    cases d with
    | lst o xs =>
      cases o with
      | false => rfl
      | true =>
        simp only [isO_e, gb_t]
        unfold mutK0 bd
        congr 1
    | _ => rfl
@[simp] theorem augF_e (i : Nat) (g : List D → Option D) (o : Op) (ρ : Env) : augF i g o ρ = bd (getS ρ i) (augK i g o ρ) := by
  unfold augF bd; congr 1
/-! calls -/
@[simp] theorem fetchC_nil (ρ : Env) : fetchC [] [] [] ρ = some ([], ρ) := nrfl rfl
@[simp] theorem fetchC_b (p : Bool) (ps : List Bool) (i : Nat) (r : List Op) (t : Option D) (ts : List (Option D)) (ρ : Env) : fetchC (p :: ps) (.b i :: r) (t :: ts) ρ = bd (getS ρ i) (fcbK p ps i r ts ρ) := by
  cases t <;> rfl
@[simp] theorem fetchC_t (p : Bool) (ps : List Bool) (f : FE) (r : List Op) (d : D) (ts : List (Option D)) (ρ : Env) : fetchC (p :: ps) (.t f :: r) (some d :: ts) ρ = bd (fetchC ps r ts ρ) (fcK d) := nrfl rfl
@[simp] theorem putB_n (ds : List D) (os : List (Option D)) (ρ : Env) : putB [] ds os ρ = ρ := nrfl rfl
@[simp] theorem putB_b (i : Nat) (r : List Op) (d : D) (ds : List D) (o : Option D) (os : List (Option D)) (ρ : Env) : putB (.b i :: r) (d :: ds) (o :: os) ρ = putB r ds os (cond (noOwn d) ρ (ρ.set i o)) := by
  show (if noOwn d = true then _ else _) = _
  cases noOwn d <;> rfl
@[simp] theorem putB_t (f : FE) (r : List Op) (d : D) (ds : List D) (o : Option D) (os : List (Option D)) (ρ : Env) : putB (.t f :: r) (d :: ds) (o :: os) ρ = putB r ds os ρ := nrfl rfl
@[simp] theorem callF_e (fn : Fn) (ops : List Op) (ρ : Env) : callF fn ops ρ = bd (evOps ops ρ) (caK fn ops) := nrfl rfl
@[simp] theorem callKF_e (fn : Fn) (is : List Nat) (ops : List Op) (ρ : Env) : callKF fn is ops ρ = bd (evOps ops ρ) (ckK fn is ops) := nrfl rfl
@[simp] theorem permL_n {α : Type} (xs : List α) : permL [] xs = [] := nrfl rfl
@[simp] theorem permL_c {α : Type} (i : Nat) (is : List Nat) (xs : List α) : permL (i :: is) xs = (xs[i]?).toList ++ permL is xs := by
  unfold permL
  cases h : xs[i]? <;> simp [List.filterMap_cons, h]
def finK (pins : List Bool) : Out → Option (D × List (Option D))
  | .rt d ρ => some (d, finP pins ρ)
  | .nx ρ => some (.non, finP pins ρ)
  | _ => none
@[simp] theorem finK_rt (pins : List Bool) (d : D) (ρ : Env) : finK pins (.rt d ρ) = some (d, finP pins ρ) := nrfl rfl
@[simp] theorem finK_nx (pins : List Bool) (ρ : Env) : finK pins (.nx ρ) = some (.non, finP pins ρ) := nrfl rfl
@[simp] theorem finP_n (ρ : Env) : finP [] ρ = [] := by cases ρ <;> rfl
@[simp] theorem finP_t (ps : List Bool) (o : Option D) (ρ : Env) : finP (true :: ps) (o :: ρ) = o :: finP ps ρ := nrfl rfl
@[simp] theorem finP_f (ps : List Bool) (o : Option D) (ρ : Env) : finP (false :: ps) (o :: ρ) = none :: finP ps ρ := nrfl rfl
theorem bodyFn_sem (nN np : Nat) (pins : List Bool) (f : FS) (ds : List D) : (bodyFn nN np pins f).sem ds = gb (decide (ds.length = np)) (bd (f (ds.map some ++ List.replicate (nN - np) none)) (finK pins)) := by
  show bodySem nN np pins f ds = _
  unfold bodySem
  by_cases h : ds.length = np
  · rw [if_pos h]; simp only [h, decide_true, gb_t]
    cases e : f (ds.map some ++ List.replicate (nN - np) none) with
    | none => rfl
    | some o => cases o <;> rfl
  · rw [if_neg h]; simp [h]
@[simp] theorem bodyFn_pins (nN np : Nat) (pins : List Bool) (f : FS) : (bodyFn nN np pins f).pins = pins := nrfl rfl
end VS
set_option Elab.async false
set_option linter.all false
set_option maxRecDepth 100000
namespace VS
open PySem PySem.Spec PyProof.Rows L2 RZ
/-! ### the operations' values -/
@[simp] theorem noOwn_non : noOwn .non = true := by simp [noOwn]
@[simp] theorem noOwn_bl (b : Bool) : noOwn (.bl b) = true := by simp [noOwn]
@[simp] theorem noOwn_int (i : Int) : noOwn (.int i) = true := by simp [noOwn]
@[simp] theorem noOwn_str (i : Str) : noOwn (.str i) = true := by simp [noOwn]
@[simp] theorem noOwn_ty (i : String) : noOwn (.ty i) = true := by simp [noOwn]
@[simp] theorem noOwn_scr (i : List Int) : noOwn (.scr i) = true := by simp [noOwn]
@[simp] theorem noOwn_tup (xs : List D) : noOwn (.tup xs) = noOwns xs := by simp [noOwn]
@[simp] theorem noOwn_lst (o : Bool) (xs : List D) : noOwn (.lst o xs) = (!o && noOwns xs) := by simp [noOwn]
@[simp] theorem noOwns_nil : noOwns [] = true := by simp [noOwns]
@[simp] theorem noOwns_cons (x : D) (xs : List D) : noOwns (x :: xs) = (noOwn x && noOwns xs) := by simp [noOwns]
theorem noOwns_all : ∀ {xs : List D}, (∀ x ∈ xs, noOwn x = true) → noOwns xs = true
  | [], _ => by simp
  | x :: xs, h => by simp [h x (by simp), noOwns_all (xs := xs) fun y hy => h y (by simp [hy])]
theorem noOwns_map {α : Type} {f : α → D} (h : ∀ x, noOwn (f x) = true) (xs : List α) : noOwns (xs.map f) = true := noOwns_all fun x hx => by
  obtain ⟨a, _, rfl⟩ := List.mem_map.mp hx
  exact h a
@[simp] theorem noOwns_ints (xs : List Int) : noOwns (xs.map D.int) = true := noOwns_map (fun _ => by simp) xs
mutual
theorem freeze_of {d : D} (h : noOwn d = true) : freeze d = d := by
  cases d with
  | tup xs => simp only [noOwn_tup] at h; simp only [freeze, freezes_of h]
  | lst o xs =>
    simp only [noOwn_lst, Bool.and_eq_true, Bool.not_eq_true'] at h
    simp only [freeze, freezes_of h.2, h.1]
  | dct o kvs => cases o with
    | false => simp only [freeze]
    | true => cases h
  | _ => simp only [freeze]
theorem freezes_of {xs : List D} (h : noOwns xs = true) : freezes xs = xs := by
  cases xs with
  | nil => simp only [freezes]
  | cons x xs =>
    simp only [noOwns_cons, Bool.and_eq_true] at h
    simp only [freezes, freeze_of h.1, freezes_of h.2]
end
@[simp] theorem freeze_lst (o : Bool) (xs : List D) : freeze (.lst o xs) = .lst false (freezes xs) := by simp only [freeze]
@[simp] theorem freezes_ints (xs : List Int) : freezes (xs.map D.int) = xs.map D.int := freezes_of (noOwns_ints xs)
@[simp] theorem freezes_nil : freezes [] = [] := by simp only [freezes]
@[simp] theorem freezes_cons (x : D) (xs : List D) : freezes (x :: xs) = freeze x :: freezes xs := by simp only [freezes]
@[simp] theorem addD_i (a b : Int) : addD [.int a, .int b] = some (.int (a + b)) := nrfl rfl
theorem addD_l {o o' : Bool} {xs ys : List D} (h1 : noOwns xs = true) (h2 : noOwns ys = true) (h3 : xs.length + ys.length ≤ 100000) : addD [.lst o xs, .lst o' ys] = some (.lst true (xs ++ ys)) := by
  show (if noOwns xs = true ∧ noOwns ys = true ∧ xs.length + ys.length ≤ smallL then _ else _) = _
  rw [if_pos ⟨h1, h2, h3⟩]
@[simp] theorem subD_i (a b : Int) : subD [.int a, .int b] = some (.int (a - b)) := nrfl rfl
@[simp] theorem mulD_i (a b : Int) : mulD [.int a, .int b] = gb (mulOk a b) (some (.int (a * b))) := gb_ite (p := mulOk a b = true) _ |>.trans (by simp)
theorem mulOk_l {a b : Int} (h1 : -18446744073709551616 < a) (h2 : a < 18446744073709551616) : mulOk a b = true := by
  unfold mulOk; simp [h1, h2]
theorem mulOk_r {a b : Int} (h1 : -18446744073709551616 < b) (h2 : b < 18446744073709551616) : mulOk a b = true := by
  unfold mulOk; simp [h1, h2]
theorem mulD_n {o : Bool} {xs : List D} {k : Int} (h1 : noOwns xs = true) (h2 : -1000000 ≤ k) (h3 : k ≤ 1000000) (h4 : xs.length * k.toNat ≤ 100000) : mulD [.lst o xs, .int k] = some (.lst true (List.replicate k.toNat xs).flatten) := by
  show (if _ then _ else _) = _
  rw [if_pos ⟨h1, h2, h3, h4⟩]
@[simp] theorem fdivD_i (a b : Int) : fdivD [.int a, .int b] = gb (fdivOk b) (some (.int (a.fdiv b))) := gb_ite (p := fdivOk b = true) _ |>.trans (by simp)
theorem fdivOk_s {b : Int} (h1 : b ≠ 0) (h2 : -1073741824 < b) (h3 : b < 1073741824) : fdivOk b = true := by
  unfold fdivOk
  have : b ≠ 0 ∧ b.natAbs < 1073741824 := ⟨h1, by omega⟩
  simp [this]
@[simp] theorem modD_i (a b : Int) : modD [.int a, .int b] = gb (decide (b ≠ 0)) (some (.int (a.fmod b))) := gb_ite (p := b ≠ 0) _
@[simp] theorem powD_i (a b : Int) : powD [.int a, .int b] = gb (powOk a b) (some (.int (a ^ b.toNat))) := gb_ite (p := powOk a b = true) _ |>.trans (by simp)
@[simp] theorem negD_i (a : Int) : negD [.int a] = some (.int (-a)) := nrfl rfl
@[simp] theorem ltD_i (a b : Int) : ltD [.int a, .int b] = some (.bl (decide (a < b))) := nrfl rfl
@[simp] theorem leD_i (a b : Int) : leD [.int a, .int b] = some (.bl (decide (a ≤ b))) := nrfl rfl
@[simp] theorem gtD_i (a b : Int) : gtD [.int a, .int b] = some (.bl (decide (b < a))) := nrfl rfl
@[simp] theorem geD_i (a b : Int) : geD [.int a, .int b] = some (.bl (decide (b ≤ a))) := nrfl rfl
@[simp] theorem iaddD_i (a b : Int) : iaddD [.int a, .int b] = some (.int (a + b)) := nrfl rfl
@[simp] theorem isubD_i (a b : Int) : isubD [.int a, .int b] = some (.int (a - b)) := nrfl rfl
@[simp] theorem lenD_l (o : Bool) (xs : List D) : lenD [.lst o xs] = some (.int xs.length) := nrfl rfl
@[simp] theorem lenD_t (xs : List D) : lenD [.tup xs] = some (.int xs.length) := nrfl rfl
@[simp] theorem lenD_s (ns : List Int) : lenD [.scr ns] = some (.int ns.length) := nrfl rfl
@[simp] theorem intD_i (a : Int) : intD [.int a] = some (.int a) := nrfl rfl
@[simp] theorem intD_b (b : Bool) : intD [.bl b] = some (.int (if b then 1 else 0)) := nrfl rfl
@[simp] theorem max2D_i (a b : Int) : max2D [.int a, .int b] = some (.int (if b > a then b else a)) := nrfl rfl
@[simp] theorem min2D_i (a b : Int) : min2D [.int a, .int b] = some (.int (if b < a then b else a)) := nrfl rfl
@[simp] theorem absD_i (a : Int) : absD [.int a] = some (.int (if a < 0 then -a else a)) := nrfl rfl
theorem listD_t {xs : List D} (h : noOwns xs = true) : listD [.tup xs] = some (.lst true xs) := if_pos h
theorem tupleD_l {o : Bool} {xs : List D} (h : noOwns xs = true) : tupleD [.lst o xs] = some (.tup xs) := if_pos h
@[simp] theorem isNonD_e (x : D) : isNonD [x, .non] = some (.bl (isNon x)) := by cases x <;> rfl
@[simp] theorem notNonD_e (x : D) : notNonD [x, .non] = some (.bl (!isNon x)) := by cases x <;> rfl
@[simp] theorem isNon_non : isNon .non = true := nrfl rfl
@[simp] theorem isNon_int (i : Int) : isNon (.int i) = false := nrfl rfl
@[simp] theorem isNon_bl (i : Bool) : isNon (.bl i) = false := nrfl rfl
@[simp] theorem isNon_str (i : Str) : isNon (.str i) = false := nrfl rfl
@[simp] theorem isNon_tup (i : List D) : isNon (.tup i) = false := nrfl rfl
@[simp] theorem isNon_lst (o : Bool) (i : List D) : isNon (.lst o i) = false := nrfl rfl
@[simp] theorem truD_bl (b : Bool) : truD (.bl b) = some b := nrfl rfl
@[simp] theorem truD_int (i : Int) : truD (.int i) = some (i != 0) := nrfl rfl
@[simp] theorem truD_non : truD .non = some false := nrfl rfl
@[simp] theorem truD_tup (xs : List D) : truD (.tup xs) = some (!xs.isEmpty) := nrfl rfl
@[simp] theorem truD_lst (o : Bool) (xs : List D) : truD (.lst o xs) = some (!xs.isEmpty) := nrfl rfl
/-! places in a list -/
theorem ixN_nn {n : Nat} {i : Int} (h : 0 ≤ i) (h2 : i < n) : ixN n i = some i.toNat := by unfold ixN; rw [if_pos h, if_pos h2]
theorem ixN_neg {n : Nat} {i : Int} (h : i < 0) (h2 : -(n : Int) ≤ i) : ixN n i = some (i + n).toNat := by unfold ixN; rw [if_neg (by omega), if_pos h2]
theorem ixN_nat {n k : Nat} (h2 : k < n) : ixN n (k : Int) = some k := by rw [ixN_nn (by omega) (by omega)]; simp
theorem atI_nat {α : Type} {xs : List α} {k : Nat} {x : α} (h : xs[k]? = some x) : atI xs (k : Int) = some x := by
  unfold atI
  rw [ixN_nat (List.getElem?_eq_some_iff.mp h).1]
  exact h
theorem atI_neg {α : Type} {xs : List α} {i : Int} {x : α} (h : i < 0) (h2 : -(xs.length : Int) ≤ i) (e : xs[(i + xs.length).toNat]? = some x) : atI xs i = some x := by
  unfold atI
  rw [ixN_neg h h2]
  exact e
@[simp] theorem atI_0 {α : Type} (x : α) (xs : List α) : atI (x :: xs) 0 = some x := atI_nat (k := 0) rfl
@[simp] theorem atI_1 {α : Type} (x y : α) (xs : List α) : atI (x :: y :: xs) 1 = some y := atI_nat (k := 1) rfl
@[simp] theorem atI_2 {α : Type} (x y z : α) (xs : List α) : atI (x :: y :: z :: xs) 2 = some z := atI_nat (k := 2) rfl
@[simp] theorem ixN_0 (n : Nat) : ixN (n + 1) 0 = some 0 := ixN_nat (k := 0) (by omega)
@[simp] theorem ixN_1 (n : Nat) : ixN (n + 1 + 1) 1 = some 1 := ixN_nat (k := 1) (by omega)
@[simp] theorem ixN_2 (n : Nat) : ixN (n + 1 + 1 + 1) 2 = some 2 := ixN_nat (k := 2) (by omega)
def ownK : D → Option D := fun d => gb (noOwn d) (some d)
@[simp] theorem ownK_e (d : D) : ownK d = gb (noOwn d) (some d) := nrfl rfl
theorem ownK_of : (fun d : D => if noOwn d = true then some d else none) = ownK := by
  funext d; exact (gb_ite (p := noOwn d = true) _).trans (by simp)
@[simp] theorem ixD_l (o : Bool) (xs : List D) (i : Int) : ixD [.lst o xs, .int i] = bd (atI xs i) ownK := by
  show (atI xs i).bind _ = _; rw [ownK_of]; rfl
@[simp] theorem ixD_t (xs : List D) (i : Int) : ixD [.tup xs, .int i] = bd (atI xs i) ownK := by
  show (atI xs i).bind _ = _; rw [ownK_of]; rfl
def intK : Int → Option D := fun d => some (.int d)
@[simp] theorem intK_e (d : Int) : intK d = some (.int d) := nrfl rfl
@[simp] theorem ixD_s (xs : List Int) (i : Int) : ixD [.scr xs, .int i] = bd (atI xs i) intK := nrfl rfl
/-! equality -/
@[simp] theorem eqOk_int (i : Int) : eqOk (.int i) = true := nrfl rfl
@[simp] theorem eqOk_bl (i : Bool) : eqOk (.bl i) = true := nrfl rfl
@[simp] theorem eqOk_non : eqOk .non = true := nrfl rfl
@[simp] theorem eqD_e (x y : D) : eqD [x, y] = gb (eqOk x && eqOk y) (some (.bl (deq x y))) := by
  show (if _ then _ else _) = _
  rw [gb_ite]; simp
@[simp] theorem neD_e (x y : D) : neD [x, y] = gb (eqOk x && eqOk y) (some (.bl (!deq x y))) := by
  show (if _ then _ else _) = _
  rw [gb_ite]; simp
@[simp] theorem deq_int (i j : Int) : deq (.int i) (.int j) = decide (i = j) := by
  unfold deq pyD PyData.eqv
  by_cases h : i = j <;> simp [h]
@[simp] theorem deq_bl (i j : Bool) : deq (.bl i) (.bl j) = (i == j) := by
  unfold deq pyD PyData.eqv; rfl
/-! the lists' methods -/
theorem appD_e {xs : List D} (d : D) (h : xs.length < 100000) : appD xs [d] = some (.non, xs ++ [d]) := if_pos h
theorem popD_e (xs : List D) (d : D) : popD (xs ++ [d]) [] = some (d, xs) := by
  unfold popD
  simp [List.eraseIdx_append_of_length_le]
theorem popAtD_e {xs : List D} {i : Int} {d : D} (h : 0 ≤ i) (h1 : i < 1000000000) (h2 : xs[i.toNat]? = some d) : popAtD xs [.int i] = some (d, xs.eraseIdx i.toNat) := by
  have hl := (List.getElem?_eq_some_iff.mp h2).1
  show (if _ then _ else _) = _
  rw [if_pos ⟨by omega, h1⟩, ixN_nn h (by omega)]
  simp [h2]
/-! ranges -/
theorem rng1D_e {j : Int} (h1 : -4611686018427387904 ≤ j) (h2 : j < 4611686018427387904) : rng1D [.int j] = some (intsTo 0 j.toNat) := if_pos ⟨h1, h2⟩
theorem rng2D_e {i j : Int} (h1 : -4611686018427387904 ≤ i) (h2 : i < 4611686018427387904) (h3 : -4611686018427387904 ≤ j) (h4 : j < 4611686018427387904) : rng2D [.int i, .int j] = some (intsTo i (j - i).toNat) := if_pos ⟨h1, h2, h3, h4⟩
theorem rng3D_e {i j : Int} (h1 : -4611686018427387904 ≤ i) (h2 : i < 4611686018427387904) (h3 : -4611686018427387904 ≤ j) (h4 : j < 4611686018427387904) : rng3D [.int i, .int j, .int (-1)] = some (intsBy i (-1) (i - j).toNat) := if_pos ⟨rfl, h1, h2, h3, h4⟩
def lrgK : List D → Option D := fun xs => gb (decide (xs.length ≤ smallL)) (some (.lst true xs))
theorem lrgK_e {xs : List D} (h : xs.length ≤ 100000) : lrgK xs = some (.lst true xs) := by
  unfold lrgK; rw [gb_of]; exact decide_eq_true h
@[simp] theorem lrgD_e (rd : List D → Option (List D)) (ds : List D) : lrgD rd ds = bd (rd ds) lrgK := by
  unfold lrgD bd lrgK; congr 1; funext xs; exact gb_ite _
theorem intsTo_map (n : Nat) : intsTo 0 n = (List.range n).map fun i => D.int (i : Nat) := by
  unfold intsTo; simp
theorem len_intsTo (i : Int) (n : Nat) : (intsTo i n).length = n := by unfold intsTo; simp
/-! what is gone through -/
@[simp] theorem seqD_l (o : Bool) (xs : List D) : seqD (.lst o xs) = some (freezes xs) := nrfl rfl
@[simp] theorem seqD_t (xs : List D) : seqD (.tup xs) = some (freezes xs) := nrfl rfl
def seqK : D × Env → Option (List D × Env) := fun p => bd (seqD p.1) fun xs => some (xs, p.2)
def withK (ρ : Env) : List D → Option (List D × Env) := fun xs => some (xs, ρ)
@[simp] theorem withK_e (ρ : Env) (xs : List D) : withK ρ xs = some (xs, ρ) := nrfl rfl
@[simp] theorem seqK_e (d : D) (ρ : Env) : seqK (d, ρ) = bd (seqD d) (withK ρ) := nrfl rfl
@[simp] theorem itSeq_e (f : FE) (ρ : Env) : itSeq f ρ = bd (f ρ) seqK := nrfl rfl
def enumL (xs : List D) : List D := ((intsTo 0 xs.length).zip xs).map fun q => .tup [q.1, q.2]
def enK2 (ρ : Env) : List D → Option (List D × Env) := fun xs => some (enumL xs, ρ)
@[simp] theorem enK2_e (ρ : Env) (xs : List D) : enK2 ρ xs = some (enumL xs, ρ) := nrfl rfl
def enK : D × Env → Option (List D × Env) := fun p => bd (seqD p.1) (enK2 p.2)
@[simp] theorem enK_e (d : D) (ρ : Env) : enK (d, ρ) = bd (seqD d) (enK2 ρ) := nrfl rfl
@[simp] theorem itEnum_e (f : FE) (ρ : Env) : itEnum f ρ = bd (f ρ) enK := nrfl rfl
def rgK2 (rd : List D → Option (List D)) (ρ : Env) : List D → Option (List D × Env) := fun ds => bd (rd ds) (withK ρ)
@[simp] theorem rgK2_e (rd : List D → Option (List D)) (ρ : Env) (ds : List D) : rgK2 rd ρ ds = bd (rd ds) (withK ρ) := nrfl rfl
def rgK (rd : List D → Option (List D)) (ops : List Op) : List (Option D) × Env → Option (List D × Env) := fun p => bd (fetch ops p.1 p.2) (rgK2 rd p.2)
@[simp] theorem rgK_e (rd : List D → Option (List D)) (ops : List Op) (ts : List (Option D)) (ρ : Env) : rgK rd ops (ts, ρ) = bd (fetch ops ts ρ) (rgK2 rd ρ) := nrfl rfl
@[simp] theorem itRg_e (rd : List D → Option (List D)) (ops : List Op) (ρ : Env) : itRg rd ops ρ = bd (evOps ops ρ) (rgK rd ops) := nrfl rfl
def zipL (xs ys : List D) : List D := (xs.zip ys).map fun u => .tup [u.1, u.2]
def ziK3 (ρ : Env) : List D × List D → Option (List D × Env) := fun r => some (zipL r.1 r.2, ρ)
@[simp] theorem ziK3_e (ρ : Env) (xs ys : List D) : ziK3 ρ (xs, ys) = some (zipL xs ys, ρ) := nrfl rfl
def ziK2 (d : D) : D × Env → Option (List D × Env) := fun q => bd (pairD d q.1) (ziK3 q.2)
@[simp] theorem ziK2_e (d e : D) (ρ : Env) : ziK2 d (e, ρ) = bd (pairD d e) (ziK3 ρ) := nrfl rfl
def ziK (g : FE) : D × Env → Option (List D × Env) := fun p => bd (g p.2) (ziK2 p.1)
@[simp] theorem ziK_e (g : FE) (d : D) (ρ : Env) : ziK g (d, ρ) = bd (g ρ) (ziK2 d) := nrfl rfl
@[simp] theorem itZip_e (f g : FE) (ρ : Env) : itZip f g ρ = bd (f ρ) (ziK g) := nrfl rfl
@[simp] theorem pairD_l (o o' : Bool) (xs ys : List D) : pairD (.lst o xs) (.lst o' ys) = some (freezes xs, freezes ys) := nrfl rfl
@[simp] theorem pairD_t (xs ys : List D) : pairD (.tup xs) (.tup ys) = some (freezes xs, freezes ys) := nrfl rfl
/-! loops -/
def goForK (tg : D → Env → Option Env) (body : FS) : List D × Env → Option Out := fun p => goFor tg body p.1 p.2
@[simp] theorem goForK_e (tg : D → Env → Option Env) (body : FS) (ds : List D) (ρ : Env) : goForK tg body (ds, ρ) = goFor tg body ds ρ := nrfl rfl
@[simp] theorem forF_e (it : FI) (tg : D → Env → Option Env) (body : FS) (ρ : Env) : forF it tg body ρ = bd (it ρ) (goForK tg body) := nrfl rfl
@[simp] theorem whF_e (n : Nat) (c : FB) (body : FS) (ρ : Env) : whF n c body ρ = goWhile c body n ρ := nrfl rfl
@[simp] theorem goFor_nil (tg : D → Env → Option Env) (body : FS) (ρ : Env) : goFor tg body [] ρ = some (.nx ρ) := nrfl rfl
def loopK (k : Env → Option Out) : Out → Option Out
  | .nx ρ2 => k ρ2
  | .ct ρ2 => k ρ2
  | .bk ρ2 => some (.nx ρ2)
  | .rt d ρ2 => some (.rt d ρ2)
  | .rz n d ρ2 => some (.rz n d ρ2)
@[simp] theorem loopK_rz (k : Env → Option Out) (n : Str) (d : D) (ρ : Env) : loopK k (.rz n d ρ) = some (.rz n d ρ) := nrfl rfl
@[simp] theorem loopK_nx (k : Env → Option Out) (ρ : Env) : loopK k (.nx ρ) = k ρ := nrfl rfl
@[simp] theorem loopK_ct (k : Env → Option Out) (ρ : Env) : loopK k (.ct ρ) = k ρ := nrfl rfl
@[simp] theorem loopK_bk (k : Env → Option Out) (ρ : Env) : loopK k (.bk ρ) = some (.nx ρ) := nrfl rfl
@[simp] theorem loopK_rt (k : Env → Option Out) (d : D) (ρ : Env) : loopK k (.rt d ρ) = some (.rt d ρ) := nrfl rfl
/-- one turn: the target stored, the body -/
def turn (tg : D → Env → Option Env) (body : FS) (d : D) (ρ : Env) : Option Out := bd (tg d ρ) body
theorem turn_e (tg : D → Env → Option Env) (body : FS) (d : D) (ρ : Env) : turn tg body d ρ = bd (tg d ρ) body := rfl
theorem goFor_cons (tg : D → Env → Option Env) (body : FS) (d : D) (ds : List D) (ρ : Env) : goFor tg body (d :: ds) ρ = bd (turn tg body d ρ) (loopK (goFor tg body ds)) := by
  unfold turn bd
  show (tg d ρ).bind _ = _
  cases tg d ρ with
  | none => rfl
  | some ρ1 =>
    show (body ρ1).bind _ = (body ρ1).bind _
    rfl
/-- a loop that goes through all: what holds in front of each turn -/
theorem for_inv {tg : D → Env → Option Env} {body : FS} (I : Nat → Env → Prop) {ds : List D} {ρ : Env} (h0 : I 0 ρ)
    (hs : ∀ i d ρ, ds[i]? = some d → I i ρ → ∃ ρ2, (turn tg body d ρ = some (.nx ρ2) ∨ turn tg body d ρ = some (.ct ρ2)) ∧ I (i + 1) ρ2) : ∃ ρ', goFor tg body ds ρ = some (.nx ρ') ∧ I ds.length ρ' := by
  induction ds generalizing ρ I with
  | nil => exact ⟨ρ, rfl, h0⟩
  | cons d ds ih =>
    obtain ⟨ρ2, h, i2⟩ := hs 0 d ρ rfl h0
    obtain ⟨ρ', h', i'⟩ := ih (fun i => I (i + 1)) i2 fun i d ρ e j => hs (i + 1) d ρ e j
    refine ⟨ρ', ?_, i'⟩
    rw [goFor_cons]
    rcases h with h | h <;> rw [h] <;> exact h'
/-- a comprehension: each turn gives one thing -/
def lcK2 : List D × Env → Option (D × Env) := fun q => gb (decide (q.1.length ≤ smallL)) (some (.lst true q.1, q.2))
@[simp] theorem lcK2_e (xs : List D) (ρ : Env) : lcK2 (xs, ρ) = gb (decide (xs.length ≤ smallL)) (some (.lst true xs, ρ)) := nrfl rfl
def lcK (vs : List Nat) (fg : D → Env → Option Env) (ft : FB) (fe : FE) : List D × Env → Option (D × Env) := fun p => bd (goLc vs fg ft fe p.1 (wipeD p.2 vs)) lcK2
@[simp] theorem lcK_e (vs : List Nat) (fg : D → Env → Option Env) (ft : FB) (fe : FE) (ds : List D) (ρ : Env) : lcK vs fg ft fe (ds, ρ) = bd (goLc vs fg ft fe ds (wipeD ρ vs)) lcK2 := nrfl rfl
@[simp] theorem lcF_e (vs : List Nat) (fi : FI) (fg : D → Env → Option Env) (ft : FB) (fe : FE) (ρ : Env) : lcF vs fi fg ft fe ρ = bd (fi ρ) (lcK vs fg ft fe) := by
  unfold lcF lcK lcK2 bd; congr 1; funext p; congr 1; funext q; exact gb_ite _
@[simp] theorem wipeD_n (ρ : Env) : wipeD ρ [] = ρ := nrfl rfl
@[simp] theorem wipeD_c (ρ : Env) (v : Nat) (vs : List Nat) : wipeD ρ (v :: vs) = (wipeD ρ vs).set v none := nrfl rfl
/-- one turn of a comprehension without if -/
def lcTurn (vs : List Nat) (fg : D → Env → Option Env) (fe : FE) (d : D) (ρ : Env) : Option (D × Env) := bd (bd (fg d ρ) fe) fun q => some (q.1, wipeD q.2 vs)
def wipeK (vs : List Nat) : D × Env → Option (D × Env) := fun q => some (q.1, wipeD q.2 vs)
@[simp] theorem wipeK_e (vs : List Nat) (d : D) (ρ : Env) : wipeK vs (d, ρ) = some (d, wipeD ρ vs) := nrfl rfl
theorem lcTurn_e (vs : List Nat) (fg : D → Env → Option Env) (fe : FE) (d : D) (ρ : Env) : lcTurn vs fg fe d ρ = bd (bd (fg d ρ) fe) (wipeK vs) := rfl
end VS
set_option Elab.async false
set_option linter.all false
set_option maxRecDepth 100000
namespace VS
open PySem PySem.Spec PyProof.Rows L2 RZ
@[simp] theorem isL_e (o : Bool) (xs : List D) : isL (some (.lst o xs)) = true := nrfl rfl
@[simp] theorem methF_e (i : Nat) (g : List D → Option D) (ops : List Op) (ρ : Env) : methF i g ops ρ = gb (isL (getS ρ i)) (bd (evOps (.b i :: ops) ρ) (opK g (.b i :: ops))) := by
  unfold methF gb
  rw [opF_e]
def chK5 (p' : Int → Int → Bool) (j : Int) (ρ : Env) : Int → Option (D × Env) := fun m => some (.bl (p' j m), ρ)
@[simp] theorem chK5_e (p' : Int → Int → Bool) (j : Int) (ρ : Env) (m : Int) : chK5 p' j ρ m = some (.bl (p' j m), ρ) := nrfl rfl
def chK4 (p' : Int → Int → Bool) (j : Int) (ρ : Env) : List D → Option (D × Env) := fun es => bd (int1 es) (chK5 p' j ρ)
@[simp] theorem chK4_e (p' : Int → Int → Bool) (j : Int) (ρ : Env) (m : Int) : chK4 p' j ρ [.int m] = some (.bl (p' j m), ρ) := nrfl rfl
def chK3 (p' : Int → Int → Bool) (o3 : Op) (j : Int) : List (Option D) × Env → Option (D × Env) := fun P => bd (fetch [o3] P.1 P.2) (chK4 p' j P.2)
@[simp] theorem chK3_e (p' : Int → Int → Bool) (o3 : Op) (j : Int) (ts : List (Option D)) (ρ : Env) : chK3 p' o3 j (ts, ρ) = bd (fetch [o3] ts ρ) (chK4 p' j ρ) := nrfl rfl
def chT (p' : Int → Int → Bool) (o3 : Op) (j : Int) : Env → Option (D × Env) := fun ρ => bd (evOps [o3] ρ) (chK3 p' o3 j)
@[simp] theorem chT_e (p' : Int → Int → Bool) (o3 : Op) (j : Int) (ρ : Env) : chT p' o3 j ρ = bd (evOps [o3] ρ) (chK3 p' o3 j) := nrfl rfl
def chK2 (p p' : Int → Int → Bool) (o3 : Op) (ρ : Env) : List D → Option (D × Env) := fun ds => bd (int2 ds) fun ij => ift (p ij.1 ij.2) (chT p' o3 ij.2) (bvK false) ρ
@[simp] theorem chK2_e (p p' : Int → Int → Bool) (o3 : Op) (ρ : Env) (i j : Int) : chK2 p p' o3 ρ [.int i, .int j] = ift (p i j) (chT p' o3 j) (bvK false) ρ := nrfl rfl
def chK1 (p p' : Int → Int → Bool) (o1 o2 o3 : Op) : List (Option D) × Env → Option (D × Env) := fun P => bd (fetch [o1, o2] P.1 P.2) (chK2 p p' o3 P.2)
@[simp] theorem chK1_e (p p' : Int → Int → Bool) (o1 o2 o3 : Op) (ts : List (Option D)) (ρ : Env) : chK1 p p' o1 o2 o3 (ts, ρ) = bd (fetch [o1, o2] ts ρ) (chK2 p p' o3 ρ) := nrfl rfl
@[simp] theorem chainF_e (p p' : Int → Int → Bool) (o1 o2 o3 : Op) (ρ : Env) : chainF p p' o1 o2 o3 ρ = bd (evOps [o1, o2] ρ) (chK1 p p' o1 o2 o3) := nrfl rfl
theorem allD_e (o : Bool) (ns : List Bool) : allD [.lst o (ns.map .bl)] = some (.bl (ns.all id)) := by
  show (blsOf _).bind _ = _; rw [blsOf_map]; rfl
@[simp] theorem isBlD_e (a b : Bool) : isBlD [.bl a, .bl b] = some (.bl (decide (a = b))) := nrfl rfl
@[simp] theorem notBlD_e (a b : Bool) : notBlD [.bl a, .bl b] = some (.bl (!decide (a = b))) := nrfl rfl
end VS
set_option Elab.async false
set_option linter.all false
set_option maxRecDepth 100000
namespace VS
open PySem PySem.Spec PyProof.Rows L2 RZ
def neElK2 (ρ : Env) : Option D → Option (D × Env)
  | some (.lst true ys) => gb (eqOk (.lst true ys)) (some (.bl (!deq (.lst true ys) (.lst true [])), ρ))
  | _ => none
@[simp] theorem neElK2_e (ρ : Env) (ys : List D) : neElK2 ρ (some (.lst true ys)) = gb (eqOk (.lst true ys)) (some (.bl (!deq (.lst true ys) (.lst true [])), ρ)) := nrfl rfl
def neElK (j : Nat) (ρ : Env) : Option D → Option (D × Env)
  | some (.lst true xs) => neElK2 ρ (xs[j]?)
  | _ => none
@[simp] theorem neElK_e (j : Nat) (ρ : Env) (xs : List D) : neElK j ρ (some (.lst true xs)) = neElK2 ρ (xs[j]?) := nrfl rfl
@[simp] theorem neElF_e (i j : Nat) (ρ : Env) : neElF i j ρ = neElK j ρ (getS ρ i) := by
  unfold neElF
  cases getS ρ i with
  | none => rfl
  | some d =>
    cases d with
    | lst o xs =>
      cases o with
      | false => rfl
      | true =>
        rw [neElK_e]
        show (match xs[j]? with
          | some (.lst true ys) => if eqOk (.lst true ys) = true then some (D.bl (!deq (.lst true ys) (.lst true [])), ρ) else none
          | _ => none) = _
        cases xs[j]? with
        | none => rfl
        | some d =>
          cases d with
          | lst o ys =>
            cases o with
            | false => rfl
            | true => exact (gb_ite (p := eqOk (.lst true ys) = true) _).trans (by simp)
          | _ => rfl
    | _ => rfl
def popElK3 (i j : Nat) (xs : List D) (ρ : Env) : D × List D → Option (D × Env) := fun q => some (q.1, ρ.set i (some (.lst true (xs.set j (.lst true q.2)))))
@[simp] theorem popElK3_e (i j : Nat) (xs : List D) (ρ : Env) (d : D) (ys : List D) : popElK3 i j xs ρ (d, ys) = some (d, ρ.set i (some (.lst true (xs.set j (.lst true ys))))) := nrfl rfl
def popElK2 (i j : Nat) (xs : List D) (ρ : Env) : Option D → Option (D × Env)
  | some (.lst true ys) => gb (noOwns ys) (bd (popD ys []) (popElK3 i j xs ρ))
  | _ => none
@[simp] theorem popElK2_e (i j : Nat) (xs : List D) (ρ : Env) (ys : List D) : popElK2 i j xs ρ (some (.lst true ys)) = gb (noOwns ys) (bd (popD ys []) (popElK3 i j xs ρ)) := nrfl rfl
def popElK (i j : Nat) (ρ : Env) : Option D → Option (D × Env)
  | some (.lst true xs) => popElK2 i j xs ρ (xs[j]?)
  | _ => none
@[simp] theorem popElK_e (i j : Nat) (ρ : Env) (xs : List D) : popElK i j ρ (some (.lst true xs)) = popElK2 i j xs ρ (xs[j]?) := nrfl rfl
@[simp] theorem popElF_e (i j : Nat) (ρ : Env) : popElF i j ρ = popElK i j ρ (getS ρ i) := by
  unfold popElF
  cases getS ρ i with
  | none => rfl
  | some d =>
    cases d with
    | lst o xs =>
      cases o with
      | false => rfl
      | true =>
        rw [popElK_e]
        show (match xs[j]? with
          | some (.lst true ys) => if noOwns ys = true then (popD ys []).bind fun q => some (q.1, ρ.set i (some (.lst true (xs.set j (.lst true q.2))))) else none
          | _ => none) = _
        cases xs[j]? with
        | none => rfl
        | some d =>
          cases d with
          | lst o ys =>
            cases o with
            | false => rfl
            | true => exact (gb_ite (p := noOwns ys = true) _).trans (by simp; rfl)
          | _ => rfl
    | _ => rfl
@[simp] theorem isBvD_b (a b : Bool) : isBvD [.bl a, .bl b] = some (.bl (decide (a = b))) := nrfl rfl
@[simp] theorem isBvD_i (a : Int) (b : Bool) : isBvD [.int a, .bl b] = some (.bl false) := nrfl rfl
@[simp] theorem isBvD_n (b : Bool) : isBvD [.non, .bl b] = some (.bl false) := nrfl rfl
@[simp] theorem notBvD_b (a b : Bool) : notBvD [.bl a, .bl b] = some (.bl (!decide (a = b))) := nrfl rfl
@[simp] theorem notBvD_i (a : Int) (b : Bool) : notBvD [.int a, .bl b] = some (.bl true) := nrfl rfl
@[simp] theorem notBvD_n (b : Bool) : notBvD [.non, .bl b] = some (.bl true) := nrfl rfl
end VS
set_option Elab.async false
set_option linter.all false
set_option maxRecDepth 100000
namespace VS
open PySem PySem.Spec PyProof.Rows L2 RZ
@[simp] theorem flat1_bl (b : Bool) : flat1 (.bl b) = true := nrfl rfl
@[simp] theorem flat1_int (i : Int) : flat1 (.int i) = true := nrfl rfl
@[simp] theorem flat1_non : flat1 .non = true := nrfl rfl
def rdK3 (ρ : Env) : D × List (Option D) → Option (D × Env) := fun q => gb (flat1 q.1) (some (q.1, ρ))
@[simp] theorem rdK3_e (ρ : Env) (d : D) (os : List (Option D)) : rdK3 ρ (d, os) = gb (flat1 d) (some (d, ρ)) := nrfl rfl
def rdK2 (fn : Fn) (ρ : Env) : List D → Option (D × Env) := fun ds => bd (fn.sem (freezes ds)) (rdK3 ρ)
@[simp] theorem rdK2_e (fn : Fn) (ρ : Env) (ds : List D) : rdK2 fn ρ ds = bd (fn.sem (freezes ds)) (rdK3 ρ) := nrfl rfl
def rdK1 (fn : Fn) (ops : List Op) : List (Option D) × Env → Option (D × Env) := fun p => bd (fetch ops p.1 p.2) (rdK2 fn p.2)
@[simp] theorem rdK1_e (fn : Fn) (ops : List Op) (ts : List (Option D)) (ρ : Env) : rdK1 fn ops (ts, ρ) = bd (fetch ops ts ρ) (rdK2 fn ρ) := nrfl rfl
@[simp] theorem callRdF_e (fn : Fn) (ops : List Op) (ρ : Env) : callRdF fn ops ρ = bd (evOps ops ρ) (rdK1 fn ops) := by
  unfold callRdF bd
  congr 1
def cntK2 (k : Int) (ρ : Env) : List Int → Option (D × Env) := fun ns => some (.int (ns.count k : Nat), ρ)
@[simp] theorem cntK2_e (k : Int) (ρ : Env) (ns : List Int) : cntK2 k ρ ns = some (.int (ns.count k : Nat), ρ) := nrfl rfl
def cntK (k : Int) : D × Env → Option (D × Env) := fun p => match p.1 with
  | .lst _ xs => bd (intsOf xs) (cntK2 k p.2)
  | _ => none
@[simp] theorem cntK_e (k : Int) (o : Bool) (xs : List D) (ρ : Env) : cntK k (.lst o xs, ρ) = bd (intsOf xs) (cntK2 k ρ) := nrfl rfl
@[simp] theorem countF_e (k : Int) (f : FE) (ρ : Env) : countF k f ρ = bd (f ρ) (cntK k) := nrfl rfl
def elK2 (i j k : Nat) (xs : List D) (d : D) (ρ : Env) : Option D → Option Env
  | some (.lst true ys) => gb (noOwns ys && (noOwn d && decide (k < ys.length))) (some (ρ.set i (some (.lst true (xs.set j (.lst true (ys.set k d)))))))
  | _ => none
@[simp] theorem elK2_e (i j k : Nat) (xs : List D) (d : D) (ρ : Env) (ys : List D) : elK2 i j k xs d ρ (some (.lst true ys)) = gb (noOwns ys && (noOwn d && decide (k < ys.length))) (some (ρ.set i (some (.lst true (xs.set j (.lst true (ys.set k d))))))) := nrfl rfl
def elK (i j k : Nat) (d : D) (ρ : Env) : Option D → Option Env
  | some (.lst true xs) => elK2 i j k xs d ρ (xs[j]?)
  | _ => none
@[simp] theorem elK_e (i j k : Nat) (d : D) (ρ : Env) (xs : List D) : elK i j k d ρ (some (.lst true xs)) = elK2 i j k xs d ρ (xs[j]?) := nrfl rfl
@[simp] theorem tgElF_e (i j k : Nat) (d : D) (ρ : Env) : tgElF i j k d ρ = elK i j k d ρ (getS ρ i) := by
  unfold tgElF
  cases getS ρ i with
  | none => rfl
  | some d0 =>
    cases d0 with
    | lst o xs =>
      cases o with
      | false => rfl
      | true =>
        rw [elK_e]
        show (match xs[j]? with
          | some (.lst true ys) => if noOwns ys = true ∧ noOwn d = true ∧ k < ys.length then some (ρ.set i (some (.lst true (xs.set j (.lst true (ys.set k d)))))) else none
          | _ => none) = _
        cases xs[j]? with
        | none => rfl
        | some d1 =>
          cases d1 with
          | lst o ys =>
            cases o with
            | false => rfl
            | true => exact (gb_ite _).trans (by simp [Bool.decide_and])
          | _ => rfl
    | _ => rfl
end VS
set_option Elab.async false
set_option linter.all false
set_option maxRecDepth 100000
namespace VS
open PySem PySem.Spec PyProof.Rows L2 RZ
theorem mulTD_e {xs : List D} {k : Nat} (h : noOwns xs = true) (h1 : xs ≠ []) (h2 : k ≤ 1000) (h3 : xs.length ≤ 1000) : mulTD [.tup xs, .int (k : Nat)] = some (.tup (List.replicate k xs).flatten) := by
  show (if _ then some (D.tup (List.replicate ((k : Nat) : Int).toNat xs).flatten) else none) = _
  rw [if_pos ⟨h, h1, by omega, by omega, h3⟩, Int.toNat_natCast]
end VS
set_option Elab.async false
set_option linter.all false
set_option maxRecDepth 100000
namespace VS
open PySem PySem.Spec PyProof.Rows L2 RZ
end VS
set_option Elab.async false
set_option linter.all false
set_option maxRecDepth 100000
namespace VS
open PySem PySem.Spec PyProof.Rows L2 RZ
def asg2K3 : Env → Option Out := fun ρ => some (.nx ρ)
@[simp] theorem asg2K3_e (ρ : Env) : asg2K3 ρ = some (.nx ρ) := nrfl rfl
def asg2K2 (g2 : D → Env → Option Env) (d : D) : Env → Option Out := fun ρ => bd (g2 d ρ) asg2K3
@[simp] theorem asg2K2_e (g2 : D → Env → Option Env) (d : D) (ρ : Env) : asg2K2 g2 d ρ = bd (g2 d ρ) asg2K3 := nrfl rfl
def asg2K (g1 g2 : D → Env → Option Env) : D × Env → Option Out := fun p => gb (noOwn p.1) (bd (g1 p.1 p.2) (asg2K2 g2 p.1))
@[simp] theorem asg2K_e (g1 g2 : D → Env → Option Env) (d : D) (ρ : Env) : asg2K g1 g2 (d, ρ) = gb (noOwn d) (bd (g1 d ρ) (asg2K2 g2 d)) := nrfl rfl
@[simp] theorem asg2F_e (f : FE) (g1 g2 : D → Env → Option Env) (ρ : Env) : asg2F f g1 g2 ρ = bd (f ρ) (asg2K g1 g2) := by
  unfold asg2F bd
  congr 1
end VS
set_option Elab.async false
set_option linter.all false
set_option maxRecDepth 100000
namespace VS
open PySem PySem.Spec PyProof.Rows L2 RZ
def revK2 (ρ : Env) : List D → Option (List D × Env) := fun xs => some (xs.reverse, ρ)
@[simp] theorem revK2_e (ρ : Env) (xs : List D) : revK2 ρ xs = some (xs.reverse, ρ) := nrfl rfl
def revK : D × Env → Option (List D × Env) := fun p => bd (seqD p.1) (revK2 p.2)
@[simp] theorem revK_e (d : D) (ρ : Env) : revK (d, ρ) = bd (seqD d) (revK2 ρ) := nrfl rfl
@[simp] theorem itRev_e (f : FE) (ρ : Env) : itRev f ρ = bd (f ρ) revK := nrfl rfl
def elKi (i : Int) : D → Option (Int × Int)
  | .int a => some (i, a)
  | _ => none
@[simp] theorem elKi_e (i a : Int) : elKi i (.int a) = some (i, a) := nrfl rfl
@[simp] theorem elemI_e (i : Int) (xs : List D) : elemI [.int i] (some (.lst true xs)) = bd (atI xs i) (elKi i) := by
  unfold elemI bd
  dsimp only
  cases atI xs i with
  | none => rfl
  | some d => cases d <;> rfl
@[simp] theorem intA1_e (b : Int) : intA1 [.int b] = some b := nrfl rfl
def nxKe : Env → Option Out := fun ρ' => some (.nx ρ')
@[simp] theorem nxKe_e (ρ : Env) : nxKe ρ = some (.nx ρ) := nrfl rfl
def auS7 (k : Nat) (f : Int → Int → Int) (i a : Int) (ρ : Env) : Int → Option Out := fun b => bd (tgSub k (.t (litF (.int i))) (.int (f a b)) ρ) nxKe
@[simp] theorem auS7_e (k : Nat) (f : Int → Int → Int) (i a : Int) (ρ : Env) (b : Int) : auS7 k f i a ρ b = bd (tgSub k (.t (litF (.int i))) (.int (f a b)) ρ) nxKe := nrfl rfl
def auS6 (k : Nat) (f : Int → Int → Int) (i a : Int) (ρ : Env) : List D → Option Out := fun ds => bd (intA1 ds) (auS7 k f i a ρ)
@[simp] theorem auS6_e (k : Nat) (f : Int → Int → Int) (i a : Int) (ρ : Env) (ds : List D) : auS6 k f i a ρ ds = bd (intA1 ds) (auS7 k f i a ρ) := nrfl rfl
def auS5 (k : Nat) (f : Int → Int → Int) (o : Op) (i a : Int) : List (Option D) × Env → Option Out := fun p => bd (fetch [o] p.1 p.2) (auS6 k f i a p.2)
@[simp] theorem auS5_e (k : Nat) (f : Int → Int → Int) (o : Op) (i a : Int) (ts : List (Option D)) (ρ : Env) : auS5 k f o i a (ts, ρ) = bd (fetch [o] ts ρ) (auS6 k f i a ρ) := nrfl rfl
def auS4 (k : Nat) (f : Int → Int → Int) (o : Op) (ρ : Env) : Int × Int → Option Out := fun p => bd (evOps [o] ρ) (auS5 k f o p.1 p.2)
@[simp] theorem auS4_e (k : Nat) (f : Int → Int → Int) (o : Op) (ρ : Env) (i a : Int) : auS4 k f o ρ (i, a) = bd (evOps [o] ρ) (auS5 k f o i a) := nrfl rfl
def auS3 (k : Nat) (f : Int → Int → Int) (o : Op) (ρ : Env) : List D → Option Out := fun is => bd (elemI is (getS ρ k)) (auS4 k f o ρ)
@[simp] theorem auS3_e (k : Nat) (f : Int → Int → Int) (o : Op) (ρ : Env) (is : List D) : auS3 k f o ρ is = bd (elemI is (getS ρ k)) (auS4 k f o ρ) := nrfl rfl
def auS2 (k : Nat) (oi : Op) (f : Int → Int → Int) (o : Op) : List (Option D) × Env → Option Out := fun p => bd (fetch [oi] p.1 p.2) (auS3 k f o p.2)
@[simp] theorem auS2_e (k : Nat) (oi : Op) (f : Int → Int → Int) (o : Op) (ts : List (Option D)) (ρ : Env) : auS2 k oi f o (ts, ρ) = bd (fetch [oi] ts ρ) (auS3 k f o ρ) := nrfl rfl
def auS1 (k : Nat) (oi : Op) (f : Int → Int → Int) (o : Op) (ρ : Env) : D → Option Out := fun _ => bd (evOps [oi] ρ) (auS2 k oi f o)
@[simp] theorem auS1_e (k : Nat) (oi : Op) (f : Int → Int → Int) (o : Op) (ρ : Env) (d : D) : auS1 k oi f o ρ d = bd (evOps [oi] ρ) (auS2 k oi f o) := nrfl rfl
@[simp] theorem augSF_e (k : Nat) (oi : Op) (f : Int → Int → Int) (o : Op) (ρ : Env) : augSF k oi f o ρ = bd (getS ρ k) (auS1 k oi f o ρ) := nrfl rfl
end VS
set_option Elab.async false
set_option linter.all false
set_option maxRecDepth 100000
namespace VS
open PySem PySem.Spec PyProof.Rows L2 RZ
@[simp] theorem dvmD_i (a b : Int) : dvmD [.int a, .int b] = gb (dvmOk b) (some (.tup [.int (a.fdiv b), .int (a.fmod b)])) := gb_ite (p := dvmOk b = true) _ |>.trans (by simp)
end VS
set_option Elab.async false
set_option linter.all false
set_option maxRecDepth 100000
namespace VS
open PySem PySem.Spec PyProof.Rows L2 RZ
def frzK2 : D × Env → Option (D × Env) := fun p => some (freeze p.1, p.2)
@[simp] theorem frzK2_e (d : D) (ρ : Env) : frzK2 (d, ρ) = some (freeze d, ρ) := nrfl rfl
@[simp] theorem frzF_e (f : FE) (ρ : Env) : frzF f ρ = bd (f ρ) frzK2 := nrfl rfl
end VS
set_option Elab.async false
set_option linter.all false
set_option maxRecDepth 100000
namespace VS
open PySem PySem.Spec PyProof.Rows L2 RZ
def rdkK2 (fn : Fn) (is : List Nat) (ρ : Env) : List D → Option (D × Env) := fun ds => bd (fn.sem (permL is (freezes ds))) (rdK3 ρ)
@[simp] theorem rdkK2_e (fn : Fn) (is : List Nat) (ρ : Env) (ds : List D) : rdkK2 fn is ρ ds = bd (fn.sem (permL is (freezes ds))) (rdK3 ρ) := nrfl rfl
def rdkK1 (fn : Fn) (is : List Nat) (ops : List Op) : List (Option D) × Env → Option (D × Env) := fun p => bd (fetch ops p.1 p.2) (rdkK2 fn is p.2)
@[simp] theorem rdkK1_e (fn : Fn) (is : List Nat) (ops : List Op) (ts : List (Option D)) (ρ : Env) : rdkK1 fn is ops (ts, ρ) = bd (fetch ops ts ρ) (rdkK2 fn is ρ) := nrfl rfl
@[simp] theorem callRdKF_e (fn : Fn) (is : List Nat) (ops : List Op) (ρ : Env) : callRdKF fn is ops ρ = bd (evOps ops ρ) (rdkK1 fn is ops) := by
  unfold callRdKF bd
  congr 1
end VS
set_option Elab.async false
set_option linter.all false
set_option maxRecDepth 100000
namespace VS
open PySem PySem.Spec PyProof.Rows L2 RZ
@[simp] theorem outK_rz (g : FS) (n : Str) (d : D) (ρ : Env) : outK g (.rz n d ρ) = some (.rz n d ρ) := nrfl rfl
@[simp] theorem noOwn_exc (n : Str) (d : D) : noOwn (.exc n d) = true := nrfl rfl
@[simp] theorem freeze_exc (n : Str) (d : D) : freeze (.exc n d) = .exc n d := nrfl rfl
def rzK : Str × D × Env → Option Out := fun q => some (.rz q.1 q.2.1 q.2.2)
@[simp] theorem rzK_e (n : Str) (d : D) (ρ : Env) : rzK (n, d, ρ) = some (.rz n d ρ) := nrfl rfl
def orXK (g : RX) (ρ : Env) : Option Out → Option Out
  | some o => some o
  | none => bd (g ρ) rzK
@[simp] theorem orXK_s (g : RX) (ρ : Env) (o : Out) : orXK g ρ (some o) = some o := nrfl rfl
@[simp] theorem orXK_n (g : RX) (ρ : Env) : orXK g ρ none = bd (g ρ) rzK := nrfl rfl
@[simp] theorem orX_e (f : FS) (g : RX) (ρ : Env) : orX f g ρ = orXK g ρ (f ρ) := by
  unfold orX orXK bd rzK
  cases f ρ <;> rfl
def orRK (h : RX) (ρ : Env) : Option (Str × D × Env) → Option (Str × D × Env)
  | some o => some o
  | none => h ρ
@[simp] theorem orRK_s (g : RX) (ρ : Env) (o : Str × D × Env) : orRK g ρ (some o) = some o := nrfl rfl
@[simp] theorem orRK_n (g : RX) (ρ : Env) : orRK g ρ none = g ρ := nrfl rfl
@[simp] theorem orR_e (g h : RX) (ρ : Env) : orR g h ρ = orRK h ρ (g ρ) := by
  unfold orR orRK
  cases g ρ <;> rfl
@[simp] theorem noR_e (ρ : Env) : noR ρ = none := nrfl rfl
def thK (g : RX) : List (Option D) × Env → Option (Str × D × Env) := fun p => g p.2
@[simp] theorem thK_e (g : RX) (ts : List (Option D)) (ρ : Env) : thK g (ts, ρ) = g ρ := nrfl rfl
@[simp] theorem thenR_e (o : Op) (g : RX) (ρ : Env) : thenR o g ρ = bd (evOps [o] ρ) (thK g) := nrfl rfl
def thTK (g h : RX) : Bool × Env → Option (Str × D × Env) := fun p => ift p.1 g h p.2
@[simp] theorem thTK_e (g h : RX) (b : Bool) (ρ : Env) : thTK g h (b, ρ) = ift b g h ρ := nrfl rfl
@[simp] theorem thenT_e (c : FB) (g h : RX) (ρ : Env) : thenT c g h ρ = bd (c ρ) (thTK g h) := nrfl rfl
def rzK3 (ops : List Op) (ds : List D) (ρ : Env) : Str × D × List (Option D) → Option (Str × D × Env) := fun q => some (q.1, q.2.1, putB ops ds q.2.2 ρ)
@[simp] theorem rzK3_e (ops : List Op) (ds : List D) (ρ : Env) (n : Str) (d : D) (os : List (Option D)) : rzK3 ops ds ρ (n, d, os) = some (n, d, putB ops ds os ρ) := nrfl rfl
def rzK2 (rz : Rz) (ops : List Op) : List D × Env → Option (Str × D × Env) := fun c => bd (rz c.1) (rzK3 ops c.1 c.2)
@[simp] theorem rzK2_e (rz : Rz) (ops : List Op) (ds : List D) (ρ : Env) : rzK2 rz ops (ds, ρ) = bd (rz ds) (rzK3 ops ds ρ) := nrfl rfl
def rzK1 (pins : List Bool) (rz : Rz) (ops : List Op) : List (Option D) × Env → Option (Str × D × Env) := fun p => bd (fetchC pins ops p.1 p.2) (rzK2 rz ops)
@[simp] theorem rzK1_e (pins : List Bool) (rz : Rz) (ops : List Op) (ts : List (Option D)) (ρ : Env) : rzK1 pins rz ops (ts, ρ) = bd (fetchC pins ops ts ρ) (rzK2 rz ops) := nrfl rfl
@[simp] theorem rzF_e (pins : List Bool) (rz : Rz) (ops : List Op) (ρ : Env) : rzF pins rz ops ρ = bd (evOps ops ρ) (rzK1 pins rz ops) := nrfl rfl
def rzkK1 (pins : List Bool) (rz : Rz) (is : List Nat) (ops : List Op) : List (Option D) × Env → Option (Str × D × Env) := fun p => bd (fetchC pins (permL is ops) (permL is p.1) p.2) (rzK2 rz (permL is ops))
@[simp] theorem rzkK1_e (pins : List Bool) (rz : Rz) (is : List Nat) (ops : List Op) (ts : List (Option D)) (ρ : Env) : rzkK1 pins rz is ops (ts, ρ) = bd (fetchC pins (permL is ops) (permL is ts) ρ) (rzK2 rz (permL is ops)) := nrfl rfl
@[simp] theorem rzKF_e (pins : List Bool) (rz : Rz) (is : List Nat) (ops : List Op) (ρ : Env) : rzKF pins rz is ops ρ = bd (evOps ops ρ) (rzkK1 pins rz is ops) := nrfl rfl
def raK (n : Str) : D × Env → Option Out := fun p => gb (noOwn p.1) (some (.rz n p.1 p.2))
@[simp] theorem raK_e (n : Str) (d : D) (ρ : Env) : raK n (d, ρ) = gb (noOwn d) (some (.rz n d ρ)) := nrfl rfl
@[simp] theorem raiseF_e (n : Str) (f : FE) (ρ : Env) : raiseF n f ρ = bd (f ρ) (raK n) := nrfl rfl
def clK (i : Option Nat) : Out → Option Out := clrO i
@[simp] theorem clK_nx0 (ρ : Env) : clK none (.nx ρ) = some (.nx ρ) := nrfl rfl
@[simp] theorem clK_bk0 (ρ : Env) : clK none (.bk ρ) = some (.bk ρ) := nrfl rfl
@[simp] theorem clK_ct0 (ρ : Env) : clK none (.ct ρ) = some (.ct ρ) := nrfl rfl
@[simp] theorem clK_nx (i : Nat) (ρ : Env) : clK (some i) (.nx ρ) = some (.nx (ρ.set i none)) := nrfl rfl
@[simp] theorem clK_bk (i : Nat) (ρ : Env) : clK (some i) (.bk ρ) = some (.bk (ρ.set i none)) := nrfl rfl
@[simp] theorem clK_ct (i : Nat) (ρ : Env) : clK (some i) (.ct ρ) = some (.ct (ρ.set i none)) := nrfl rfl
@[simp] theorem clK_rt (i : Option Nat) (d : D) (ρ : Env) : clK i (.rt d ρ) = some (.rt d ρ) := nrfl rfl
@[simp] theorem putE_n (ρ : Env) (n : Str) (d : D) : putE ρ n d none = ρ := nrfl rfl
@[simp] theorem putE_s (ρ : Env) (n : Str) (d : D) (i : Nat) : putE ρ n d (some i) = ρ.set i (some (.exc n d)) := nrfl rfl
@[simp] theorem goHd_n (ns : List Str) (n : Str) (d : D) (ρ : Env) : goHd ns n d ρ [] = some (.rz n d ρ) := nrfl rfl
def hdY (n : Str) (d : D) (i : Option Nat) (f : FS) : Env → Option Out := fun ρ => bd (f (putE ρ n d i)) (clK i)
@[simp] theorem hdY_e (n : Str) (d : D) (i : Option Nat) (f : FS) (ρ : Env) : hdY n d i f ρ = bd (f (putE ρ n d i)) (clK i) := nrfl rfl
def hdN (ns : List Str) (n : Str) (d : D) (r : List HdF) : Env → Option Out := fun ρ => goHd ns n d ρ r
@[simp] theorem hdN_e (ns : List Str) (n : Str) (d : D) (r : List HdF) (ρ : Env) : hdN ns n d r ρ = goHd ns n d ρ r := nrfl rfl
@[simp] theorem goHd_c (ns : List Str) (n : Str) (d : D) (ρ : Env) (c : Str) (i : Option Nat) (f : FS) (r : List HdF) : goHd ns n d ρ ((c, i, f) :: r) = gb (ns.contains n) (ift (subB n c) (hdY n d i f) (hdN ns n d r) ρ) := by
  unfold goHd gb
  by_cases h : ns.contains n = true
  · rw [if_pos h, if_pos h]
    by_cases h2 : subB n c = true
    · rw [if_pos h2, h2]; rfl
    · rw [if_neg h2]
      have : subB n c = false := by simpa using h2
      rw [this]; rfl
  · rw [if_neg h, if_neg h]
def tryK (ns : List Str) (hs : List HdF) : Out → Option Out
  | .rz n d ρ1 => goHd ns n d ρ1 hs
  | o => some o
@[simp] theorem tryK_nx (ns : List Str) (hs : List HdF) (ρ : Env) : tryK ns hs (.nx ρ) = some (.nx ρ) := nrfl rfl
@[simp] theorem tryK_bk (ns : List Str) (hs : List HdF) (ρ : Env) : tryK ns hs (.bk ρ) = some (.bk ρ) := nrfl rfl
@[simp] theorem tryK_ct (ns : List Str) (hs : List HdF) (ρ : Env) : tryK ns hs (.ct ρ) = some (.ct ρ) := nrfl rfl
@[simp] theorem tryK_rt (ns : List Str) (hs : List HdF) (d : D) (ρ : Env) : tryK ns hs (.rt d ρ) = some (.rt d ρ) := nrfl rfl
@[simp] theorem tryK_rz (ns : List Str) (hs : List HdF) (n : Str) (d : D) (ρ : Env) : tryK ns hs (.rz n d ρ) = goHd ns n d ρ hs := nrfl rfl
@[simp] theorem tryF_e (ns : List Str) (fb : FS) (hs : List HdF) (ρ : Env) : tryF ns fb hs ρ = bd (fb ρ) (tryK ns hs) := by
  unfold tryF bd
  congr 1
@[simp] theorem excValD_e (ns : List Str) (n : Str) (d : D) : excValD ns [.exc n d] = gb (ns.contains n) (some d) := gb_ite _ |>.trans (by simp)
@[simp] theorem isXD_e (ns : List Str) (c n : Str) (d : D) : isXD ns c [.exc n d] = gb (ns.contains n) (some (.bl (subB n c))) := gb_ite _ |>.trans (by simp)
@[simp] theorem isXD_n (ns : List Str) (c : Str) : isXD ns c [.non] = some (.bl false) := nrfl rfl
@[simp] theorem isXTD_e (ns cs : List Str) (n : Str) (d : D) : isXTD ns cs [.exc n d] = gb (ns.contains n) (some (.bl (cs.any (subB n)))) := gb_ite _ |>.trans (by simp)
@[simp] theorem isXTD_n (ns cs : List Str) : isXTD ns cs [.non] = some (.bl false) := nrfl rfl
@[simp] theorem frzD_non : freeze .non = .non := nrfl rfl
@[simp] theorem frzD_int (i : Int) : freeze (.int i) = .int i := nrfl rfl
@[simp] theorem frzD_bl (i : Bool) : freeze (.bl i) = .bl i := nrfl rfl
@[simp] theorem frzD_str (i : Str) : freeze (.str i) = .str i := nrfl rfl
@[simp] theorem isNon_exc (n : Str) (d : D) : isNon (.exc n d) = false := nrfl rfl
@[simp] theorem isNonD_exc (n : Str) (d : D) : isNonD [.exc n d, .non] = some (.bl false) := nrfl rfl
@[simp] theorem notNonD_exc (n : Str) (d : D) : notNonD [.exc n d, .non] = some (.bl true) := nrfl rfl
end VS
set_option Elab.async false
set_option linter.all false
set_option maxRecDepth 100000
namespace VS
open PySem PySem.Spec PyProof.Rows L2 RZ
@[simp] theorem isLq_s (o : Bool) (xs : List D) (ρ : Env) : isLq (some (.lst o xs, ρ)) = true := nrfl rfl
@[simp] theorem methTF_e (f : FE) (g : List D → Option D) (ops : List Op) (ρ : Env) : methTF f g ops ρ = gb (isLq (f ρ)) (bd (evOps (.t f :: ops) ρ) (opK g (.t f :: ops))) := by
  unfold methTF gb
  rw [opF_e]
end VS
set_option Elab.async false
set_option linter.all false
namespace VS
end VS
set_option Elab.async false
set_option linter.all false
set_option maxRecDepth 100000
namespace VS
open PySem PySem.Spec PyProof.Rows L2 RZ
@[simp] theorem noOwn_dct (o : Bool) (kvs : List (Int × Int)) : noOwn (.dct o kvs) = !o := nrfl rfl
@[simp] theorem freeze_dct (o : Bool) (kvs : List (Int × Int)) : freeze (.dct o kvs) = .dct false kvs := nrfl rfl
@[simp] theorem truD_dct (o : Bool) (kvs : List (Int × Int)) : truD (.dct o kvs) = some (!kvs.isEmpty) := nrfl rfl
@[simp] theorem dctF_e (ρ : Env) : dctF ρ = some (.dct true [], ρ) := nrfl rfl
def intO : Option Int → Option D
  | some v => some (.int v)
  | none => none
@[simp] theorem intO_s (v : Int) : intO (some v) = some (.int v) := nrfl rfl
@[simp] theorem dgetD_e (o : Bool) (kvs : List (Int × Int)) (k : Int) : dgetD [.dct o kvs, .int k] = intO (valI kvs k) := by
  show (valI kvs k).map D.int = _
  cases valI kvs k <;> rfl
/-- d[k] = v -/
def putK2 (ρ : Env) (k : Nat) (d : D) : List D → Option Env := fun ds => dputAt ρ k d ds
def dputO (ρ : Env) (k : Nat) (i v : Int) : Option D → Option Env
  | some (.dct true kvs) => gb (decide (kvs.length < smallL)) (some (ρ.set k (some (.dct true (putI kvs i v)))))
  | _ => none
@[simp] theorem dputO_e (ρ : Env) (k : Nat) (i v : Int) (kvs : List (Int × Int)) : dputO ρ k i v (some (.dct true kvs)) = gb (decide (kvs.length < smallL)) (some (ρ.set k (some (.dct true (putI kvs i v))))) := nrfl rfl
@[simp] theorem putK2_e (ρ : Env) (k : Nat) (v i : Int) : putK2 ρ k (.int v) [.int i] = dputO ρ k i v (getS ρ k) := by
  show dputAt ρ k (.int v) [.int i] = _
  unfold dputAt
  cases h : getS ρ k with
  | none => rfl
  | some d =>
    cases d with
    | dct o kvs => cases o with
      | true => exact gb_ite _
      | false => rfl
    | _ => rfl
def putK1 (k : Nat) (oi : Op) (d : D) : List (Option D) × Env → Option Env := fun (ts, ρ) => bd (fetch [oi] ts ρ) (putK2 ρ k d)
@[simp] theorem putK1_e (k : Nat) (oi : Op) (d : D) (ts : List (Option D)) (ρ : Env) : putK1 k oi d (ts, ρ) = bd (fetch [oi] ts ρ) (putK2 ρ k d) := nrfl rfl
def putK0 (k : Nat) (oi : Op) (d0 : D) (ρ : Env) : D → Option Env := fun _ => bd (evOps [oi] ρ) (putK1 k oi d0)
@[simp] theorem putK0_e (k : Nat) (oi : Op) (d0 : D) (ρ : Env) (d : D) : putK0 k oi d0 ρ d = bd (evOps [oi] ρ) (putK1 k oi d0) := nrfl rfl
@[simp] theorem tgPut_e (k : Nat) (oi : Op) (d : D) (ρ : Env) : tgPut k oi d ρ = bd (getS ρ k) (putK0 k oi d ρ) := nrfl rfl
/-- d.pop(k) -/
def isDo : Option D → Bool
  | some (.dct true _) => true
  | _ => false
@[simp] theorem isDo_e (kvs : List (Int × Int)) : isDo (some (.dct true kvs)) = true := nrfl rfl
def popKv (ρ : Env) (k : Nat) (i : Int) (kvs : List (Int × Int)) : Int → Option (D × Env) := fun v => some (.int v, ρ.set k (some (.dct true (dropI kvs i))))
@[simp] theorem popKv_e (ρ : Env) (k : Nat) (i : Int) (kvs : List (Int × Int)) (v : Int) : popKv ρ k i kvs v = some (.int v, ρ.set k (some (.dct true (dropI kvs i)))) := nrfl rfl
def popO (ρ : Env) (k : Nat) (i : Int) : Option D → Option (D × Env)
  | some (.dct true kvs) => bd (valI kvs i) (popKv ρ k i kvs)
  | _ => none
@[simp] theorem popO_e (ρ : Env) (k : Nat) (i : Int) (kvs : List (Int × Int)) : popO ρ k i (some (.dct true kvs)) = bd (valI kvs i) (popKv ρ k i kvs) := nrfl rfl
def popK2 (ρ : Env) (k : Nat) : List D → Option (D × Env) := fun ds => dpopAt ρ k ds
@[simp] theorem popK2_e (ρ : Env) (k : Nat) (i : Int) : popK2 ρ k [.int i] = popO ρ k i (getS ρ k) := by
  show dpopAt ρ k [.int i] = _
  unfold dpopAt
  cases h : getS ρ k with
  | none => rfl
  | some d =>
    cases d with
    | dct o kvs => cases o with
      | true => rfl
      | false => rfl
    | _ => rfl
def popK1 (k : Nat) (oi : Op) : List (Option D) × Env → Option (D × Env) := fun (ts, ρ) => bd (fetch [oi] ts ρ) (popK2 ρ k)
@[simp] theorem popK1_e (k : Nat) (oi : Op) (ts : List (Option D)) (ρ : Env) : popK1 k oi (ts, ρ) = bd (fetch [oi] ts ρ) (popK2 ρ k) := nrfl rfl
@[simp] theorem dpopF_e (k : Nat) (oi : Op) (ρ : Env) : dpopF k oi ρ = gb (isDo (getS ρ k)) (bd (evOps [oi] ρ) (popK1 k oi)) := by
  unfold dpopF
  cases h : getS ρ k with
  | none => rfl
  | some d =>
    cases d with
    | dct o kvs => cases o with
      | true => rfl
      | false => rfl
    | _ => rfl
/-- d.get(k, x) -/
def isDb : Option D → Bool
  | some (.dct _ _) => true
  | _ => false
@[simp] theorem isDb_e (o : Bool) (kvs : List (Int × Int)) : isDb (some (.dct o kvs)) = true := nrfl rfl
def getO (ρ : Env) (i z : Int) : Option D → Option (D × Env)
  | some (.dct _ kvs) => some (.int ((valI kvs i).getD z), ρ)
  | _ => none
@[simp] theorem getO_e (ρ : Env) (i z : Int) (o : Bool) (kvs : List (Int × Int)) : getO ρ i z (some (.dct o kvs)) = some (.int ((valI kvs i).getD z), ρ) := nrfl rfl
def getK2 (ρ : Env) (k : Nat) : List D → Option (D × Env) := fun ds => dget2At ρ k ds
@[simp] theorem getK2_e (ρ : Env) (k : Nat) (i z : Int) : getK2 ρ k [.int i, .int z] = getO ρ i z (getS ρ k) := by
  show dget2At ρ k [.int i, .int z] = _
  unfold dget2At
  cases h : getS ρ k with
  | none => rfl
  | some d => cases d <;> rfl
def getK1 (k : Nat) (o1 o2 : Op) : List (Option D) × Env → Option (D × Env) := fun (ts, ρ) => bd (fetch [o1, o2] ts ρ) (getK2 ρ k)
@[simp] theorem getK1_e (k : Nat) (o1 o2 : Op) (ts : List (Option D)) (ρ : Env) : getK1 k o1 o2 (ts, ρ) = bd (fetch [o1, o2] ts ρ) (getK2 ρ k) := nrfl rfl
@[simp] theorem dget2F_e (k : Nat) (o1 o2 : Op) (ρ : Env) : dget2F k o1 o2 ρ = gb (isDb (getS ρ k)) (bd (evOps [o1, o2] ρ) (getK1 k o1 o2)) := by
  unfold dget2F
  cases h : getS ρ k with
  | none => rfl
  | some d => cases d <;> rfl
end VS
set_option Elab.async false
set_option linter.all false
set_option maxRecDepth 100000
namespace VS
open PySem PySem.Spec PyProof.Rows L2 RZ
@[simp] theorem tgU_t (n : Nat) (gs : List D → Env → Option Env) (xs : List D) (ρ : Env) : tgU n gs (.tup xs) ρ = gb (decide (xs.length = n)) (gs xs ρ) := gb_ite _
@[simp] theorem tgU_l (n : Nat) (gs : List D → Env → Option Env) (xs : List D) (ρ : Env) : tgU n gs (.lst false xs) ρ = gb (decide (xs.length = n)) (gs xs ρ) := gb_ite _
end VS
set_option Elab.async false
set_option linter.all false
set_option maxRecDepth 100000
namespace VS
open PySem PySem.Spec PyProof.Rows L2 RZ
@[simp] theorem gcdD_e (a b : Int) : gcdD [.int a, .int b] = some (.int ((Nat.gcd a.natAbs b.natAbs : Nat) : Int)) := nrfl rfl
end VS
set_option Elab.async false
set_option linter.all false
set_option maxRecDepth 100000
namespace VS
open PySem PySem.Spec PyProof.Rows L2 RZ
@[simp] theorem sml_0 : decide (0 ≤ smallL) = true := decide_eq_true (by unfold smallL; omega)
@[simp] theorem sml_1 : decide (1 ≤ smallL) = true := decide_eq_true (by unfold smallL; omega)
@[simp] theorem sml_2 : decide (2 ≤ smallL) = true := decide_eq_true (by unfold smallL; omega)
@[simp] theorem sml_3 : decide (3 ≤ smallL) = true := decide_eq_true (by unfold smallL; omega)
@[simp] theorem sml_4 : decide (4 ≤ smallL) = true := decide_eq_true (by unfold smallL; omega)
@[simp] theorem sml_5 : decide (5 ≤ smallL) = true := decide_eq_true (by unfold smallL; omega)
@[simp] theorem sml_6 : decide (6 ≤ smallL) = true := decide_eq_true (by unfold smallL; omega)
@[simp] theorem sml_7 : decide (7 ≤ smallL) = true := decide_eq_true (by unfold smallL; omega)
@[simp] theorem sml_8 : decide (8 ≤ smallL) = true := decide_eq_true (by unfold smallL; omega)
@[simp] theorem sml_9 : decide (9 ≤ smallL) = true := decide_eq_true (by unfold smallL; omega)
@[simp] theorem sml_10 : decide (10 ≤ smallL) = true := decide_eq_true (by unfold smallL; omega)
@[simp] theorem sml_11 : decide (11 ≤ smallL) = true := decide_eq_true (by unfold smallL; omega)
@[simp] theorem sml_12 : decide (12 ≤ smallL) = true := decide_eq_true (by unfold smallL; omega)
@[simp] theorem sml_13 : decide (13 ≤ smallL) = true := decide_eq_true (by unfold smallL; omega)
@[simp] theorem sml_14 : decide (14 ≤ smallL) = true := decide_eq_true (by unfold smallL; omega)
@[simp] theorem sml_15 : decide (15 ≤ smallL) = true := decide_eq_true (by unfold smallL; omega)
@[simp] theorem sml_16 : decide (16 ≤ smallL) = true := decide_eq_true (by unfold smallL; omega)
@[simp] theorem sml_17 : decide (17 ≤ smallL) = true := decide_eq_true (by unfold smallL; omega)
@[simp] theorem sml_18 : decide (18 ≤ smallL) = true := decide_eq_true (by unfold smallL; omega)
@[simp] theorem sml_19 : decide (19 ≤ smallL) = true := decide_eq_true (by unfold smallL; omega)
@[simp] theorem sml_20 : decide (20 ≤ smallL) = true := decide_eq_true (by unfold smallL; omega)
@[simp] theorem sml_21 : decide (21 ≤ smallL) = true := decide_eq_true (by unfold smallL; omega)
@[simp] theorem sml_22 : decide (22 ≤ smallL) = true := decide_eq_true (by unfold smallL; omega)
@[simp] theorem sml_23 : decide (23 ≤ smallL) = true := decide_eq_true (by unfold smallL; omega)
@[simp] theorem sml_24 : decide (24 ≤ smallL) = true := decide_eq_true (by unfold smallL; omega)
@[simp] theorem sml_25 : decide (25 ≤ smallL) = true := decide_eq_true (by unfold smallL; omega)
@[simp] theorem sml_26 : decide (26 ≤ smallL) = true := decide_eq_true (by unfold smallL; omega)
@[simp] theorem sml_27 : decide (27 ≤ smallL) = true := decide_eq_true (by unfold smallL; omega)
@[simp] theorem sml_28 : decide (28 ≤ smallL) = true := decide_eq_true (by unfold smallL; omega)
@[simp] theorem sml_29 : decide (29 ≤ smallL) = true := decide_eq_true (by unfold smallL; omega)
@[simp] theorem sml_30 : decide (30 ≤ smallL) = true := decide_eq_true (by unfold smallL; omega)
@[simp] theorem sml_31 : decide (31 ≤ smallL) = true := decide_eq_true (by unfold smallL; omega)
@[simp] theorem sml_32 : decide (32 ≤ smallL) = true := decide_eq_true (by unfold smallL; omega)
end VS
set_option Elab.async false
set_option linter.all false
set_option maxRecDepth 100000
namespace VS
open PySem PySem.Spec PyProof.Rows L2 RZ
@[simp] theorem bandD_1 (a : Int) : bandD [.int a, .int 1] = gb (decide (0 ≤ a)) (some (.int (a % 2))) := by
  show (if 0 ≤ a ∧ (1 : Int) = 1 then _ else _) = _
  by_cases h : 0 ≤ a <;> simp [h, gb]
@[simp] theorem ishrD_1 (a : Int) : ishrD [.int a, .int 1] = some (.int (a / 2)) := nrfl rfl
@[simp] theorem tgStar_e (gs : List D → Env → Option Env) (x : D) (xs : List D) (ρ : Env) : tgStar gs (.lst false (x :: xs)) ρ = gb (decide (xs.length ≤ 16000)) (gs [x, .lst true xs] ρ) := by
  show (if xs.length ≤ 16000 then _ else _) = _
  by_cases h : xs.length ≤ 16000 <;> simp [h, gb]
def walK (i : Nat) (fb : FB) : D × Env → Option (Bool × Env) := fun (d, ρ1) => fb (ρ1.set i (some d))
@[simp] theorem walK_e (i : Nat) (fb : FB) (d : D) (ρ1 : Env) : walK i fb (d, ρ1) = fb (ρ1.set i (some d)) := nrfl rfl
@[simp] theorem walF_e (i : Nat) (f : FE) (fb : FB) (ρ : Env) : walF i f fb ρ = bd (f ρ) (walK i fb) := nrfl rfl
end VS
set_option Elab.async false
set_option linter.all false
set_option maxRecDepth 100000
namespace VS
open PySem PySem.Spec PyProof.Rows L2 RZ
def rtK3 (ρ : Env) : D × List (Option D) → Option (D × Env) := fun q => gb (pureT q.1) (some (q.1, ρ))
@[simp] theorem rtK3_e (ρ : Env) (d : D) (os : List (Option D)) : rtK3 ρ (d, os) = gb (pureT d) (some (d, ρ)) := nrfl rfl
def rtK2 (fn : Fn) (ρ : Env) : List D → Option (D × Env) := fun ds => bd (fn.sem (freezes ds)) (rtK3 ρ)
@[simp] theorem rtK2_e (fn : Fn) (ρ : Env) (ds : List D) : rtK2 fn ρ ds = bd (fn.sem (freezes ds)) (rtK3 ρ) := nrfl rfl
def rtK1 (fn : Fn) (ops : List Op) : List (Option D) × Env → Option (D × Env) := fun p => bd (fetch ops p.1 p.2) (rtK2 fn p.2)
@[simp] theorem rtK1_e (fn : Fn) (ops : List Op) (ts : List (Option D)) (ρ : Env) : rtK1 fn ops (ts, ρ) = bd (fetch ops ts ρ) (rtK2 fn ρ) := nrfl rfl
@[simp] theorem callRtF_e (fn : Fn) (ops : List Op) (ρ : Env) : callRtF fn ops ρ = bd (evOps ops ρ) (rtK1 fn ops) := by
  unfold callRtF bd
  congr 1
def rtkK2 (fn : Fn) (is : List Nat) (ρ : Env) : List D → Option (D × Env) := fun ds => bd (fn.sem (permL is (freezes ds))) (rtK3 ρ)
@[simp] theorem rtkK2_e (fn : Fn) (is : List Nat) (ρ : Env) (ds : List D) : rtkK2 fn is ρ ds = bd (fn.sem (permL is (freezes ds))) (rtK3 ρ) := nrfl rfl
def rtkK1 (fn : Fn) (is : List Nat) (ops : List Op) : List (Option D) × Env → Option (D × Env) := fun p => bd (fetch ops p.1 p.2) (rtkK2 fn is p.2)
@[simp] theorem rtkK1_e (fn : Fn) (is : List Nat) (ops : List Op) (ts : List (Option D)) (ρ : Env) : rtkK1 fn is ops (ts, ρ) = bd (fetch ops ts ρ) (rtkK2 fn is ρ) := nrfl rfl
@[simp] theorem callRtKF_e (fn : Fn) (is : List Nat) (ops : List Op) (ρ : Env) : callRtKF fn is ops ρ = bd (evOps ops ρ) (rtkK1 fn is ops) := by
  unfold callRtKF bd
  congr 1
@[simp] theorem pureT_tup (xs : List D) : pureT (.tup xs) = pureTs xs := nrfl rfl
@[simp] theorem pureT_int (i : Int) : pureT (.int i) = true := nrfl rfl
@[simp] theorem pureT_bl (i : Bool) : pureT (.bl i) = true := nrfl rfl
@[simp] theorem pureT_non : pureT .non = true := nrfl rfl
@[simp] theorem pureTs_nil : pureTs [] = true := nrfl rfl
@[simp] theorem pureTs_cons (x : D) (xs : List D) : pureTs (x :: xs) = (pureT x && pureTs xs) := nrfl rfl
end VS
set_option Elab.async false
set_option linter.all false
set_option maxRecDepth 100000
namespace VS
open PySem PySem.Spec PyProof.Rows L2 RZ
def slK3 (ρ : Env) (k : Nat) (d : D) : List D → Option Env := fun ds => slPut ρ k d ds (getS ρ k)
@[simp] theorem slK3_e (ρ : Env) (k : Nat) (d : D) (ds : List D) : slK3 ρ k d ds = slPut ρ k d ds (getS ρ k) := nrfl rfl
def slK2 (o1 o2 : Op) (k : Nat) (d : D) : List (Option D) × Env → Option Env := fun p => bd (fetch [o1, o2] p.1 p.2) (slK3 p.2 k d)
@[simp] theorem slK2_e (o1 o2 : Op) (k : Nat) (d : D) (ts : List (Option D)) (ρ : Env) : slK2 o1 o2 k d (ts, ρ) = bd (fetch [o1, o2] ts ρ) (slK3 ρ k d) := nrfl rfl
def slK1 (o1 o2 : Op) (k : Nat) (d : D) (ρ : Env) : D → Option Env := fun _ => bd (evOps [o1, o2] ρ) (slK2 o1 o2 k d)
@[simp] theorem slK1_e (o1 o2 : Op) (k : Nat) (d : D) (ρ : Env) (d0 : D) : slK1 o1 o2 k d ρ d0 = bd (evOps [o1, o2] ρ) (slK2 o1 o2 k d) := nrfl rfl
@[simp] theorem tgSlS_e (o1 o2 : Op) (k : Nat) (d : D) (ρ : Env) : tgSlS k o1 o2 d ρ = bd (getS ρ k) (slK1 o1 o2 k d ρ) := by
  unfold tgSlS bd slK1
  cases getS ρ k <;> rfl
@[simp] theorem slPut_e (ρ : Env) (k : Nat) (a c : Int) (xs ys : List D) : slPut ρ k (.lst true ys) [.int a, .int c] (some (.lst true xs)) = gb (decide (0 ≤ a) && (decide (a ≤ c) && (decide (c ≤ (xs.length : Int)) && (noOwns xs && (noOwns ys && decide (xs.length + ys.length ≤ smallL)))))) (some (ρ.set k (some (.lst true (xs.take a.toNat ++ ys ++ xs.drop c.toNat))))) := by
  show (if _ then _ else _) = _
  unfold gb
  by_cases h : 0 ≤ a ∧ a ≤ c ∧ c ≤ (xs.length : Int) ∧ noOwns xs = true ∧ noOwns ys = true ∧ xs.length + ys.length ≤ smallL
  · rw [if_pos h]
    obtain ⟨h1, h2, h3, h4, h5, h6⟩ := h
    simp [h1, h2, h3, h4, h5, h6]
  · rw [if_neg h]
    simp only [Bool.and_eq_true, decide_eq_true_eq]
    rw [if_neg h]
end VS
set_option Elab.async false
set_option linter.all false
set_option maxRecDepth 100000
namespace VS
open PySem PySem.Spec PyProof.Rows L2 RZ
def trgK : List D → Option D := fun xs => if xs.length ≤ smallL then some (.tup xs) else none
theorem trgD_e (rd : List D → Option (List D)) (ds : List D) : trgD rd ds = bd (rd ds) trgK := by
  unfold trgD bd trgK; cases rd ds <;> rfl
@[simp] theorem trg1 (ds : List D) : trgD rng1D ds = bd (rng1D ds) trgK := trgD_e _ _
end VS
set_option Elab.async false
set_option linter.all false
set_option maxRecDepth 100000
namespace VS
open PySem PySem.Spec PyProof.Rows L2 RZ
@[simp] theorem trg2 (ds : List D) : trgD rng2D ds = bd (rng2D ds) trgK := trgD_e _ _
end VS
set_option Elab.async false
set_option linter.all false
set_option maxRecDepth 100000
namespace VS
open PySem PySem.Spec PyProof.Rows L2 RZ
end VS
set_option Elab.async false
set_option linter.all false
set_option maxRecDepth 100000
namespace VS
open PySem PySem.Spec PyProof.Rows L2 RZ
@[simp] theorem inR1_e (f : Bool → Bool) (k j : Int) : inR1 f [.int k, .int j] = some (.bl (f (decide (0 ≤ k ∧ k < j)))) := nrfl rfl
@[simp] theorem inR2_e (f : Bool → Bool) (k i j : Int) : inR2 f [.int k, .int i, .int j] = some (.bl (f (decide (i ≤ k ∧ k < j)))) := nrfl rfl
end VS
set_option Elab.async false
set_option linter.all false
set_option maxRecDepth 100000
namespace VS
open PySem PySem.Spec PyProof.Rows L2 RZ
end VS
set_option Elab.async false
set_option linter.all false
set_option maxRecDepth 100000
namespace VS
open PySem PySem.Spec PyProof.Rows L2 RZ
def lendK (ρ : Env) : D × Env → Option (D × Env) := fun p => if lendOk p.1 = true then some (p.1, ρ) else none
def lendKB (ρ : Env) : Bool × Env → Option (Bool × Env) := fun p => some (p.1, ρ)
@[simp] theorem lendK_e (ρ ρ' : Env) (d : D) : lendK ρ (d, ρ') = gb (lendOk d) (some (d, ρ)) := by
  unfold lendK gb
  cases lendOk d <;> rfl
@[simp] theorem lendKB_e (ρ ρ' : Env) (b : Bool) : lendKB ρ (b, ρ') = some (b, ρ) := nrfl rfl
@[simp] theorem lendF_e (f : FE) (ρ : Env) : lendF f ρ = bd (f (lendE ρ)) (lendK ρ) := nrfl rfl
@[simp] theorem lendB_e (f : FB) (ρ : Env) : lendB f ρ = bd (f (lendE ρ)) (lendKB ρ) := nrfl rfl
@[simp] theorem lendE_nil : lendE [] = [] := nrfl rfl
@[simp] theorem lendE_some (d : D) (ρ : Env) : lendE (some d :: ρ) = some (freeze d) :: lendE ρ := nrfl rfl
@[simp] theorem lendE_none (ρ : Env) : lendE (none :: ρ) = none :: lendE ρ := nrfl rfl
@[simp] theorem lendOk_bl (b : Bool) : lendOk (.bl b) = true := rfl
@[simp] theorem lendOk_int (b : Int) : lendOk (.int b) = true := rfl
@[simp] theorem lendOk_non : lendOk .non = true := rfl
@[simp] theorem lendOk_lst (xs : List D) : lendOk (.lst true xs) = pureTs xs := rfl
def cmK2 (i : Nat) (d : D) (ρ : Env) : D → Option (D × Env) := fun e => match d, e with
  | .lst true ys, .lst true xs => if xs.length + ys.length ≤ smallL then some (.lst true (xs ++ ys), ρ.set i none) else none
  | _, _ => none
def cmK (i : Nat) : D × Env → Option (D × Env) := fun p => bd (getS p.2 i) (cmK2 i p.1 p.2)
def cmK0 (i : Nat) (f : FE) (ρ : Env) : D → Option (D × Env) := fun _ => bd (f ρ) (cmK i)
@[simp] theorem cmK2_e (i : Nat) (xs ys : List D) (ρ : Env) : cmK2 i (.lst true ys) ρ (.lst true xs) = gb (decide (xs.length + ys.length ≤ smallL)) (some (.lst true (xs ++ ys), ρ.set i none)) := gb_ite _
@[simp] theorem cmK_e (i : Nat) (d : D) (ρ : Env) : cmK i (d, ρ) = bd (getS ρ i) (cmK2 i d ρ) := nrfl rfl
@[simp] theorem cmK0_e (i : Nat) (f : FE) (ρ : Env) (d : D) : cmK0 i f ρ d = bd (f ρ) (cmK i) := nrfl rfl
@[simp] theorem catMvF_e (i : Nat) (f : FE) (ρ : Env) : catMvF i f ρ = bd (getS ρ i) (cmK0 i f ρ) := by
  unfold catMvF cmK0
  cases getS ρ i with
  | none => rfl
  | some d0 =>
    show (f ρ).bind _ = bd (f ρ) (cmK i)
    unfold bd
    congr 1
    funext p
    unfold cmK bd
    cases h : getS p.2 i with
    | none => cases p.1 with
      | lst o xs => cases o <;> rfl
      | _ => rfl
    | some e => 
      show _ = cmK2 i p.1 p.2 e
      unfold cmK2
      cases p.1 with
      | lst o xs =>
        cases o with
        | true => cases e with
          | lst o2 ys => cases o2 <;> rfl
          | _ => rfl
        | false => rfl
      | _ => rfl
/-! a list's element handed to a def -/
def ceK4 (iw il : Nat) (xs : List D) (k : Nat) (ρ : Env) (d : D) : D × D → Option (D × Env) := fun o => some (d, (ρ.set iw (some o.1)).set il (some (.lst true (xs.set k o.2))))
def ceK3 (iw il : Nat) (xs : List D) (k : Nat) (ρ : Env) : D × List (Option D) → Option (D × Env) := fun q => bd (twoOs q.2) (ceK4 iw il xs k ρ q.1)
@[simp] theorem ceK4_e (iw il : Nat) (xs : List D) (k : Nat) (ρ : Env) (d a b : D) : ceK4 iw il xs k ρ d (a, b) = some (d, (ρ.set iw (some a)).set il (some (.lst true (xs.set k b)))) := nrfl rfl
@[simp] theorem ceK3_e (iw il : Nat) (xs : List D) (k : Nat) (ρ : Env) (d a b : D) : ceK3 iw il xs k ρ (d, [some a, some b]) = some (d, (ρ.set iw (some a)).set il (some (.lst true (xs.set k b)))) := nrfl rfl
end VS
set_option Elab.async false
set_option linter.all false
set_option maxRecDepth 100000
namespace VS
open PySem PySem.Spec PyProof.Rows L2 RZ
theorem mutElF_e {il : Nat} {fi fa : FE} {g : List D → List D → Option (D × List D)} {ρ ρi ρa : Env} {xs ys ys' : List D} {j : Int} {k : Nat} {a d : D} (h1 : getS ρ il = some (.lst true xs)) (h2 : fi (lendE ρ) = some (.int j, ρi)) (h3 : ixN xs.length j = some k) (h4 : xs[k]? = some (.lst true ys)) (h5 : fa (lendE ρ) = some (a, ρa)) (h6 : pureT a = true) (h7 : g ys [a] = some (d, ys')) : mutElF il fi g fa ρ = some (d, ρ.set il (some (.lst true (xs.set k (.lst true ys'))))) := by
  unfold mutElF
  rw [h1]
  show ((fi (lendE ρ)).bind _) = _
  rw [h2]
  show ((ixN xs.length j).bind _) = _
  rw [h3]
  show (match xs[k]? with | some (.lst true ys) => _ | _ => none) = _
  rw [h4]
  show ((fa (lendE ρ)).bind _) = _
  rw [h5]
  show (if pureT a = true then (g ys [a]).bind _ else none) = _
  rw [if_pos h6, h7]
  rfl
theorem tgElVF_e {il : Nat} {fi fj : FE} {ρ ρi ρj : Env} {xs ys : List D} {j l : Int} {k n : Nat} {d : D} (h1 : getS ρ il = some (.lst true xs)) (h2 : fi (lendE ρ) = some (.int j, ρi)) (h3 : ixN xs.length j = some k) (h4 : xs[k]? = some (.lst true ys)) (h5 : fj (lendE ρ) = some (.int l, ρj)) (h6 : ixN ys.length l = some n) (h7 : noOwns ys = true) (h8 : noOwn d = true) : tgElVF il fi fj d ρ = some (ρ.set il (some (.lst true (xs.set k (.lst true (ys.set n d)))))) := by
  unfold tgElVF
  rw [h1]
  show ((fi (lendE ρ)).bind _) = _
  rw [h2]
  show ((ixN xs.length j).bind _) = _
  rw [h3]
  show (match xs[k]? with | some (.lst true ys) => _ | _ => none) = _
  rw [h4]
  show ((fj (lendE ρ)).bind _) = _
  rw [h5]
  show ((ixN ys.length l).bind _) = _
  rw [h6]
  exact if_pos ⟨h7, h8⟩
end VS
set_option Elab.async false
set_option linter.all false
set_option maxRecDepth 100000
set_option maxHeartbeats 0
namespace VS
open PySem PySem.Spec PyProof.Rows L2 RZ
/-! the text: where each def stands, its slots -/
def topS (i : Nat) : Stmt := PySem.Challenge.pw_hookmats_k49_whole_pairing_tables.main.body.getD i (.Pass ⟨0, 0, 0, 0⟩)
abbrev s_draw : Stmt := topS 31
theorem sc_draw : FnScope ["_law_well_here", "_law_limit", "_law_found", "_law_mixed"] ["_law_well_here", "_law_limit"] (defScope s_draw) := ⟨rfl, rfl, rfl, by decide +kernel, rfl, by decide +kernel, by decide +kernel⟩
abbrev s_same : Stmt := topS 32
theorem sc_same : FnScope ["_law_found", "_law_due", "_law_k"] ["_law_found", "_law_due"] (defScope s_same) := ⟨rfl, rfl, rfl, by decide +kernel, rfl, by decide +kernel, by decide +kernel⟩
abbrev s_changed : Stmt := topS 40
theorem sc_changed : FnScope ["_law_found", "_law_due", "_law_row", "_law_column", "_law_k"] ["_law_found", "_law_due", "_law_row", "_law_column"] (defScope s_changed) := ⟨rfl, rfl, rfl, by decide +kernel, rfl, by decide +kernel, by decide +kernel⟩
abbrev s_half : Stmt := topS 35
theorem sc_half : FnScope ["_law_signs_here", "_law_n", "_law_begun", "_law_mates", "_law_peg", "_law_mate", "_law_below"] ["_law_signs_here"] (defScope s_half) := ⟨rfl, rfl, rfl, by decide +kernel, rfl, by decide +kernel, by decide +kernel⟩
abbrev s_signs : Stmt := topS 34
theorem sc_signs : FnScope ["_law_many", "_law_goal", "_law_rows", "_law_k", "_law_longer", "_law_row", "_law_high"] ["_law_many", "_law_goal"] (defScope s_signs) := ⟨rfl, rfl, rfl, by decide +kernel, rfl, by decide +kernel, by decide +kernel⟩
abbrev s_halves : Stmt := topS 36
theorem sc_halves : FnScope ["_law_n", "_law_k", "_law_signs_here"] ["_law_n", "_law_k"] (defScope s_halves) := ⟨rfl, rfl, rfl, by decide +kernel, rfl, by decide +kernel, by decide +kernel⟩
abbrev s_flip : Stmt := topS 37
theorem sc_flip : FnScope ["_law_mesh", "_law_n", "_law_m", "_law_mates", "_law_row", "_law_p", "_law_mate"] ["_law_mesh"] (defScope s_flip) := ⟨rfl, rfl, rfl, by decide +kernel, rfl, by decide +kernel, by decide +kernel⟩
abbrev s_put : Stmt := topS 33
theorem sc_put : FnScope ["_law_one", "_law_other", "_law_n", "_law_m", "_law_k", "_law_links", "_law_met", "_law_mates", "_law_rings", "_law_start", "_law_side", "_law_spot", "_law_step", "_law_mate"] ["_law_one", "_law_other"] (defScope s_put) := ⟨rfl, rfl, rfl, by decide +kernel, rfl, by decide +kernel, by decide +kernel⟩
abbrev s_paired : Stmt := topS 38
theorem sc_paired : FnScope ["_law_one", "_law_other", "_law_rings", "_law_made", "_law_mate"] ["_law_one", "_law_other"] (defScope s_paired) := ⟨rfl, rfl, rfl, by decide +kernel, rfl, by decide +kernel, by decide +kernel⟩
abbrev s_table_of : Stmt := topS 39
theorem sc_table_of : FnScope ["_law_halves_here", "_law_table", "_law_one", "_law_row", "_law_other", "_law_rings"] ["_law_halves_here"] (defScope s_table_of) := ⟨rfl, rfl, rfl, by decide +kernel, rfl, by decide +kernel, by decide +kernel⟩
abbrev s_p_check_size : Stmt := topS 10
theorem sc_p_check_size : FnScope ["n"] ["n"] (defScope s_p_check_size) := ⟨rfl, rfl, rfl, by decide +kernel, rfl, by decide +kernel, by decide +kernel⟩
abbrev s_p_check_halves : Stmt := topS 20
theorem sc_p_check_halves : FnScope ["n", "k"] ["n", "k"] (defScope s_p_check_halves) := ⟨rfl, rfl, rfl, by decide +kernel, rfl, by decide +kernel, by decide +kernel⟩
abbrev s_p_half_of_signs : Stmt := topS 23
theorem sc_p_half_of_signs : FnScope ["row", "waiting", "mates", "peg", "sign", "below"] ["row"] (defScope s_p_half_of_signs) := ⟨rfl, rfl, rfl, by decide +kernel, rfl, by decide +kernel, by decide +kernel⟩
abbrev s_p_rows_of_signs : Stmt := topS 22
theorem sc_p_rows_of_signs : FnScope ["n", "k", "rows", "left", "longer", "row", "height", "sign", "_"] ["n", "k"] (defScope s_p_rows_of_signs) := ⟨rfl, rfl, rfl, by decide +kernel, rfl, by decide +kernel, by decide +kernel⟩
abbrev s_p_half_mats : Stmt := topS 24
theorem sc_p_half_mats : FnScope ["n", "k", "row"] ["n", "k"] (defScope s_p_half_mats) := ⟨rfl, rfl, rfl, by decide +kernel, rfl, by decide +kernel, by decide +kernel⟩
abbrev s_p_how_many_halves : Stmt := topS 25
theorem sc_p_how_many_halves : FnScope ["n", "k", "falls", "found"] ["n", "k"] (defScope s_p_how_many_halves) := ⟨rfl, rfl, rfl, by decide +kernel, rfl, by decide +kernel, by decide +kernel⟩
abbrev s_p_round_of : Stmt := topS 7
theorem sc_p_round_of : FnScope ["n", "m"] ["n", "m"] (defScope s_p_round_of) := ⟨rfl, rfl, rfl, by decide +kernel, rfl, by decide +kernel, by decide +kernel⟩
abbrev s_p_is_mat : Stmt := topS 8
theorem sc_p_is_mat : FnScope ["told", "n", "m", "mates", "many", "peg", "mate", "waiting"] ["told"] (defScope s_p_is_mat) := ⟨rfl, rfl, rfl, by decide +kernel, rfl, by decide +kernel, by decide +kernel⟩
abbrev s_p_checked_mat : Stmt := topS 9
theorem sc_p_checked_mat : FnScope ["mat"] ["mat"] (defScope s_p_checked_mat) := ⟨rfl, rfl, rfl, by decide +kernel, rfl, by decide +kernel, by decide +kernel⟩
abbrev s_p_through : Stmt := topS 13
theorem sc_p_through : FnScope ["mat", "n", "m", "mates", "mate"] ["mat"] (defScope s_p_through) := ⟨rfl, rfl, rfl, by decide +kernel, rfl, by decide +kernel, by decide +kernel⟩
abbrev s_p_check_half : Stmt := topS 21
theorem sc_p_check_half : FnScope ["mat"] ["mat"] (defScope s_p_check_half) := ⟨rfl, rfl, rfl, by decide +kernel, rfl, by decide +kernel, by decide +kernel⟩
abbrev s_p_check_pair : Stmt := topS 18
theorem sc_p_check_pair : FnScope ["above", "below"] ["above", "below"] (defScope s_p_check_pair) := ⟨rfl, rfl, rfl, by decide +kernel, rfl, by decide +kernel, by decide +kernel⟩
abbrev s_p_far_end : Stmt := topS 15
theorem sc_p_far_end : FnScope ["one", "other", "peg", "passed", "n", "middle", "ahead", "at"] ["one", "other", "peg", "passed"] (defScope s_p_far_end) := ⟨rfl, rfl, rfl, by decide +kernel, rfl, by decide +kernel, by decide +kernel⟩
abbrev s_p_loose_rings : Stmt := topS 16
theorem sc_p_loose_rings : FnScope ["one", "other", "passed", "n", "rings", "start", "at"] ["one", "other", "passed"] (defScope s_p_loose_rings) := ⟨rfl, rfl, rfl, by decide +kernel, rfl, by decide +kernel, by decide +kernel⟩
abbrev s_p_put_behind : Stmt := topS 17
theorem sc_p_put_behind : FnScope ["one", "other", "n", "k", "passed", "mates", "peg"] ["one", "other"] (defScope s_p_put_behind) := ⟨rfl, rfl, rfl, by decide +kernel, rfl, by decide +kernel, by decide +kernel⟩
abbrev s_p_paired : Stmt := topS 26
theorem sc_p_paired : FnScope ["ahead", "other", "rings", "n", "m", "mates", "mate"] ["ahead", "other"] (defScope s_p_paired) := ⟨rfl, rfl, rfl, by decide +kernel, rfl, by decide +kernel, by decide +kernel⟩
abbrev s_p_remade : Stmt := topS 11
theorem sc_p_remade : FnScope ["n", "m", "mates", "place", "row", "peg", "mate"] ["n", "m", "mates", "place"] (defScope s_p_remade) := ⟨rfl, rfl, rfl, by decide +kernel, rfl, by decide +kernel, by decide +kernel⟩
abbrev s_p_upside_down : Stmt := topS 12
theorem sc_p_upside_down : FnScope ["mat", "n", "m", "mates"] ["mat"] (defScope s_p_upside_down) := ⟨rfl, rfl, rfl, by decide +kernel, rfl, by decide +kernel, by decide +kernel⟩
abbrev s_p_pairing : Stmt := topS 27
theorem sc_p_pairing : FnScope ["one", "other"] ["one", "other"] (defScope s_p_pairing) := ⟨rfl, rfl, rfl, by decide +kernel, rfl, by decide +kernel, by decide +kernel⟩
abbrev s_p_pairing_table : Stmt := topS 28
theorem sc_p_pairing_table : FnScope ["n", "k", "halves", "table", "one", "ahead", "other"] ["n", "k"] (defScope s_p_pairing_table) := ⟨rfl, rfl, rfl, by decide +kernel, rfl, by decide +kernel, by decide +kernel⟩
abbrev s_right : Stmt := topS 41
theorem sc_right : FnScope ["_law_well_here", "_law_n", "_law_named", "_law_k", "_law_halves_here", "_law_due", "_law_size", "_law_found", "_law_row", "_law_column", "_law_told"] ["_law_well_here", "_law_n", "_law_named"] (defScope s_right) := ⟨rfl, rfl, rfl, by decide +kernel, rfl, by decide +kernel, by decide +kernel⟩
abbrev s_well : Stmt := topS 30
theorem sc_well : FnScope ["_law_script", "_law_great", "_law_mark", "_law_place", "_law_cell"] ["_law_script"] (defScope s_well) := ⟨rfl, rfl, rfl, by decide +kernel, rfl, by decide +kernel, by decide +kernel⟩
abbrev s_law : Stmt := topS 42
theorem sc_law : FnScope ["_law_script", "_law_well_here", "_law_turn", "_law_n"] ["_law_script"] (defScope s_law) := ⟨rfl, rfl, rfl, by decide +kernel, rfl, by decide +kernel, by decide +kernel⟩
/-! what each def does with its data -/
def FUEL : Nat := 1000000
-- slots: 0 _law_well_here, 1 _law_limit, 2 _law_found, 3 _law_mixed
def F_draw : FS :=
  seqF (ifF (andF (bT (opF (eqD) [.t (opF ixD [.b 0, .t (litF (.int 1))]), .t (litF (.int 0))])) (bT (neElF 0 0))) (asgF (popElF 0 0) (tgSub 0 (.t (litF (.int 1))))) (passF)) <|
  seqF (ifF (bT (opF (gtD) [.t (opF ixD [.b 0, .t (litF (.int 1))]), .t (litF (.int 0))])) (seqF (asgF (opF modD [.t (opF intD [.t (opF ixD [.b 0, .t (litF (.int 1))])]), .b 1]) (tgN 2)) <|
  seqF (asgF (opF fdivD [.t (opF ixD [.b 0, .t (litF (.int 1))]), .b 1]) (tgSub 0 (.t (litF (.int 1))))) <|
  retF (movF 2)) (passF)) <|
  seqF (asgF (opF addD [.t (opF ixD [.b 0, .t (litF (.int 3))]), .t (litF (.int 1))]) (tgSub 0 (.t (litF (.int 3))))) <|
  seqF (asgF (opF modD [.t (opF intD [.t (opF powD [.t (opF addD [.t (opF addD [.t (opF ixD [.b 0, .t (litF (.int 2))]), .t (opF mulD [.t (opF mulD [.t (litF (.int 104729)), .t (opF ixD [.b 0, .t (litF (.int 3))])]), .t (opF ixD [.b 0, .t (litF (.int 3))])])]), .t (opF ixD [.b 0, .t (litF (.int 3))])]), .t (litF (.int 2))])]), .t (litF (.int 162259276829213363391578010288127))]) (tgN 3)) <|
  retF (opF modD [.t (opF fdivD [.t (opF modD [.t (opF intD [.t (opF mulD [.b 3, .t (opF addD [.b 3, .t (litF (.int 59))])])]), .t (litF (.int 170141183460469231731687303715884105727))]), .t (litF (.int 10007))]), .b 1])
def fn_draw : Fn := bodyFn 4 2 [true, true] F_draw
-- slots: 0 _law_found, 1 _law_due, 2 _law_k
def F_same (fn : Fn) : FS :=
  seqF (ifF (tstF (.t (opF (isiTD ["tuple", "list"]) [.b 1]))) (seqF (ifF (orF (bT (opF (neD) [.t (opF (isiD "tuple") [.b 0]), .t (opF (isiD "tuple") [.b 1])])) (bT (opF (neD) [.t (opF (isiD "list") [.b 0]), .t (opF (isiD "list") [.b 1])]))) (retF (litF (.bl false))) (passF)) <|
  seqF (ifF (bT (opF (neD) [.t (opF lenD [.b 0]), .t (opF lenD [.b 1])])) (retF (litF (.bl false))) (passF)) <|
  retF (opF allD [.t (lcF [2] (itRg rng1D [.t (opF lenD [.b 1])]) (tgN 2) (yesF) (callF fn [.t (opF ixD [.b 0, .b 2]), .t (opF ixD [.b 1, .b 2])]))])) (passF)) <|
  seqF (ifF (orF (bT (opF (isNonD) [.b 1, .t (litF .non)])) (orF (bT (opF (isBvD) [.b 1, .t (litF (.bl true))])) (bT (opF (isBvD) [.b 1, .t (litF (.bl false))])))) (retF (orV (andV (opF (isNonD) [.b 1, .t (litF .non)]) (opF (isNonD) [.b 0, .t (litF .non)])) (orV (andV (opF (isBvD) [.b 1, .t (litF (.bl true))]) (opF (isBvD) [.b 0, .t (litF (.bl true))])) (andV (opF (isBvD) [.b 1, .t (litF (.bl false))]) (opF (isBvD) [.b 0, .t (litF (.bl false))]))))) (passF)) <|
  seqF (ifF (tstF (.t (opF (isiD "str") [.b 1]))) (retF (andV (opF (isiD "str") [.b 0]) (opF (eqD) [.b 0, .b 1]))) (passF)) <|
  retF (andV (opF (isiD "int") [.b 0]) (andV (opF (notBvD) [.b 0, .t (litF (.bl true))]) (andV (opF (notBvD) [.b 0, .t (litF (.bl false))]) (opF (eqD) [.b 0, .b 1]))))
def fn_same_at : Nat → Fn
  | 0 => stuckFn 2 [true, true]
  | n + 1 => bodyFn 3 2 [true, true] (F_same (fn_same_at n))
def fn_same : Fn := fn_same_at 20
-- slots: 0 _law_found, 1 _law_due, 2 _law_row, 3 _law_column, 4 _law_k
def F_changed : FS :=
  seqF (asgF (litF .non) (tgElVF 0 (varF 2) (varF 3))) <|
  seqF (dropF (mutElF 0 (varF 2) appD (tupF []))) <|
  seqF (forF (itRg rng1D [.t (opF lenD [.b 1])]) (tgN 4) (ifF (lendB (andF (bT (opF (neD) [.b 4, .b 2])) (notF (tstF (.t (callF fn_same [.t (opF ixD [.b 0, .b 4]), .t (opF ixD [.b 1, .b 4])])))))) (retF (lendF (litF (.bl false)))) (passF))) <|
  retF (lendF (litF (.bl true)))
def fn_changed : Fn := bodyFn 5 4 [true, true, true, true] F_changed
-- slots: 0 _law_signs_here, 1 _law_n, 2 _law_begun, 3 _law_mates, 4 _law_peg, 5 _law_mate, 6 _law_below
def F_half : FS :=
  seqF (parF [1, 2, 3] [.t (opF lenD [.b 0]), .t (lstF []), .t (opF mulD [.t (lstF [.t (litF (.int 0))]), .t (opF lenD [.b 0])])]) <|
  seqF (forF (itRg rng1D [.b 1]) (tgN 4) (ifF (bT (opF (eqD) [.t (opF ixD [.b 0, .b 4]), .t (litF (.int 1))])) (dropF (mutF 2 appD [.t (varF 4)])) (seqF (asgF (mutF 2 popD []) (tgN 5)) <|
  asgF (tupF [.t (varF 5), .t (varF 4)]) (tgT 2 (tgCons (tgSub 3 (.b 4)) (tgCons (tgSub 3 (.b 5)) (tgNil))))))) <|
  seqF (forF (itRg rng1D [.t (opF lenD [.b 2])]) (tgN 6) (asgF (opF addD [.b 1, .b 6]) (tgSub 3 (.t (opF ixD [.b 2, .b 6]))))) <|
  retF (tupF [.t (movF 1), .t (opF lenD [.b 2]), .t (opF tupleD [.t (opF addD [.b 3, .b 2])])])
def fn_half : Fn := bodyFn 7 1 [true] F_half
-- slots: 0 _law_many, 1 _law_goal, 2 _law_rows, 3 _law_k, 4 _law_longer, 5 _law_row, 6 _law_high
def F_signs : FS :=
  seqF (asgF (lstF [.t (tupF [.t (tupF []), .t (litF (.int 0))])]) (tgN 2)) <|
  seqF (forF (itRg rng1D [.b 0]) (tgN 3) (seqF (asgF (lcF [5, 6] (itSeq (varF 2)) (tgT 2 (tgCons (tgN 5) (tgCons (tgN 6) (tgNil)))) (yesF) (tupF [.t (opF addD [.b 5, .t (tupF [.t (litF (.int 1))])]), .t (opF addD [.b 6, .t (litF (.int 1))])])) (tgN 4)) <|
  asgF (opF addD [.b 4, .t (lcF [5, 6] (itSeq (varF 2)) (tgT 2 (tgCons (tgN 5) (tgCons (tgN 6) (tgNil)))) (bT (opF (gtD) [.b 6, .t (litF (.int 0))])) (tupF [.t (opF addD [.b 5, .t (tupF [.t (opF negD [.t (litF (.int 1))])])]), .t (opF subD [.b 6, .t (litF (.int 1))])]))]) (tgN 2))) <|
  retF (lcF [5, 6] (itSeq (varF 2)) (tgT 2 (tgCons (tgN 5) (tgCons (tgN 6) (tgNil)))) (bT (opF (eqD) [.b 6, .b 1])) (varF 5))
def fn_signs : Fn := bodyFn 7 2 [true, true] F_signs
-- slots: 0 _law_n, 1 _law_k, 2 _law_signs_here
def F_halves : FS :=
  retF (opF sortedMD [.t (lcF [2] (itSeq (callF fn_signs [.b 0, .b 1])) (tgN 2) (yesF) (callF fn_half [.b 2]))])
def fn_halves : Fn := bodyFn 3 2 [true, true] F_halves
-- slots: 0 _law_mesh, 1 _law_n, 2 _law_m, 3 _law_mates, 4 _law_row, 5 _law_p, 6 _law_mate
def F_flip : FS :=
  seqF (asgF (varF 0) (tgT 3 (tgCons (tgN 1) (tgCons (tgN 2) (tgCons (tgN 3) (tgNil)))))) <|
  seqF (asgF (opF addD [.t (lcF [5] (itRg rng1D [.b 2]) (tgN 5) (yesF) (opF ixD [.b 3, .t (opF addD [.b 1, .b 5])])), .t (lcF [5] (itRg rng1D [.b 1]) (tgN 5) (yesF) (opF ixD [.b 3, .b 5]))]) (tgN 4)) <|
  retF (tupF [.t (varF 2), .t (varF 1), .t (opF tupleD [.t (lcF [6] (itSeq (varF 4)) (tgN 6) (yesF) (ifE (bT (opF (ltD) [.b 6, .b 1])) (opF addD [.b 6, .b 2]) (opF subD [.b 6, .b 1])))])])
def fn_flip : Fn := bodyFn 7 1 [true] F_flip
-- slots: 0 _law_one, 1 _law_other, 2 _law_n, 3 _law_m, 4 _law_k, 5 _law_links, 6 _law_met, 7 _law_mates, 8 _law_rings, 9 _law_start, 10 _law_side, 11 _law_spot, 12 _law_step, 13 _law_mate
def F_put : FS :=
  seqF (asgF (tupF [.t (opF ixD [.b 0, .t (litF (.int 0))]), .t (opF ixD [.b 0, .t (litF (.int 1))]), .t (opF ixD [.b 1, .t (litF (.int 1))])]) (tgT 3 (tgCons (tgN 2) (tgCons (tgN 3) (tgCons (tgN 4) (tgNil)))))) <|
  seqF (parF [5, 6] [.t (lstF [.t (frzF (opF listD [.t (opF ixD [.b 0, .t (litF (.int 2))])])), .t (frzF (lcF [13] (itSeq (opF ixD [.b 1, .t (litF (.int 2))])) (tgN 13) (yesF) (opF addD [.b 2, .b 13])))]), .t (opF mulD [.t (lstF [.t (litF (.bl false))]), .t (opF addD [.b 2, .b 3])])]) <|
  seqF (parF [7, 8] [.t (lstF []), .t (litF (.int 0))]) <|
  seqF (forF (itSeq (opF addD [.t (opF (lrgD rng1D) [.b 2]), .t (opF (lrgD rng2D) [.t (opF addD [.b 2, .b 3]), .t (opF addD [.t (opF addD [.b 2, .b 3]), .b 4])])])) (tgN 9) (seqF (parF [10, 11] [.t (opF intD [.t (opF (geD) [.b 9, .t (opF addD [.b 2, .b 3])])]), .t (varF 9)]) <|
  seqF (forF (itRg rng1D [.t (opF addD [.t (opF mulD [.t (litF (.int 2)), .b 3]), .t (litF (.int 2))])]) (tgN 12) (seqF (asgF (opF ixD [.t (opF ixD [.b 5, .b 10]), .t (opF subD [.b 11, .t (opF mulD [.b 2, .b 10])])]) (tgN 11)) <|
  seqF (ifF (orF (bT (opF (ltD) [.b 11, .b 2])) (bT (opF (geD) [.b 11, .t (opF addD [.b 2, .b 3])]))) (brkF) (passF)) <|
  seqF (asgF (litF (.bl true)) (tgSub 6 (.b 11))) <|
  asgF (opF subD [.t (litF (.int 1)), .b 10]) (tgN 10))) <|
  dropF (mutF 7 appD [.t (ifE (bT (opF (ltD) [.b 11, .b 2])) (varF 11) (opF subD [.b 11, .b 3]))]))) <|
  seqF (forF (itRg rng2D [.b 2, .t (opF addD [.b 2, .b 3])]) (tgN 9) (seqF (asgF (opF addD [.b 8, .t (opF intD [.t (notV (opF ixD [.b 6, .b 9]))])]) (tgN 8)) <|
  seqF (asgF (varF 9) (tgN 11)) <|
  forF (itRg rng1D [.b 3]) (tgN 12) (ifF (notF (tstF (.t (opF ixD [.b 6, .b 11])))) (seqF (asgF (litF (.bl true)) (tgSub 6 (.b 11))) <|
  seqF (asgF (opF ixD [.t (opF ixD [.b 5, .t (litF (.int 0))]), .b 11]) (tgN 11)) <|
  seqF (asgF (litF (.bl true)) (tgSub 6 (.b 11))) <|
  asgF (opF ixD [.t (opF ixD [.b 5, .t (litF (.int 1))]), .t (opF subD [.b 11, .b 2])]) (tgN 11)) (passF)))) <|
  retF (tupF [.t (movF 8), .t (tupF [.t (movF 2), .t (movF 4), .t (opF tupleD [.b 7])])])
def fn_put : Fn := bodyFn 14 2 [true, true] F_put
-- slots: 0 _law_one, 1 _law_other, 2 _law_rings, 3 _law_made, 4 _law_mate
def F_paired : FS :=
  seqF (asgF (callF fn_put [.t (callF fn_flip [.b 0]), .b 1]) (tgT 2 (tgCons (tgN 2) (tgCons (tgN 3) (tgNil))))) <|
  seqF (ifF (bT (opF (neD) [.t (lcF [4] (itSeq (opF (partD false true) [.t (opF ixD [.b 3, .t (litF (.int 2))]), .t (opF ixD [.b 3, .t (litF (.int 0))])])) (tgN 4) (bT (opF (ltD) [.b 4, .t (opF ixD [.b 3, .t (litF (.int 0))])])) (varF 4)), .t (lstF [])])) (retF (opF negD [.t (litF (.int 1))])) (passF)) <|
  retF (movF 2)
def fn_paired : Fn := bodyFn 5 2 [true, true] F_paired
-- slots: 0 _law_halves_here, 1 _law_table, 2 _law_one, 3 _law_row, 4 _law_other, 5 _law_rings
def F_table_of : FS :=
  seqF (asgF (lstF []) (tgN 1)) <|
  seqF (forF (itSeq (varF 0)) (tgN 2) (seqF (asgF (lstF []) (tgN 3)) <|
  seqF (forF (itSeq (varF 0)) (tgN 4) (seqF (asgF (callF fn_paired [.b 2, .b 4]) (tgN 5)) <|
  dropF (mutF 3 appD [.t (ifE (bT (opF (ltD) [.b 5, .t (litF (.int 0))])) (tupF []) (opF addD [.t (opF mulTD [.t (tupF [.t (litF (.int 0))]), .b 5]), .t (tupF [.t (litF (.int 1))])]))]))) <|
  dropF (mutF 1 appD [.t (varF 3)]))) <|
  retF (movF 1)
def fn_table_of : Fn := bodyFn 6 1 [true] F_table_of
-- slots: 0 n
def F_p_check_size : FS :=
  ifF (bT (opF (ltD) [.b 0, .t (litF (.int 1))])) (neverF) (passF)
def fn_p_check_size : Fn := bodyFn 1 1 [true] F_p_check_size
-- slots: 0 n, 1 k
def F_p_check_halves : FS :=
  seqF (dropF (callF fn_p_check_size [.b 0])) <|
  ifF (orF (bT (opF (ltD) [.b 1, .t (litF (.int 0))])) (orF (bT (opF (gtD) [.b 1, .b 0])) (bT (opF (neD) [.t (opF modD [.t (opF subD [.b 0, .b 1]), .t (litF (.int 2))]), .t (litF (.int 0))])))) (neverF) (passF)
def fn_p_check_halves : Fn := bodyFn 2 2 [true, true] F_p_check_halves
-- slots: 0 row, 1 waiting, 2 mates, 3 peg, 4 sign, 5 below
def F_p_half_of_signs : FS :=
  seqF (parF [1, 2] [.t (lstF []), .t (opF mulD [.t (lstF [.t (litF (.int 0))]), .t (opF lenD [.b 0])])]) <|
  seqF (forF (itEnum (varF 0)) (tgT 2 (tgCons (tgN 3) (tgCons (tgN 4) (tgNil)))) (ifF (bT (opF (gtD) [.b 4, .t (litF (.int 0))])) (dropF (mutF 1 appD [.t (varF 3)])) (seqF (asgF (mutF 1 popD []) (tgSub 2 (.b 3))) <|
  asgF (varF 3) (tgSub 2 (.t (opF ixD [.b 2, .b 3])))))) <|
  seqF (forF (itEnum (varF 1)) (tgT 2 (tgCons (tgN 5) (tgCons (tgN 3) (tgNil)))) (asgF (opF addD [.t (opF lenD [.b 0]), .b 5]) (tgSub 2 (.b 3)))) <|
  retF (tupF [.t (opF lenD [.b 0]), .t (opF lenD [.b 1]), .t (opF tupleD [.t (opF addD [.b 2, .b 1])])])
def fn_p_half_of_signs : Fn := bodyFn 6 1 [true] F_p_half_of_signs
-- slots: 0 n, 1 k, 2 rows, 3 left, 4 longer, 5 row, 6 height, 7 sign, 8 _
def F_p_rows_of_signs : FS :=
  seqF (asgF (lstF [.t (tupF [.t (tupF []), .t (litF (.int 0))])]) (tgN 2)) <|
  seqF (forF (itRg rng3D [.t (opF subD [.b 0, .t (litF (.int 1))]), .t (opF negD [.t (litF (.int 1))]), .t (opF negD [.t (litF (.int 1))])]) (tgN 3) (seqF (asgF (lstF []) (tgN 4)) <|
  seqF (forF (itSeq (varF 2)) (tgT 2 (tgCons (tgN 5) (tgCons (tgN 6) (tgNil)))) (forF (itSeq (tupF [.t (litF (.int 1)), .t (opF negD [.t (litF (.int 1))])])) (tgN 7) (ifF (andF (bT (opF (geD) [.t (opF addD [.b 6, .b 7]), .t (litF (.int 0))])) (bT (opF (leD) [.t (opF absD [.t (opF subD [.t (opF addD [.b 6, .b 7]), .b 1])]), .b 3]))) (dropF (mutF 4 appD [.t (tupF [.t (opF addD [.b 5, .t (tupF [.t (varF 7)])]), .t (opF addD [.b 6, .b 7])])])) (passF)))) <|
  asgF (varF 4) (tgN 2))) <|
  retF (lcF [5, 8] (itSeq (varF 2)) (tgT 2 (tgCons (tgN 5) (tgCons (tgN 8) (tgNil)))) (yesF) (varF 5))
def fn_p_rows_of_signs : Fn := bodyFn 9 2 [true, true] F_p_rows_of_signs
-- slots: 0 n, 1 k, 2 row
def F_p_half_mats : FS :=
  seqF (dropF (callF fn_p_check_halves [.b 0, .b 1])) <|
  retF (opF sortedMD [.t (lcF [2] (itSeq (callF fn_p_rows_of_signs [.b 0, .b 1])) (tgN 2) (yesF) (callF fn_p_half_of_signs [.b 2]))])
def fn_p_half_mats : Fn := bodyFn 3 2 [true, true] F_p_half_mats
-- slots: 0 n, 1 k, 2 falls, 3 found
def F_p_how_many_halves : FS :=
  seqF (dropF (callF fn_p_check_halves [.b 0, .b 1])) <|
  seqF (asgF (opF fdivD [.t (opF subD [.b 0, .b 1]), .t (litF (.int 2))]) (tgN 2)) <|
  seqF (asgF (opF combD [.b 0, .b 2]) (tgN 3)) <|
  seqF (ifF (bT (opF (gtD) [.b 2, .t (litF (.int 0))])) (augF 3 isubD (.t (opF combD [.b 0, .t (opF subD [.b 2, .t (litF (.int 1))])]))) (passF)) <|
  retF (movF 3)
def fn_p_how_many_halves : Fn := bodyFn 4 2 [true, true] F_p_how_many_halves
-- slots: 0 n, 1 m
def F_p_round_of : FS :=
  retF (opF addD [.t (opF (lrgD rng1D) [.b 0]), .t (opF (lrgD rng3D) [.t (opF subD [.t (opF addD [.b 0, .b 1]), .t (litF (.int 1))]), .t (opF subD [.b 0, .t (litF (.int 1))]), .t (opF negD [.t (litF (.int 1))])])])
def fn_p_round_of : Fn := bodyFn 2 2 [true, true] F_p_round_of
-- slots: 0 told, 1 n, 2 m, 3 mates, 4 many, 5 peg, 6 mate, 7 waiting
def F_p_is_mat : FS :=
  seqF (asgF (varF 0) (tgT 3 (tgCons (tgN 1) (tgCons (tgN 2) (tgCons (tgN 3) (tgNil)))))) <|
  seqF (asgF (opF lenD [.b 3]) (tgN 4)) <|
  seqF (ifF (orF (bT (opF (ltD) [.b 1, .t (litF (.int 0))])) (orF (bT (opF (ltD) [.b 2, .t (litF (.int 0))])) (orF (bT (opF (neD) [.t (opF addD [.b 1, .b 2]), .b 4])) (bT (opF (eqD) [.b 4, .t (litF (.int 0))]))))) (retF (litF (.bl false))) (passF)) <|
  seqF (forF (itEnum (varF 3)) (tgT 2 (tgCons (tgN 5) (tgCons (tgN 6) (tgNil)))) (ifF (orF (bT (opF (ltD) [.b 6, .t (litF (.int 0))])) (orF (bT (opF (geD) [.b 6, .b 4])) (orF (bT (opF (eqD) [.b 6, .b 5])) (bT (opF (neD) [.t (opF ixD [.b 3, .b 6]), .b 5]))))) (retF (litF (.bl false))) (passF))) <|
  seqF (asgF (lstF []) (tgN 7)) <|
  seqF (forF (itSeq (callF fn_p_round_of [.b 1, .b 2])) (tgN 5) (ifF (andF (bT (opF (neD) [.b 7, .t (lstF [])])) (bT (opF (eqD) [.t (opF ixD [.b 7, .t (opF negD [.t (litF (.int 1))])]), .t (opF ixD [.b 3, .b 5])]))) (dropF (mutF 7 popD [])) (dropF (mutF 7 appD [.t (varF 5)])))) <|
  retF (opF (eqD) [.b 7, .t (lstF [])])
def fn_p_is_mat : Fn := bodyFn 8 1 [true] F_p_is_mat
-- slots: 0 mat
def F_p_checked_mat : FS :=
  seqF (ifF (notF (tstF (.t (callF fn_p_is_mat [.b 0])))) (neverF) (passF)) <|
  retF (varF 0)
def fn_p_checked_mat : Fn := bodyFn 1 1 [true] F_p_checked_mat
-- slots: 0 mat, 1 n, 2 m, 3 mates, 4 mate
def F_p_through : FS :=
  seqF (asgF (callF fn_p_checked_mat [.b 0]) (tgT 3 (tgCons (tgN 1) (tgCons (tgN 2) (tgCons (tgN 3) (tgNil)))))) <|
  retF (opF lenD [.t (lcF [4] (itSeq (opF (partD false true) [.b 3, .b 1])) (tgN 4) (bT (opF (geD) [.b 4, .b 1])) (varF 4))])
def fn_p_through : Fn := bodyFn 5 1 [true] F_p_through
-- slots: 0 mat
def F_p_check_half : FS :=
  ifF (bT (opF (neD) [.t (callF fn_p_through [.t (callF fn_p_checked_mat [.b 0])]), .t (opF ixD [.b 0, .t (litF (.int 1))])])) (neverF) (passF)
def fn_p_check_half : Fn := bodyFn 1 1 [true] F_p_check_half
-- slots: 0 above, 1 below
def F_p_check_pair : FS :=
  ifF (bT (opF (neD) [.b 0, .b 1])) (neverF) (passF)
def fn_p_check_pair : Fn := bodyFn 2 2 [true, true] F_p_check_pair
-- slots: 0 one, 1 other, 2 peg, 3 passed, 4 n, 5 middle, 6 ahead, 7 at
def F_p_far_end : FS :=
  seqF (parF [4, 5] [.t (opF ixD [.b 0, .t (litF (.int 0))]), .t (opF ixD [.b 0, .t (litF (.int 1))])]) <|
  seqF (asgF (opF (ltD) [.b 2, .b 4]) (tgN 6)) <|
  seqF (asgF (ifE (tstF (.b 6)) (opF ixD [.t (opF ixD [.b 0, .t (litF (.int 2))]), .b 2]) (opF ixD [.t (opF ixD [.b 1, .t (litF (.int 2))]), .t (opF subD [.t (opF addD [.b 5, .b 2]), .b 4])])) (tgN 7)) <|
  whF FUEL (tstF (.t (litF (.bl true)))) (seqF (ifF (tstF (.b 6)) (seqF (ifF (bT (opF (ltD) [.b 7, .b 4])) (retF (movF 7)) (passF)) <|
  seqF (augF 7 isubD (.b 4)) <|
  seqF (asgF (litF (.bl true)) (tgSub 3 (.b 7))) <|
  asgF (opF ixD [.t (opF ixD [.b 1, .t (litF (.int 2))]), .b 7]) (tgN 7)) (seqF (ifF (bT (opF (geD) [.b 7, .b 5])) (retF (opF subD [.t (opF addD [.b 4, .b 7]), .b 5])) (passF)) <|
  seqF (asgF (litF (.bl true)) (tgSub 3 (.b 7))) <|
  asgF (opF ixD [.t (opF ixD [.b 0, .t (litF (.int 2))]), .t (opF addD [.b 4, .b 7])]) (tgN 7))) <|
  asgF (notV (varF 6)) (tgN 6))
def fn_p_far_end : Fn := bodyFn 8 4 [true, true, true, true] F_p_far_end
-- slots: 0 one, 1 other, 2 passed, 3 n, 4 rings, 5 start, 6 at
def F_p_loose_rings : FS :=
  seqF (asgF (opF ixD [.b 0, .t (litF (.int 0))]) (tgN 3)) <|
  seqF (asgF (litF (.int 0)) (tgN 4)) <|
  seqF (forF (itRg rng1D [.t (opF ixD [.b 0, .t (litF (.int 1))])]) (tgN 5) (ifF (notF (tstF (.t (opF ixD [.b 2, .b 5])))) (seqF (augF 4 iaddD (.t (litF (.int 1)))) <|
  seqF (asgF (varF 5) (tgN 6)) <|
  whF FUEL (notF (tstF (.t (opF ixD [.b 2, .b 6])))) (seqF (asgF (litF (.bl true)) (tgSub 2 (.b 6))) <|
  seqF (asgF (opF subD [.t (opF ixD [.t (opF ixD [.b 0, .t (litF (.int 2))]), .t (opF addD [.b 3, .b 6])]), .b 3]) (tgN 6)) <|
  seqF (asgF (litF (.bl true)) (tgSub 2 (.b 6))) <|
  asgF (opF ixD [.t (opF ixD [.b 1, .t (litF (.int 2))]), .b 6]) (tgN 6))) (passF))) <|
  retF (movF 4)
def fn_p_loose_rings : Fn := bodyFn 7 3 [true, true, true] F_p_loose_rings
-- slots: 0 one, 1 other, 2 n, 3 k, 4 passed, 5 mates, 6 peg
def F_p_put_behind : FS :=
  seqF (parF [2, 3] [.t (opF ixD [.b 0, .t (litF (.int 0))]), .t (opF ixD [.b 1, .t (litF (.int 1))])]) <|
  seqF (asgF (opF mulD [.t (lstF [.t (litF (.bl false))]), .t (opF ixD [.b 0, .t (litF (.int 1))])]) (tgN 4)) <|
  seqF (asgF (lstF []) (tgN 5)) <|
  seqF (forF (itRg rng1D [.t (opF addD [.b 2, .b 3])]) (tgN 6) (dropF (mutF 5 appD [.t (callF fn_p_far_end [.b 0, .b 1, .b 6, .b 4])]))) <|
  retF (tupF [.t (callF fn_p_loose_rings [.b 0, .b 1, .b 4]), .t (movF 2), .t (movF 3), .t (opF tupleD [.b 5])])
def fn_p_put_behind : Fn := bodyFn 7 2 [true, true] F_p_put_behind
-- slots: 0 ahead, 1 other, 2 rings, 3 n, 4 m, 5 mates, 6 mate
def F_p_paired : FS :=
  seqF (asgF (callF fn_p_put_behind [.b 0, .b 1]) (tgT 4 (tgCons (tgN 2) (tgCons (tgN 3) (tgCons (tgN 4) (tgCons (tgN 5) (tgNil))))))) <|
  seqF (ifF (tstF (.t (opF allD [.t (lcF [6] (itSeq (opF (partD false true) [.b 5, .b 3])) (tgN 6) (yesF) (opF (geD) [.b 6, .b 3]))]))) (retF (opF addD [.t (opF mulTD [.t (tupF [.t (litF (.int 0))]), .b 2]), .t (tupF [.t (litF (.int 1))])])) (passF)) <|
  retF (tupF [])
def fn_p_paired : Fn := bodyFn 7 2 [true, true] F_p_paired
-- slots: 0 n, 1 m, 2 mates, 3 place, 4 row, 5 peg, 6 mate
def F_p_remade : FS :=
  seqF (asgF (opF mulD [.t (lstF [.t (litF (.int 0))]), .t (opF addD [.b 0, .b 1])]) (tgN 4)) <|
  seqF (forF (itEnum (varF 2)) (tgT 2 (tgCons (tgN 5) (tgCons (tgN 6) (tgNil)))) (asgF (opF ixD [.b 3, .b 6]) (tgSub 4 (.t (opF ixD [.b 3, .b 5]))))) <|
  retF (tupF [.t (varF 0), .t (varF 1), .t (opF tupleD [.b 4])])
def fn_p_remade : Fn := bodyFn 7 4 [true, true, true, true] F_p_remade
-- slots: 0 mat, 1 n, 2 m, 3 mates
def F_p_upside_down : FS :=
  seqF (asgF (callF fn_p_checked_mat [.b 0]) (tgT 3 (tgCons (tgN 1) (tgCons (tgN 2) (tgCons (tgN 3) (tgNil)))))) <|
  retF (callF fn_p_remade [.b 2, .b 1, .b 3, .t (opF addD [.t (opF (lrgD rng2D) [.b 2, .t (opF addD [.b 2, .b 1])]), .t (opF (lrgD rng1D) [.b 2])])])
def fn_p_upside_down : Fn := bodyFn 4 1 [true] F_p_upside_down
-- slots: 0 one, 1 other
def F_p_pairing : FS :=
  seqF (dropF (callF fn_p_check_half [.b 0])) <|
  seqF (dropF (callF fn_p_check_half [.b 1])) <|
  seqF (dropF (callF fn_p_check_pair [.t (opF ixD [.b 0, .t (litF (.int 0))]), .t (opF ixD [.b 1, .t (litF (.int 0))])])) <|
  seqF (dropF (callF fn_p_check_pair [.t (opF ixD [.b 0, .t (litF (.int 1))]), .t (opF ixD [.b 1, .t (litF (.int 1))])])) <|
  retF (callF fn_p_paired [.t (callF fn_p_upside_down [.b 0]), .b 1])
def fn_p_pairing : Fn := bodyFn 2 2 [true, true] F_p_pairing
-- slots: 0 n, 1 k, 2 halves, 3 table, 4 one, 5 ahead, 6 other
def F_p_pairing_table : FS :=
  seqF (asgF (callF fn_p_half_mats [.b 0, .b 1]) (tgN 2)) <|
  seqF (asgF (lstF []) (tgN 3)) <|
  seqF (forF (itSeq (varF 2)) (tgN 4) (seqF (asgF (callF fn_p_upside_down [.b 4]) (tgN 5)) <|
  dropF (mutF 3 appD [.t (lcF [6] (itSeq (varF 2)) (tgN 6) (yesF) (callF fn_p_paired [.b 5, .b 6]))]))) <|
  retF (movF 3)
def fn_p_pairing_table : Fn := bodyFn 7 2 [true, true] F_p_pairing_table
-- slots: 0 _law_well_here, 1 _law_n, 2 _law_named, 3 _law_k, 4 _law_halves_here, 5 _law_due, 6 _law_size, 7 _law_found, 8 _law_row, 9 _law_column, 10 _law_told
def F_right : FS :=
  seqF (asgF (opF addD [.t (opF modD [.t (opF intD [.b 1]), .t (litF (.int 2))]), .t (opF mulD [.t (litF (.int 2)), .t (callF fn_draw [.b 0, .t (opF addD [.t (opF fdivD [.b 1, .t (litF (.int 2))]), .t (litF (.int 1))])])])]) (tgN 3)) <|
  seqF (asgF (callF fn_halves [.b 1, .b 3]) (tgN 4)) <|
  seqF (parF [5, 6] [.t (callF fn_table_of [.b 4]), .t (opF lenD [.b 4])]) <|
  seqF (asgF (ifE (tstF (.b 2)) (callKF fn_p_pairing_table [1, 0] [.b 3, .b 1]) (callF fn_p_pairing_table [.b 1, .b 3])) (tgN 7)) <|
  seqF (ifF (lendB (orF (notF (tstF (.t (callF fn_same [.b 7, .b 5])))) (notF (tstF (.t (callF fn_same [.t (callF fn_p_how_many_halves [.b 1, .b 3]), .b 6])))))) (retF (lendF (litF (.bl false)))) (passF)) <|
  seqF (parF [8, 9] [.t (callF fn_draw [.b 0, .b 6]), .t (callF fn_draw [.b 0, .b 6])]) <|
  seqF (ifF (lendB (notF (tstF (.t (callF fn_same [.t (callF fn_p_pairing [.t (opF ixD [.b 4, .b 8]), .t (opF ixD [.b 4, .b 9])]), .t (opF ixD [.t (opF ixD [.b 5, .b 8]), .b 9])]))))) (retF (lendF (litF (.bl false)))) (passF)) <|
  seqF (asgF (callKF fn_p_half_mats [0, 1] [.b 1, .b 3]) (tgN 10)) <|
  seqF (ifF (lendB (notF (tstF (.t (callF fn_same [.t (callF fn_p_pairing [.t (opF ixD [.b 10, .b 9]), .t (opF ixD [.b 10, .b 8])]), .t (opF ixD [.t (opF ixD [.b 7, .b 8]), .b 9])]))))) (retF (lendF (litF (.bl false)))) (passF)) <|
  seqF (ifF (notF (tstF (.t (callF fn_changed [.b 7, .b 5, .b 8, .b 9])))) (retF (lendF (litF (.bl false)))) (passF)) <|
  seqF (dropF (mutF 7 popAtD [.t (callF fn_draw [.b 0, .b 6])])) <|
  retF (lendF (orV (opF (gtD) [.b 1, .t (litF (.int 6))]) (callF fn_same [.t (frzF (callF fn_p_pairing_table [.b 1, .b 3])), .b 5])))
def fn_right : Fn := bodyFn 11 3 [true, true, true] F_right
-- slots: 0 _law_script, 1 _law_great, 2 _law_mark, 3 _law_place, 4 _law_cell
def F_well : FS :=
  seqF (parF [1, 2] [.t (lstF []), .t (litF (.int 30011))]) <|
  seqF (forF (itRg rng1D [.t (opF lenD [.b 0])]) (tgN 3) (seqF (asgF (opF ixD [.b 0, .b 3]) (tgN 4)) <|
  ifF (bT (opF (geD) [.b 4, .t (opF powD [.t (litF (.int 10)), .t (litF (.int 18))])])) (dropF (mutF 1 insD [.t (litF (.int 0)), .t (opF subD [.b 4, .t (opF powD [.t (litF (.int 10)), .t (litF (.int 18))])])])) (asgF (opF addD [.t (opF modD [.t (opF intD [.t (opF powD [.t (opF addD [.b 2, .t (opF mulD [.t (opF addD [.b 3, .t (litF (.int 3))]), .t (opF modD [.t (opF intD [.b 4]), .t (litF (.int 1000000000061))])])]), .t (litF (.int 3))])]), .t (litF (.int 2305843009213693951))]), .t (litF (.int 1))]) (tgN 2)))) <|
  retF (lstF [.t (movF 1), .t (litF (.int 0)), .t (movF 2), .t (litF (.int 0))])
def fn_well : Fn := bodyFn 5 1 [true] F_well
-- slots: 0 _law_script, 1 _law_well_here, 2 _law_turn, 3 _law_n
def F_law : FS :=
  seqF (asgF (callF fn_well [.b 0]) (tgN 1)) <|
  seqF (forF (itRg rng1D [.t (litF (.int 3))]) (tgN 2) (seqF (asgF (opF addD [.t (litF (.int 1)), .t (opF ixD [.t (lstF [.t (callF fn_draw [.b 1, .t (litF (.int 6))]), .t (callF fn_draw [.b 1, .t (litF (.int 6))]), .t (callF fn_draw [.b 1, .t (opF ixD [.t (lstF [.t (litF (.int 8)), .t (litF (.int 6)), .t (litF (.int 6))]), .b 2])])]), .t (opF fdivD [.t (callF fn_draw [.b 1, .t (litF (.int 6))]), .t (litF (.int 2))])])]) (tgN 3)) <|
  ifF (notF (tstF (.t (callF fn_right [.b 1, .b 3, .t (opF (eqD) [.t (callF fn_draw [.b 1, .t (litF (.int 2))]), .t (litF (.int 1))])])))) (retF (litF (.bl false))) (passF))) <|
  retF (litF (.bl true))
def fn_law : Fn := bodyFn 4 1 [true] F_law
end VS
set_option Elab.async false
set_option linter.all false
set_option maxRecDepth 100000
namespace VS
open PySem PySem.Spec PyProof.Rows L2 RZ
theorem powOk_of {a n : Int} (h0 : 0 ≤ n) (h1 : n ≤ 100) (h2 : a.natAbs < 2 ^ 100000) : powOk a n = true := by
  unfold powOk
  have hb : (Builtin.Int.intBits a : Nat) ≤ 100001 := by
    unfold Builtin.Int.intBits
    split
    · omega
    · rename_i h
      have h : a.natAbs ≠ 0 := by simp at h; omega
      have : a.natAbs.log2 < 100000 := (Nat.log2_lt h).mpr h2
      omega
  simp only [Bool.and_eq_true, decide_eq_true_eq]
  refine ⟨h0, ?_⟩
  have : (Builtin.Int.intBits a : Int) ≤ 100001 := by omega
  have : (Builtin.Int.intBits a : Int) * n ≤ 100001 * n := Int.mul_le_mul_of_nonneg_right this h0
  omega
theorem lt_pow100 {a : Nat} (h : a < 2 ^ 1000) : a < 2 ^ 100000 := Nat.lt_of_lt_of_le h (Nat.pow_le_pow_right (by decide) (by decide))
@[simp] theorem powOk_10_43 : powOk 10 43 = true := by decide +kernel
@[simp] theorem powOk_10_41 : powOk 10 41 = true := by decide +kernel
@[simp] theorem powOk_10_7 : powOk 10 7 = true := by decide +kernel
@[simp] theorem powOk_10_18 : powOk 10 18 = true := by decide +kernel
@[simp] theorem powOk_10_33 : powOk 10 33 = true := by decide +kernel
theorem fmod_in {a b : Int} (h : 0 < b) : 0 ≤ a.fmod b ∧ a.fmod b < b := ⟨Int.fmod_nonneg_of_pos a h, Int.fmod_lt_of_pos a h⟩
def natD (i : Nat) : D := .int (i : Nat)
def spD (s : Nat × Nat) : D := .tup [.int (s.1 : Nat), .int (s.2 : Nat)]
def prD (p : (Nat × Nat) × (Nat × Nat)) : D := .tup [spD p.1, spD p.2]
@[simp] theorem noOwn_natD (i : Nat) : noOwn (natD i) = true := by simp [natD]
@[simp] theorem noOwn_spD (s : Nat × Nat) : noOwn (spD s) = true := by simp [spD]
@[simp] theorem noOwn_prD (p : (Nat × Nat) × (Nat × Nat)) : noOwn (prD p) = true := by simp [prD]
@[simp] theorem noOwns_natDs (xs : List Nat) : noOwns (xs.map natD) = true := noOwns_map noOwn_natD xs
@[simp] theorem noOwns_spDs (xs : List (Nat × Nat)) : noOwns (xs.map spD) = true := noOwns_map noOwn_spD xs
@[simp] theorem noOwns_prDs (xs : List ((Nat × Nat) × (Nat × Nat))) : noOwns (xs.map prD) = true := noOwns_map noOwn_prD xs
@[simp] theorem freezes_natDs (xs : List Nat) : freezes (xs.map natD) = xs.map natD := freezes_of (noOwns_natDs xs)
@[simp] theorem freezes_spDs (xs : List (Nat × Nat)) : freezes (xs.map spD) = xs.map spD := freezes_of (noOwns_spDs xs)
@[simp] theorem freezes_prDs (xs : List ((Nat × Nat) × (Nat × Nat))) : freezes (xs.map prD) = xs.map prD := freezes_of (noOwns_prDs xs)
theorem intsTo_natD (n : Nat) : intsTo 0 n = (List.range n).map natD := intsTo_map n
theorem goLc_mapI {α : Type} {vs : List Nat} {fg : D → Env → Option Env} {fe : FE} {ρ : Env} (enc e : α → D) (xs : List α) (h : ∀ x ∈ xs, lcTurn vs fg fe (enc x) ρ = some (e x, ρ)) : goLc vs fg yesF fe (xs.map enc) ρ = some (xs.map e, ρ) := by
  induction xs with
  | nil => rfl
  | cons x xs ih =>
    have h1 := h x (by simp)
    unfold lcTurn bd at h1
    show (fg (enc x) ρ).bind _ = _
    cases hg : fg (enc x) ρ with
    | none => rw [hg] at h1; cases h1
    | some ρ1 =>
      rw [hg] at h1
      simp only [Option.bind_some] at h1 ⊢
      show ((some (true, ρ1) : Option (Bool × Env)).bind _) = _
      simp only [Option.bind_some, if_true]
      cases hf : fe ρ1 with
      | none => rw [hf] at h1; cases h1
      | some q =>
        rw [hf] at h1
        simp only [Option.bind_some, Option.some.injEq, Prod.mk.injEq] at h1 ⊢
        rw [h1.2, ih fun d hd => h d (by simp [hd])]
        simp [h1.1]
theorem intsBy_down (lo : Int) (n : Nat) : intsBy lo (-1) n = (List.range n).map fun i => D.int (lo - (i : Nat)) := by
  unfold intsBy
  apply List.map_congr_left
  intro i _
  congr 1
  omega
theorem range_rev' (n : Nat) : (List.range n).reverse = (List.range n).map fun i => n - 1 - i := (range_rev n).symm
theorem intsBy_rev (lo n : Nat) : intsBy ((lo : Int) + n - 1) (-1) n = (List.range n).reverse.map fun i => natD (lo + i) := by
  rw [intsBy_down, range_rev', List.map_map]
  apply List.map_congr_left
  intro i hi
  have := List.mem_range.mp hi
  simp only [Function.comp_apply, natD]
  congr 1
  omega
theorem rng1_nat {u : Nat} (hu : u ≤ 100000) : rng1D [.int (u : Nat)] = some ((List.range u).map natD) := by
  rw [rng1D_e (by omega) (by omega), Int.toNat_natCast, intsTo_natD]
theorem rng3_down {lo n : Nat} {i j : Int} (hl : lo ≤ 100000) (hn : n ≤ 100000) (hi : i = lo + n - 1) (hj : j = lo - 1) : rng3D [.int i, .int j, .int (-1)] = some ((List.range n).reverse.map fun i => natD (lo + i)) := by
  rw [rng3D_e (by omega) (by omega) (by omega) (by omega), ← intsBy_rev, hi, hj]
  have e2 : ((lo : Int) + n - 1 - (lo - 1)).toNat = n := by omega
  rw [e2]
theorem small_le {n : Nat} (h : n ≤ 100000) : decide (n ≤ smallL) = true := decide_eq_true h
theorem atI_mapN {α : Type} {f : α → D} {xs : List α} {i : Nat} {z : α} (h : i < xs.length) : atI (xs.map f) (i : Nat) = some (f (xs.getD i z)) :=
  atI_nat (by simp [h])
theorem natD_i (i : Nat) : natD i = .int (i : Nat) := rfl
def bodyP : FS := (seqF (asgF (callF fn_draw [.b 0, .t (opF subD [.t (opF lenD [.b 3]), .t (litF (.int 1))])]) (tgN 7)) <|
  dropF (mutF 5 appD [.t (tupF [.t (mutF 3 popAtD [.t (varF 7)]), .t (mutF 3 popAtD [.t (varF 7)])])]))
theorem map_setN (xs : List Nat) (i j : Nat) : (xs.map natD).set i (.int (j : Nat)) = (xs.set i j).map natD := by
  rw [List.map_set]; rfl
theorem isiD_l_tup (xs : List D) : isiD "list" [.tup xs] = some (.bl false) := rfl
theorem isiD_l_lst (o : Bool) (xs : List D) : isiD "list" [.lst o xs] = some (.bl true) := rfl
theorem isiD_s_int (i : Int) : isiD "str" [.int i] = some (.bl false) := rfl
theorem isiD_i_int (i : Int) : isiD "int" [.int i] = some (.bl true) := rfl
theorem same_pins (n : Nat) : (fn_same_at n).pins = [true, true] := by cases n <;> rfl
/-! what may be compared -/
def EqB (k : Nat) (d : D) : Prop := noTy d = true ∧ (pyD d).canLay0 = true ∧ (pyD d).depth ≤ k
theorem EqB.ok {k : Nat} {d : D} (h : EqB k d) (hk : k ≤ 64) : eqOk d = true := by
  unfold eqOk SeqAt.shaped
  rw [h.1, h.2.1]
  simp
  exact Nat.le_trans h.2.2 hk
theorem EqB.all {k : Nat} : ∀ {xs : List D}, (∀ x ∈ xs, EqB k x) → noTys xs = true ∧ PyData.canLayAll0 (pyDs xs) = true ∧ PyData.depthAll (pyDs xs) ≤ k
  | [], _ => ⟨by simp [noTys], by simp [pyDs, PyData.canLayAll0], by simp [pyDs, PyData.depthAll]⟩
  | x :: xs, h => by
    obtain ⟨a, b, c⟩ := h x (by simp)
    obtain ⟨a', b', c'⟩ := EqB.all (xs := xs) fun y hy => h y (by simp [hy])
    refine ⟨by simp [noTys, a, a'], by simp [pyDs, PyData.canLayAll0, b, b'], ?_⟩
    simp only [pyDs, PyData.depthAll]
    omega
theorem EqB.int {k : Nat} (i : Int) : EqB k (.int i) := ⟨rfl, rfl, Nat.zero_le _⟩
theorem EqB.bl {k : Nat} (i : Bool) : EqB k (.bl i) := ⟨rfl, rfl, Nat.zero_le _⟩
theorem EqB.non {k : Nat} : EqB k .non := ⟨rfl, rfl, Nat.zero_le _⟩
theorem EqB.lst {k : Nat} {o : Bool} {xs : List D} (h : ∀ x ∈ xs, EqB k x) : EqB (k + 1) (.lst o xs) := by
  obtain ⟨a, b, c⟩ := EqB.all h
  exact ⟨by simp [noTy, a], by simp [pyD, PyData.canLay0, b], by simp only [pyD, PyData.depth]; omega⟩
theorem EqB.tup {k : Nat} {xs : List D} (h : ∀ x ∈ xs, EqB k x) : EqB (k + 1) (.tup xs) := by
  obtain ⟨a, b, c⟩ := EqB.all h
  exact ⟨by simp [noTy, a], by simp [pyD, PyData.canLay0, b], by simp only [pyD, PyData.depth]; omega⟩
theorem eqB_nats (xs : List Nat) : ∀ x ∈ xs.map natD, EqB 0 x := fun x hx => by
  obtain ⟨i, _, rfl⟩ := List.mem_map.mp hx
  exact .int _
theorem eqOk_nats (o : Bool) (xs : List Nat) : eqOk (.lst o (xs.map natD)) = true := (EqB.lst (eqB_nats xs)).ok (by omega)
theorem eqOk_emp (o : Bool) : eqOk (.lst o []) = true := eqOk_nats o []
theorem deq_emp (o o' : Bool) (xs : List D) : deq (.lst o xs) (.lst o' []) = xs.isEmpty := by
  unfold deq
  cases xs <;> simp [pyD, pyDs, PyData.eqv, PyData.eqvAll]
/-! the pegs round about -/
theorem atI_last {α : Type} (xs : List α) (x : α) : atI (xs ++ [x]) (-1) = some x := by
  refine atI_neg (by omega) (by rw [List.length_append, List.length_singleton]; omega) ?_
  have : (-1 + ((xs ++ [x]).length : Nat) : Int).toNat = xs.length := by rw [List.length_append, List.length_singleton]; omega
  rw [this]
  simp
theorem enum_get {row : List Nat} {i : Nat} {d : D} (h : (enumL (row.map natD))[i]? = some d) : ∃ j, row[i]? = some j ∧ d = .tup [.int (i : Nat), .int (j : Nat)] := by
  unfold enumL at h
  rw [List.getElem?_map] at h
  obtain ⟨q, h1, rfl⟩ := Option.map_eq_some_iff.mp h
  obtain ⟨h2, h3⟩ := List.getElem?_zip_eq_some.mp h1
  rw [List.getElem?_map] at h3
  obtain ⟨j, h4, h5⟩ := Option.map_eq_some_iff.mp h3
  rw [intsTo_map, List.getElem?_map] at h2
  obtain ⟨k, h6, h7⟩ := Option.map_eq_some_iff.mp h2
  have : k = i := by
    have := (List.getElem?_eq_some_iff.mp h6).2
    simpa using this.symm
  subst this
  refine ⟨j, h4, ?_⟩
  rw [← h5, ← h7]
  rfl
def bodyI1 : FS := (ifF (orF (bT (opF ltD [.b 6, .t (litF (.int 0))])) (orF (bT (opF geD [.b 6, .b 4])) (orF (bT (opF eqD [.b 6, .b 5])) (bT (opF neD [.t (opF ixD [.b 3, .b 6]), .b 5]))))) (retF (litF (.bl false))) (passF))
def bodyI2 : FS := (ifF (andF (bT (opF neD [.b 7, .t (lstF [])])) (bT (opF eqD [.t (opF ixD [.b 7, .t (opF negD [.t (litF (.int 1))])]), .t (opF ixD [.b 3, .b 5])]))) (dropF (mutF 7 popD [])) (dropF (mutF 7 appD [.t (varF 5)])))
theorem is_mat_l1 {n m : Nat} {row : List Nat} (h : IsMat n m row) {t a b c : Option D} : ∃ a' b', goFor (tgT 2 (tgCons (tgN 5) (tgCons (tgN 6) (tgNil)))) bodyI1 (enumL (row.map natD)) [t, some (.int (n : Nat)), some (.int (m : Nat)), some (.tup (row.map natD)), some (.int ((row.map natD).length : Nat)), a, b, c] =
    some (.nx [t, some (.int (n : Nat)), some (.int (m : Nat)), some (.tup (row.map natD)), some (.int ((row.map natD).length : Nat)), a', b', c]) := by
  obtain ⟨ρ', h1, a', b', rfl⟩ := for_inv (tg := (tgT 2 (tgCons (tgN 5) (tgCons (tgN 6) (tgNil))))) (body := bodyI1) (ds := enumL (row.map natD)) (ρ := [t, some (.int (n : Nat)), some (.int (m : Nat)), some (.tup (row.map natD)), some (.int ((row.map natD).length : Nat)), a, b, c])
    (fun _ ρ => ∃ a' b', ρ = [t, some (.int (n : Nat)), some (.int (m : Nat)), some (.tup (row.map natD)), some (.int ((row.map natD).length : Nat)), a', b', c]) ⟨a, b, rfl⟩ (by
      rintro i d ρ hd ⟨a', b', rfl⟩
      obtain ⟨j, hj, rfl⟩ := enum_get hd
      obtain ⟨l1, l2, l3⟩ := h.lt i j hj
      refine ⟨_, .inl ?_, some (.int (i : Nat)), some (.int (j : Nat)), rfl⟩
      have x1 : atI (row.map natD) (j : Nat) = some (natD i) := atI_nat (by rw [List.getElem?_map, l3]; rfl)
      have x2 : (row.map natD).length = n + m := by rw [List.length_map, h.len]
      obtain ⟨X, hX⟩ : ∃ X, X = row.map natD := ⟨_, rfl⟩
      rw [← hX] at x1 x2 ⊢
      rw [natD_i] at x1
      have c1 : ¬ ((j : Int) < 0) := by omega
      have c2 : ¬ (X.length ≤ j) := by omega
      rw [turn_e]
      unfold bodyI1
      have c3 : ¬ ((j : Int) = (i : Int)) := by omega
      simp [x1, c1, c2, c3])
  exact ⟨a', b', h1⟩
theorem is_mat_l2 {n m : Nat} {row : List Nat} (h : IsMat n m row) (hl : n + m ≤ 2000) {t a b many nn mm : Option D} : ∃ a' b', goFor (tgN 5) bodyI2 ((roundL n m).map natD) [t, nn, mm, some (.tup (row.map natD)), many, a, b, some (.lst true [])] =
    some (.nx [t, nn, mm, some (.tup (row.map natD)), many, a', b', some (.lst true [])]) := by
  obtain ⟨ρ', h1, a', rfl⟩ := for_inv (tg := tgN 5) (body := bodyI2) (ds := (roundL n m).map natD) (ρ := [t, nn, mm, some (.tup (row.map natD)), many, a, b, some (.lst true [])])
    (fun i ρ => ∃ a', ρ = [t, nn, mm, some (.tup (row.map natD)), many, a', b, some (.lst true ((red (fun i => row.getD i 0) [] ((roundL n m).take i)).reverse.map natD))]) ⟨a, rfl⟩ (by
      rintro i d ρ hd ⟨a', rfl⟩
      rw [List.getElem?_map] at hd
      obtain ⟨x, hx, rfl⟩ := Option.map_eq_some_iff.mp hd
      have hxl : x < row.length := by rw [h.len]; exact mem_roundL.mp (List.mem_of_getElem? hx)
      have ht : (roundL n m).take (i + 1) = (roundL n m).take i ++ [x] := by
        rw [List.take_add_one, hx]; rfl
      have hi : i < n + m := by
        have := (List.getElem?_eq_some_iff.mp hx).1
        rw [(roundL_perm n m).length_eq, List.length_range] at this
        exact this
      have x1 : atI (row.map natD) (x : Nat) = some (natD (row.getD x 0)) := atI_mapN hxl
      have hlen : (red (fun i => row.getD i 0) [] ((roundL n m).take i)).length ≤ i := by
        have : ∀ (l s : List Nat), (red (fun i => row.getD i 0) s l).length ≤ s.length + l.length := by
          intro l
          induction l with
          | nil => intro s; exact Nat.le_refl _
          | cons y l ih =>
            intro s
            rw [red_cons]
            have := ih (push (fun i => row.getD i 0) s y)
            have : (push (fun i => row.getD i 0) s y).length ≤ s.length + 1 := by
              cases s with
              | nil => exact Nat.le_refl _
              | cons t s => rw [push_cons]; split <;> simp <;> omega
            simp only [List.length_cons]
            omega
        have := this ((roundL n m).take i) []
        rw [List.length_take, List.length_nil] at this
        omega
      obtain ⟨Y, hY⟩ : ∃ Y, Y = row.map natD := ⟨_, rfl⟩
      rw [← hY] at x1 ⊢
      rw [ht, red_append, red_cons]
      obtain ⟨s, hs⟩ : ∃ s, s = red (fun i => row.getD i 0) [] ((roundL n m).take i) := ⟨_, rfl⟩
      rw [← hs] at hlen ⊢
      obtain ⟨fx, hfx⟩ : ∃ fx, fx = row.getD x 0 := ⟨_, rfl⟩
      rw [← hfx] at x1
      rw [natD_i] at x1 ⊢
      cases s with
      | nil =>
        refine ⟨_, .inl ?_, some (.int (x : Nat)), rfl⟩
        have pa : appD [] [.int (x : Nat)] = some (.non, [.int (x : Nat)]) := appD_e _ (by simp)
        rw [turn_e]
        unfold bodyI2
        simp [eqOk_emp, deq_emp, pa, small_le, push, red, natD]
      | cons tp s =>
        have hz : ((tp :: s).reverse.map natD) = s.reverse.map natD ++ [.int (tp : Nat)] := by simp [natD]
        have x2 : atI ((tp :: s).reverse.map natD) (-1) = some (.int (tp : Nat)) := by rw [hz, atI_last]
        have x3 := eqOk_nats true (tp :: s).reverse
        have x4 : ((tp :: s).reverse.map natD).isEmpty = false := by simp
        have x5 : appD ((tp :: s).reverse.map natD) [.int (x : Nat)] = some (.non, (x :: tp :: s).reverse.map natD) := by
          rw [appD_e _ (by rw [List.length_map, List.length_reverse]; omega)]
          simp [natD]
        have x6 : popD ((tp :: s).reverse.map natD) [] = some (.int (tp : Nat), s.reverse.map natD) := by rw [hz, popD_e]
        obtain ⟨Z, hZ⟩ : ∃ Z, Z = (tp :: s).reverse.map natD := ⟨_, rfl⟩
        rw [← hZ] at x2 x3 x4 x5 x6 ⊢
        have hred : red (fun i => row.getD i 0) (push (fun i => row.getD i 0) (tp :: s) x) [] = if tp = fx then s else x :: tp :: s := by
          show push (fun i => row.getD i 0) (tp :: s) x = _
          rw [push_cons, hfx]
        rw [hred]
        obtain ⟨U, hU⟩ : ∃ U, U = (x :: tp :: s).reverse.map natD := ⟨_, rfl⟩
        rw [← hU] at x5
        by_cases e : tp = fx
        · refine ⟨_, .inl ?_, some (.int (x : Nat)), rfl⟩
          rw [turn_e, if_pos e]
          unfold bodyI2
          simp [x1, x2, x3, x4, x6, eqOk_emp, deq_emp, small_le, e, -List.map_reverse]
        · refine ⟨_, .inl ?_, some (.int (x : Nat)), rfl⟩
          rw [turn_e, if_neg e, ← hU]
          unfold bodyI2
          have e' : ¬ ((tp : Int) = (fx : Int)) := by omega
          simp [x1, x2, x3, x4, x5, eqOk_emp, deq_emp, small_le, e'])
  have hfin : red (fun i => row.getD i 0) [] (roundL n m) = [] := h.nc.red (roundL_nodup n m)
  refine ⟨a', b, ?_⟩
  rw [h1, List.length_map, List.take_of_length_le (Nat.le_refl _), hfin]
  rfl
theorem getD_app {xs ys : List Nat} {i : Nat} : (xs ++ ys).getD i 0 = if i < xs.length then xs.getD i 0 else ys.getD (i - xs.length) 0 := by
  simp only [List.getD_eq_getElem?_getD]
  split
  · rename_i h; rw [List.getElem?_append_left h]
  · rename_i h; rw [List.getElem?_append_right (by omega)]
theorem getD_range {n i : Nat} (h : i < n) : (List.range n).getD i 0 = i := by simp [h]
theorem getD_rangeA {n k i : Nat} (h : i < n) : ((List.range n).map fun i => k + i).getD i 0 = k + i := by simp [h]
def upL (n m : Nat) : List Nat := ((List.range n).map fun i => m + i) ++ List.range m
theorem upL_get {n m i : Nat} (h : i < n + m) : (upL n m).getD i 0 = if i < n then m + i else i - n := by
  unfold upL
  rw [getD_app]
  simp only [List.length_map, List.length_range]
  split
  · rename_i h; rw [getD_rangeA h]
  · rw [getD_range (by omega)]
def leL (n m : Nat) : List Nat := (List.range n).reverse ++ (List.range m).reverse.map fun i => n + i
theorem rng2_nat {lo n : Nat} (hl : lo ≤ 100000) (hn : n ≤ 100000) : rng2D [.int (lo : Nat), .int ((lo : Nat) + (n : Nat))] = some ((List.range n).map fun i => natD (lo + i)) := by
  rw [rng2D_e (by omega) (by omega) (by omega) (by omega)]
  have : ((lo : Int) + (n : Int) - (lo : Int)).toNat = n := by omega
  rw [this]
  unfold intsTo
  congr 1
theorem putB_t1 (f : FE) (d : D) (os : List (Option D)) (ρ : Env) : putB [.t f] [d] os ρ = ρ := by cases os <;> rfl
/-! ### a comprehension with an if -/
def flK3 (vs : List Nat) : D × Env → Option (Option D × Env) := fun q => some (some q.1, wipeD q.2 vs)
@[simp] theorem flK3_e (vs : List Nat) (d : D) (ρ : Env) : flK3 vs (d, ρ) = some (some d, wipeD ρ vs) := nrfl rfl
def flK (vs : List Nat) (fe : FE) : Bool × Env → Option (Option D × Env) := fun b => if b.1 = true then bd (fe b.2) (flK3 vs) else some (none, wipeD b.2 vs)
@[simp] theorem flK_t (vs : List Nat) (fe : FE) (ρ : Env) : flK vs fe (true, ρ) = bd (fe ρ) (flK3 vs) := nrfl rfl
@[simp] theorem flK_f (vs : List Nat) (fe : FE) (ρ : Env) : flK vs fe (false, ρ) = some (none, wipeD ρ vs) := nrfl rfl
def lcTurnF (vs : List Nat) (fg : D → Env → Option Env) (ft : FB) (fe : FE) (d : D) (ρ : Env) : Option (Option D × Env) := bd (bd (fg d ρ) ft) (flK vs fe)
theorem lcTurnF_e (vs : List Nat) (fg : D → Env → Option Env) (ft : FB) (fe : FE) (d : D) (ρ : Env) : lcTurnF vs fg ft fe d ρ = bd (bd (fg d ρ) ft) (flK vs fe) := rfl
theorem goLc_filt {α : Type} {vs : List Nat} {fg : D → Env → Option Env} {ft : FB} {fe : FE} {ρ : Env} (enc e : α → D) (b : α → Bool) : ∀ (xs : List α), (∀ x ∈ xs, lcTurnF vs fg ft fe (enc x) ρ = some (if b x = true then some (e x) else none, ρ)) → goLc vs fg ft fe (xs.map enc) ρ = some ((xs.filter b).map e, ρ)
  | [], _ => rfl
  | x :: xs, h => by
    have h1 := h x (by simp)
    have ih := goLc_filt enc e b xs fun y hy => h y (by simp [hy])
    unfold lcTurnF bd at h1
    show (fg (enc x) ρ).bind _ = _
    cases hg : fg (enc x) ρ with
    | none => rw [hg] at h1; cases h1
    | some ρ1 =>
      rw [hg] at h1
      simp only [Option.bind_some] at h1 ⊢
      cases ht : ft ρ1 with
      | none => rw [ht] at h1; cases h1
      | some q =>
        obtain ⟨c, ρ2⟩ := q
        rw [ht] at h1
        simp only [Option.bind_some] at h1 ⊢
        cases c with
        | false =>
          rw [flK_f] at h1
          simp only [Option.some.injEq, Prod.mk.injEq] at h1
          simp only [Bool.false_eq_true, if_false]
          rw [h1.2, ih]
          have hb : b x = false := by
            cases hb : b x with
            | false => rfl
            | true => rw [hb] at h1; simp at h1
          simp [List.filter_cons, hb]
        | true =>
          rw [flK_t] at h1
          unfold bd at h1
          simp only [if_true]
          cases hf : fe ρ2 with
          | none => rw [hf] at h1; cases h1
          | some r =>
            rw [hf] at h1
            simp only [Option.bind_some, flK3, Option.some.injEq, Prod.mk.injEq] at h1 ⊢
            rw [h1.2, ih]
            have hb : b x = true := by
              cases hb : b x with
              | true => rfl
              | false => rw [hb] at h1; simp at h1
            rw [hb] at h1
            simp only [if_true, Option.some.injEq] at h1
            simp [List.filter_cons, hb, h1.1]
@[simp] theorem atI_3 {α : Type} (x y z w : α) (xs : List α) : atI (x :: y :: z :: w :: xs) 3 = some w := atI_nat (k := 3) rfl
@[simp] theorem ixN_3 (n : Nat) : ixN (n + 1 + 1 + 1 + 1) 3 = some 3 := ixN_nat (k := 3) (by omega)
@[simp] theorem freeze_tup (xs : List D) : freeze (.tup xs) = .tup (freezes xs) := by simp only [freeze]
@[simp] theorem freeze_int (i : Int) : freeze (.int i) = .int i := by simp only [freeze]
@[simp] theorem freeze_bl (i : Bool) : freeze (.bl i) = .bl i := by simp only [freeze]
theorem log_lt {a : Int} (h : a.natAbs < 2 ^ 1000) : a.natAbs.log2 < 1000 := by
  by_cases h0 : a.natAbs = 0
  · rw [h0]; decide
  · exact (Nat.log2_lt h0).mpr h
theorem fdivOk_big {b : Int} (h1 : 0 < b) (h2 : b < 2 ^ 1000) : fdivOk b = true := by
  unfold fdivOk
  have : 0 < b ∧ b.natAbs.log2 < 9000 := ⟨h1, Nat.lt_trans (log_lt (by omega)) (by decide)⟩
  simp [this]
theorem mulOk_log {a b : Int} (h1 : a.natAbs < 2 ^ 1000) (h2 : b.natAbs < 2 ^ 1000) : mulOk a b = true := by
  have e1 := log_lt h1
  have e2 := log_lt h2
  unfold mulOk
  have : a.natAbs.log2 + b.natAbs.log2 < 1000000 := by omega
  simp [this]
def wellG (gs : List Int) (w1 w2 w3 : Int) : D := .lst true [.lst true (gs.map D.int), .int w1, .int w2, .int w3]
def Wok (N : Nat) (d : D) : Prop := ∃ (gs : List Int) (w1 w2 w3 : Int), d = wellG gs w1 w2 w3 ∧ (∀ g ∈ gs, 0 ≤ g) ∧ 0 ≤ w1 ∧ 0 ≤ w2 ∧ w2 < 2 ^ 70 ∧ 0 ≤ w3 ∧ w3 + N ≤ 2 ^ 30
theorem Wok.le {N M : Nat} {d : D} (h : Wok N d) (hl : M ≤ N) : Wok M d := by
  obtain ⟨gs, w1, w2, w3, a, b, c, d, e, f, g⟩ := h
  exact ⟨gs, w1, w2, w3, a, b, c, d, e, f, by omega⟩
theorem Wok.own {N : Nat} {w : D} (h : Wok N w) : noOwn w = false := by
  obtain ⟨gs, w1, w2, w3, rfl, _⟩ := h
  simp [wellG]
theorem eqOk_ints (o : Bool) (xs : List Int) : eqOk (.lst o (xs.map D.int)) = true := (EqB.lst (k := 0) (fun x hx => by
  obtain ⟨i, _, rfl⟩ := List.mem_map.mp hx
  exact .int _)).ok (by omega)
theorem draw_mix {gs : List Int} {w1 w2 w3 lim : Int} (h : w1 = 0) (hg : gs = []) (c : 0 ≤ w2) (d : w2 < 2 ^ 70) (e : 0 ≤ w3) (f : w3 + 1 ≤ 2 ^ 30) (hl : lim ≠ 0) :
    ∃ x : Int, fn_draw.sem [wellG gs w1 w2 w3, .int lim] = some (.int (x.fmod lim), [some (wellG [] 0 w2 (w3 + 1)), some (.int lim)]) := by
  subst h hg
  have m1 : mulOk 104729 (w3 + 1) = true := mulOk_l (by omega) (by omega)
  have m2 : mulOk (104729 * (w3 + 1)) (w3 + 1) = true := mulOk_r (by omega) (by omega)
  have h4 : 0 ≤ 104729 * (w3 + 1) * (w3 + 1) := Int.mul_nonneg (by omega) (by omega)
  have h5 : 104729 * (w3 + 1) * (w3 + 1) ≤ (104729 * 2 ^ 30) * 2 ^ 30 := Int.mul_le_mul (by omega) (by omega) (by omega) (by omega)
  have p1 : powOk (w2 + 104729 * (w3 + 1) * (w3 + 1) + (w3 + 1)) 2 = true := powOk_of (by omega) (by omega) (lt_pow100 (by omega))
  have m3 : ∀ x : Int, mulOk (x.fmod 162259276829213363391578010288127) (x.fmod 162259276829213363391578010288127 + 59) = true := fun x => by
    have := fmod_in (a := x) (b := 162259276829213363391578010288127) (by omega)
    exact mulOk_log (by omega) (by omega)
  have f1 : fdivOk 10007 = true := by decide +kernel
  have q1 := eqOk_emp true
  have q2 := deq_emp true true []
  unfold fn_draw F_draw wellG
  rw [bodyFn_sem]
  simp [hl, m1, m2, m3, p1, f1, q1, q2]
  exact ⟨_, rfl⟩
theorem draw_mix0 {gs : List Int} {g w2 w3 lim : Int} (hg : g = 0) (c : 0 ≤ w2) (d : w2 < 2 ^ 70) (e : 0 ≤ w3) (f : w3 + 1 ≤ 2 ^ 30) (hl : lim ≠ 0) :
    ∃ x : Int, fn_draw.sem [wellG (gs ++ [g]) 0 w2 w3, .int lim] = some (.int (x.fmod lim), [some (wellG gs 0 w2 (w3 + 1)), some (.int lim)]) := by
  subst hg
  have m1 : mulOk 104729 (w3 + 1) = true := mulOk_l (by omega) (by omega)
  have m2 : mulOk (104729 * (w3 + 1)) (w3 + 1) = true := mulOk_r (by omega) (by omega)
  have h4 : 0 ≤ 104729 * (w3 + 1) * (w3 + 1) := Int.mul_nonneg (by omega) (by omega)
  have h5 : 104729 * (w3 + 1) * (w3 + 1) ≤ (104729 * 2 ^ 30) * 2 ^ 30 := Int.mul_le_mul (by omega) (by omega) (by omega) (by omega)
  have p1 : powOk (w2 + 104729 * (w3 + 1) * (w3 + 1) + (w3 + 1)) 2 = true := powOk_of (by omega) (by omega) (lt_pow100 (by omega))
  have m3 : ∀ x : Int, mulOk (x.fmod 162259276829213363391578010288127) (x.fmod 162259276829213363391578010288127 + 59) = true := fun x => by
    have := fmod_in (a := x) (b := 162259276829213363391578010288127) (by omega)
    exact mulOk_log (by omega) (by omega)
  have f1 : fdivOk 10007 = true := by decide +kernel
  have q1 := eqOk_ints true (gs ++ [0])
  have q2 := deq_emp true true ((gs ++ [0]).map D.int)
  have q3 : ((gs ++ [(0 : Int)]).map D.int).isEmpty = false := by simp
  have q4 : popD ((gs ++ [(0 : Int)]).map D.int) [] = some (.int 0, gs.map D.int) := by
    have := popD_e (gs.map D.int) (.int 0)
    rwa [show gs.map D.int ++ [D.int 0] = (gs ++ [(0 : Int)]).map D.int by simp] at this
  have q5 := noOwns_ints (gs ++ [0])
  unfold fn_draw F_draw wellG
  rw [bodyFn_sem]
  generalize (gs ++ [(0 : Int)]).map D.int = X at *
  generalize gs.map D.int = Y at *
  simp [hl, m1, m2, m3, p1, f1, q1, q2, q3, q4, q5, eqOk_emp]
  exact ⟨_, rfl⟩
theorem draw_ok {N : Nat} {w : D} {lim : Int} (hw : Wok (N + 1) w) (hl : 0 < lim) (hl2 : lim < 2 ^ 1000) :
    ∃ v w', fn_draw.sem [w, .int lim] = some (.int v, [some w', some (.int lim)]) ∧ 0 ≤ v ∧ v < lim ∧ Wok N w' := by
  obtain ⟨gs, w1, w2, w3, rfl, b, c, d, e, f, g⟩ := hw
  have h2 : lim ≠ 0 := by omega
  have h1 : fdivOk lim = true := fdivOk_big hl hl2
  by_cases h0 : 0 < w1
  · refine ⟨w1.fmod lim, wellG gs (w1.fdiv lim) w2 w3, ?_, (fmod_in hl).1, (fmod_in hl).2, ⟨_, _, _, _, rfl, b, Int.fdiv_nonneg c (by omega), d, e, f, by omega⟩⟩
    have h3 : w1 ≠ 0 := by omega
    unfold fn_draw F_draw wellG
    rw [bodyFn_sem]
    generalize gs.map D.int = X at *
    simp [h0, h1, h2, h3]
  · obtain rfl : w1 = 0 := by omega
    rcases List.eq_nil_or_concat gs with rfl | ⟨gs, x, rfl⟩
    · obtain ⟨y, hs⟩ := draw_mix (gs := []) (lim := lim) rfl rfl d e f (by omega) h2
      exact ⟨_, _, hs, (fmod_in hl).1, (fmod_in hl).2, ⟨_, _, _, _, rfl, b, c, d, e, by omega, by omega⟩⟩
    · rw [List.concat_eq_append] at b ⊢
      have hx : 0 ≤ x := b x (by simp)
      have b' : ∀ g ∈ gs, 0 ≤ g := fun g hg => b g (by simp [hg])
      by_cases hx0 : x = 0
      · obtain ⟨y, hs⟩ := draw_mix0 (gs := gs) (lim := lim) hx0 d e f (by omega) h2
        exact ⟨_, _, hs, (fmod_in hl).1, (fmod_in hl).2, ⟨_, _, _, _, rfl, b', by omega, d, e, by omega, by omega⟩⟩
      · have hx1 : 0 < x := by omega
        refine ⟨x.fmod lim, wellG gs (x.fdiv lim) w2 w3, ?_, (fmod_in hl).1, (fmod_in hl).2, ⟨_, _, _, _, rfl, b', Int.fdiv_nonneg hx (by omega), d, e, f, by omega⟩⟩
        have q1 := eqOk_ints true (gs ++ [x])
        have q2 := deq_emp true true ((gs ++ [x]).map D.int)
        have q3 : ((gs ++ [x]).map D.int).isEmpty = false := by simp
        have q4 : popD ((gs ++ [x]).map D.int) [] = some (.int x, gs.map D.int) := by
          have := popD_e (gs.map D.int) (.int x)
          rwa [show gs.map D.int ++ [D.int x] = (gs ++ [x]).map D.int by simp] at this
        have q5 := noOwns_ints (gs ++ [x])
        unfold fn_draw F_draw wellG
        rw [bodyFn_sem]
        generalize (gs ++ [x]).map D.int = X at *
        generalize gs.map D.int = Y at *
        simp [h1, h2, q1, q2, q3, q4, q5, eqOk_emp, hx0, hx1]
theorem insD_0 {gs : List Int} {v : Int} (h : gs.length < 1000) : insD (gs.map D.int) [.int 0, .int v] = some (.non, (v :: gs).map D.int) := by
  show (if _ then _ else _) = _
  rw [if_pos ⟨by omega, by omega, noOwns_ints gs, by simp, by rw [List.length_map]; exact Nat.lt_trans h (by decide)⟩]
  simp
def bodyW : FS := (seqF (asgF (opF ixD [.b 0, .b 3]) (tgN 4)) <|
  ifF (bT (opF (geD) [.b 4, .t (opF powD [.t (litF (.int 10)), .t (litF (.int 18))])])) (dropF (mutF 1 insD [.t (litF (.int 0)), .t (opF subD [.b 4, .t (opF powD [.t (litF (.int 10)), .t (litF (.int 18))])])])) (asgF (opF addD [.t (opF modD [.t (opF intD [.t (opF powD [.t (opF addD [.b 2, .t (opF mulD [.t (opF addD [.b 3, .t (litF (.int 3))]), .t (opF modD [.t (opF intD [.b 4]), .t (litF (.int 1000000000061))])])]), .t (litF (.int 3))])]), .t (litF (.int 2305843009213693951))]), .t (litF (.int 1))]) (tgN 2)))
theorem well_ok {ns : List Int} (hns : ns.length ≤ 63) : ∃ w, fn_well.sem [.scr ns] = some (w, [some (.scr ns)]) ∧ Wok 1000000 w := by
  obtain ⟨ρ', h1, gs, mk, a3, a4, rfl, i1, i2, i3, i4⟩ := for_inv (tg := tgN 3) (body := bodyW) (ds := (List.range ns.length).map natD)
    (ρ := [some (.scr ns), some (.lst true []), some (.int 30011), none, none])
    (fun i ρ => ∃ (gs : List Int) (mk : Int) (a3 a4 : Option D), ρ = [some (.scr ns), some (.lst true (gs.map D.int)), some (.int mk), a3, a4] ∧ (∀ g ∈ gs, 0 ≤ g) ∧ 0 ≤ mk ∧ mk < 2 ^ 62 ∧ gs.length ≤ i)
    ⟨[], 30011, none, none, rfl, by simp, by omega, by omega, by simp⟩ (by
      rintro i d ρ hd ⟨gs, mk, a3, a4, rfl, i1, i2, i3, i4⟩
      rw [List.getElem?_map] at hd
      obtain ⟨x, hx, rfl⟩ := Option.map_eq_some_iff.mp hd
      have hi : x < ns.length := List.mem_range.mp (List.mem_of_getElem? hx)
      obtain rfl : x = i := by
        have := (List.getElem?_eq_some_iff.mp hx).2
        simpa using this.symm
      have x1 : atI ns (x : Nat) = some (ns[x]'hi) := atI_nat (List.getElem?_eq_getElem hi)
      generalize ns[x]'hi = c at *
      by_cases hc : 1000000000000000000 ≤ c
      · have q := insD_0 (gs := gs) (v := c - 1000000000000000000) (by omega)
        refine ⟨_, .inl ?_, (c - 1000000000000000000) :: gs, mk, some (natD x), some (.int c), rfl, ?_, i2, i3, by simp; omega⟩
        · generalize ((c - 1000000000000000000) :: gs).map D.int = Y at *
          generalize gs.map D.int = X at *
          rw [turn_e, natD_i]
          unfold bodyW
          simp [x1, hc, q]
        · intro g hg
          rcases List.mem_cons.mp hg with rfl | hg
          · omega
          · exact i1 g hg
      · have hm := fmod_in (a := c) (b := 1000000000061) (by omega)
        have mo : mulOk ((x : Nat) + 3) (c.fmod 1000000000061) = true := mulOk_l (by omega) (by omega)
        have b1 : 0 ≤ ((x : Int) + 3) * (c.fmod 1000000000061) := Int.mul_nonneg (by omega) hm.1
        have b2 : ((x : Int) + 3) * (c.fmod 1000000000061) ≤ 100 * 1000000000061 := Int.mul_le_mul (by omega) (by omega) hm.1 (by omega)
        have po : powOk (mk + ((x : Int) + 3) * (c.fmod 1000000000061)) 3 = true := powOk_of (by omega) (by omega) (lt_pow100 (by omega))
        have hr := fmod_in (a := (mk + ((x : Int) + 3) * (c.fmod 1000000000061)) ^ 3) (b := 2305843009213693951) (by omega)
        refine ⟨_, .inl ?_, gs, ((mk + ((x : Int) + 3) * (c.fmod 1000000000061)) ^ 3).fmod 2305843009213693951 + 1, some (natD x), some (.int c), rfl, i1, by omega, by omega, by omega⟩
        generalize gs.map D.int = X at *
        rw [turn_e, natD_i]
        unfold bodyW
        simp [x1, hc, mo, po])
  refine ⟨wellG gs 0 mk 0, ?_, gs, 0, mk, 0, rfl, i1, by omega, i2, by omega, by omega, by omega⟩
  have r1 := rng1_nat (u := ns.length) (by omega)
  unfold wellG
  generalize gs.map D.int = X at *
  unfold bodyW at h1
  unfold fn_well F_well
  rw [bodyFn_sem]
  simp [r1, h1, small_le]
def bodyC1 : FS := (asgF (opF mulD [.b 3, .t (opF subD [.t (opF addD [.b 0, .t (litF (.int 1))]), .b 4])]) (tgN 3))
def bodyC2 : FS := (asgF (opF fdivD [.b 3, .t (opF addD [.b 4, .t (litF (.int 1))])]) (tgN 3))
/-! alike -/
theorem isiT2_tup (xs : List D) : isiTD ["tuple", "list"] [.tup xs] = some (.bl true) := by
  show (if ["tuple", "list"].length ≤ smallL then _ else none) = _
  rw [if_pos (by decide)]; rfl
theorem isiT2_lst (o : Bool) (xs : List D) : isiTD ["tuple", "list"] [.lst o xs] = some (.bl true) := by
  show (if ["tuple", "list"].length ≤ smallL then _ else none) = _
  rw [if_pos (by decide)]; rfl
theorem isiT2_int (i : Int) : isiTD ["tuple", "list"] [.int i] = some (.bl false) := by
  show (if ["tuple", "list"].length ≤ smallL then _ else none) = _
  rw [if_pos (by decide)]; rfl
theorem isiD_t_tup (xs : List D) : isiD "tuple" [.tup xs] = some (.bl true) := rfl
theorem isiD_t_lst (o : Bool) (xs : List D) : isiD "tuple" [.lst o xs] = some (.bl false) := rfl
theorem same_loop {fn : Fn} {d e : D} {xs : List D} (hp : fn.pins = [true, true]) (hd : ∀ i : Int, ixD [d, .int i] = bd (atI xs i) ownK) (he : ∀ i : Int, ixD [e, .int i] = bd (atI xs i) ownK) (h : ∀ x ∈ xs, noOwn x = true ∧ fn.sem [x, x] = some (.bl true, [some x, some x])) :
    goLc [2] (tgN 2) yesF (callF fn [.t (opF ixD [.b 0, .b 2]), .t (opF ixD [.b 1, .b 2])]) ((List.range xs.length).map natD) [some d, some e, none] = some ((List.range xs.length).map fun _ => D.bl true, [some d, some e, none]) :=
  goLc_mapI natD _ _ fun x hx => by
    have hi := List.mem_range.mp hx
    obtain ⟨h1, h2⟩ := h (xs[x]'hi) (List.getElem_mem hi)
    have x1 : atI xs (x : Nat) = some (xs[x]'hi) := atI_nat (List.getElem?_eq_getElem hi)
    rw [lcTurn_e, natD_i]
    generalize xs[x]'hi = y at *
    simp [hd, he, x1, h1, h2, hp, putB_t1]
theorem all_true (n : Nat) : allD [.lst true ((List.range n).map fun _ => D.bl true)] = some (.bl true) := by
  have := allD_e true ((List.range n).map fun _ => true)
  rw [List.map_map] at this
  rw [show ((List.range n).map fun _ => D.bl true) = (List.range n).map (D.bl ∘ fun _ => true) from rfl, this]
  simp
theorem same_ok_int (k : Nat) (i : Int) : (fn_same_at (k + 1)).sem [.int i, .int i] = some (.bl true, [some (.int i), some (.int i)]) := by
  show (bodyFn 3 2 [true, true] (F_same (fn_same_at k))).sem _ = _
  generalize fn_same_at k = f
  rw [bodyFn_sem]; unfold F_same
  simp [isiT2_int, isiD_s_int, isiD_i_int]
theorem same_ok_tup {k : Nat} {xs : List D} (hs : xs.length ≤ 100000) (h : ∀ x ∈ xs, noOwn x = true ∧ (fn_same_at k).sem [x, x] = some (.bl true, [some x, some x])) :
    (fn_same_at (k + 1)).sem [.tup xs, .tup xs] = some (.bl true, [some (.tup xs), some (.tup xs)]) := by
  have l := same_loop (fn := fn_same_at k) (d := .tup xs) (e := .tup xs) (same_pins _) (fun i => ixD_t xs i) (fun i => ixD_t xs i) h
  have ho : noOwns xs = true := noOwns_all fun x hx => (h x hx).1
  have r1 := rng1_nat hs
  have al := all_true xs.length
  have ll : ((List.range xs.length).map fun _ => D.bl true).length ≤ 100000 := by simpa using hs
  show (bodyFn 3 2 [true, true] (F_same (fn_same_at k))).sem _ = _
  generalize fn_same_at k = f at *
  generalize (List.range xs.length).map natD = R at *
  generalize ((List.range xs.length).map fun _ => D.bl true) = B at *
  rw [bodyFn_sem]; unfold F_same
  simp [isiT2_tup, isiD_t_tup, isiD_l_tup, ho, l, r1, al, ll, small_le]
theorem same_ok_lst {k : Nat} {xs : List D} {o o' : Bool} (hs : xs.length ≤ 100000) (h : ∀ x ∈ xs, noOwn x = true ∧ (fn_same_at k).sem [x, x] = some (.bl true, [some x, some x])) :
    (fn_same_at (k + 1)).sem [.lst o xs, .lst o' xs] = some (.bl true, [some (.lst o xs), some (.lst o' xs)]) := by
  have l := same_loop (fn := fn_same_at k) (d := .lst o xs) (e := .lst o' xs) (same_pins _) (fun i => ixD_l o xs i) (fun i => ixD_l o' xs i) h
  have ho : noOwns xs = true := noOwns_all fun x hx => (h x hx).1
  have r1 := rng1_nat hs
  have al := all_true xs.length
  have ll : ((List.range xs.length).map fun _ => D.bl true).length ≤ 100000 := by simpa using hs
  show (bodyFn 3 2 [true, true] (F_same (fn_same_at k))).sem _ = _
  generalize fn_same_at k = f at *
  generalize (List.range xs.length).map natD = R at *
  generalize ((List.range xs.length).map fun _ => D.bl true) = B at *
  rw [bodyFn_sem]; unfold F_same
  simp [isiT2_lst, isiD_t_lst, isiD_l_lst, ho, l, r1, al, ll, small_le]
theorem same_int (i : Int) : fn_same.sem [.int i, .int i] = some (.bl true, [some (.int i), some (.int i)]) := same_ok_int 19 i
def wellD (w0 w1 w2 : Int) : D := .lst true [.int w0, .int w1, .int w2]
def matD (n m : Nat) (row : List Nat) : D := .tup [.int (n : Nat), .int (m : Nat), .tup (row.map natD)]
@[simp] theorem noOwn_matD (n m : Nat) (row : List Nat) : noOwn (matD n m row) = true := by simp [matD]
def bodyM : FS := (seqF (parF [6, 7] [.t (opF addD [.t (opF mulD [.t (opF ixD [.b 4, .t (litF (.int 0))]), .b 0]), .t (opF ixD [.b 4, .t (litF (.int 1))])]), .t (opF addD [.t (opF mulD [.t (opF ixD [.b 5, .t (litF (.int 0))]), .b 0]), .t (opF ixD [.b 5, .t (litF (.int 1))])])]) <|
  asgF (tupF [.t (varF 7), .t (varF 6)]) (tgT 2 (tgCons (tgSub 3 (.b 6)) (tgCons (tgSub 3 (.b 7)) (tgNil)))))
inductive Plain : Nat → D → Prop
  | non {k : Nat} : Plain k .non
  | int {k : Nat} (i : Int) : Plain k (.int i)
  | bl {k : Nat} (i : Bool) : Plain k (.bl i)
  | tup {k : Nat} {xs : List D} : (∀ x ∈ xs, Plain k x) → Plain (k + 1) (.tup xs)
  | lst {k : Nat} {xs : List D} : (∀ x ∈ xs, Plain k x) → Plain (k + 1) (.lst false xs)
theorem Plain.own {k : Nat} {d : D} (h : Plain k d) : noOwn d = true := by
  induction h with
  | non => simp
  | int i => simp
  | bl i => simp
  | tup _ ih => rw [noOwn_tup]; exact noOwns_all ih
  | lst _ ih => rw [noOwn_lst]; simpa using noOwns_all ih
theorem Plain.le {k : Nat} {d : D} (h : Plain k d) : ∀ {n : Nat}, k ≤ n → Plain n d := by
  induction h with
  | non => intro n _; exact .non
  | int i => intro n _; exact .int i
  | bl i => intro n _; exact .bl i
  | @tup k xs _ ih =>
    intro n hn
    obtain ⟨m, rfl⟩ : ∃ m, n = m + 1 := ⟨n - 1, by omega⟩
    exact .tup fun x hx => ih x hx (by omega)
  | @lst k xs _ ih =>
    intro n hn
    obtain ⟨m, rfl⟩ : ∃ m, n = m + 1 := ⟨n - 1, by omega⟩
    exact .lst fun x hx => ih x hx (by omega)
/-! what may be compared -/
/-! the pegs round about -/
theorem round_ok {n m : Nat} (hn : n ≤ 1000) (hm : m ≤ 1000) : fn_p_round_of.sem [.int (n : Nat), .int (m : Nat)] = some (.lst true ((roundL n m).map natD), [some (.int (n : Nat)), some (.int (m : Nat))]) := by
  have s1 : n ≤ 100000 := by omega
  have s2 : m ≤ 100000 := by omega
  have s3 : n + m ≤ 100000 := by omega
  have r1 := rng1_nat s1
  have r3 : rng3D [.int ((n : Nat) + (m : Nat) - 1), .int ((n : Nat) - 1), .int (-1)] = some ((List.range m).reverse.map fun i => natD (n + i)) := rng3_down (lo := n) (n := m) s1 s2 (by omega) (by omega)
  unfold fn_p_round_of F_p_round_of
  rw [bodyFn_sem]
  simp [r1, r3, small_le, lrgK_e, s1, s2, s3, addD_l, noOwns_map, -List.map_reverse]
  simp [roundL, Function.comp_def]
theorem is_mat_ok {n m : Nat} {row : List Nat} (h : IsMat n m row) (hl : n + m ≤ 1000) : fn_p_is_mat.sem [matD n m row] = some (.bl true, [some (matD n m row)]) := by
  obtain ⟨a, b, l1⟩ := is_mat_l1 (t := some (matD n m row)) (a := none) (b := none) (c := none) h
  obtain ⟨a2, b2, l2⟩ := is_mat_l2 (t := some (matD n m row)) (nn := some (.int (n : Nat))) (mm := some (.int (m : Nat))) (many := some (.int ((row.map natD).length : Nat))) (a := a) (b := b) h (by omega)
  have rd := round_ok (n := n) (m := m) (by omega) (by omega)
  have hlen : (row.map natD).length = n + m := by rw [List.length_map, h.len]
  have ho := noOwns_natDs row
  have hf := freezes_natDs row
  have ho2 := noOwns_natDs (roundL n m)
  have hf2 := freezes_natDs (roundL n m)
  unfold matD at l1 l2 ⊢
  obtain ⟨X, hX⟩ : ∃ X, X = row.map natD := ⟨_, rfl⟩
  rw [← hX] at l1 l2 ho hf hlen ⊢
  obtain ⟨Y, hY⟩ : ∃ Y, Y = (roundL n m).map natD := ⟨_, rfl⟩
  rw [← hY] at l2 rd ho2 hf2
  unfold bodyI1 at l1
  unfold bodyI2 at l2
  have c1 : ¬ ((n : Int) < 0) := by omega
  have c2 : ¬ ((m : Int) < 0) := by omega
  have c3 : (n : Int) + (m : Int) = (X.length : Int) := by omega
  have hp := h.pos
  have c4 : ¬ ((X.length : Int) = 0) := by omega
  have pr : fn_p_round_of.pins = [true, true] := rfl
  have c5 : X ≠ [] := by intro e; rw [e] at hlen; simp at hlen; omega
  unfold fn_p_is_mat F_p_is_mat
  rw [bodyFn_sem]
  simp [ho, hf, ho2, hf2, c1, c2, c3, c4, c5, l1, l2, rd, pr, eqOk_emp, deq_emp, small_le]
theorem checked_ok {n m : Nat} {row : List Nat} (h : IsMat n m row) (hl : n + m ≤ 1000) : fn_p_checked_mat.sem [matD n m row] = some (matD n m row, [some (matD n m row)]) := by
  have e := is_mat_ok h hl
  have ho := noOwn_matD n m row
  obtain ⟨M, hM⟩ : ∃ M, M = matD n m row := ⟨_, rfl⟩
  rw [← hM] at e ho ⊢
  have pp : fn_p_is_mat.pins = [true] := rfl
  unfold fn_p_checked_mat F_p_checked_mat
  rw [bodyFn_sem]
  simp [e, ho, pp]
def M (u d : Nat) (ps : List ((Nat × Nat) × (Nat × Nat))) : List Nat := madeL u ps (List.replicate (u + d) 0)
def flipP (ps : List ((Nat × Nat) × (Nat × Nat))) : List ((Nat × Nat) × (Nat × Nat)) := ps.map fun p => (flipS p.1, flipS p.2)
def sideP (u d : Nat) (ps : List ((Nat × Nat) × (Nat × Nat))) : List ((Nat × Nat) × (Nat × Nat)) := ps.map fun p => (sideS u d p.1, sideS u d p.2)
/-! ### a comprehension with an if -/
@[simp] theorem powOk_10_8 : powOk 10 8 = true := by decide +kernel
@[simp] theorem powOk_10_37 : powOk 10 37 = true := by decide +kernel
def bodyOC : FS := ifF (orF (bT (opF (eqD) [.b 5, .t (lstF [])])) (andF (tstF (.b 8)) (bT (opF (ltD) [.t (opF lenD [.b 5]), .t (opF subD [.t (opF addD [.b 1, .b 2]), .b 7])])))) (dropF (mutF 5 appD [.t (opF ixD [.b 3, .b 7])])) (seqF (asgF (mutF 5 popD []) (tgN 9)) <|
  asgF (tupF [.t (opF ixD [.b 3, .b 7]), .t (varF 9)]) (tgT 2 (tgCons (tgSub 4 (.b 9)) (tgCons (tgSub 4 (.t (opF ixD [.b 3, .b 7]))) (tgNil)))))
def rdL (n N : Nat) (S : List Nat) : List Nat := S.map (roundAt n N)
def Mq (n m : Nat) (qs : Prs) : List Nat := M n m (spotP n m qs)
def plL (n m : Nat) (qs : Prs) : List Nat := (roundL n m).map fun x => roundAt n (n + m) ((Mq n m qs).getD x 0)
def bodyU : FS := (asgF (opF ixD [.b 3, .t (opF ixD [.b 2, .b 5])]) (tgSub 4 (.t (opF ixD [.b 3, .b 5]))))
/-! alike -/
def bodyS (fn : Fn) : FS := (ifF (notF (tstF (.t (callF fn [.t (opF ixD [.b 0, .b 2]), .t (opF ixD [.b 1, .b 2])])))) (retF (litF (.bl false))) (passF))
inductive PlainB : Nat → D → Prop
  | int {k : Nat} (i : Int) : PlainB k (.int i)
  | tup {k : Nat} {xs : List D} : xs.length ≤ 100000 → (∀ x ∈ xs, PlainB k x) → PlainB (k + 1) (.tup xs)
  | lst {k : Nat} {xs : List D} : xs.length ≤ 100000 → (∀ x ∈ xs, PlainB k x) → PlainB (k + 1) (.lst false xs)
theorem PlainB.own {k : Nat} {d : D} (h : PlainB k d) : noOwn d = true := by
  induction h with
  | int i => simp
  | tup _ _ ih => rw [noOwn_tup]; exact noOwns_all ih
  | lst _ _ ih => rw [noOwn_lst]; simpa using noOwns_all ih
theorem PlainB.le {k : Nat} {d : D} (h : PlainB k d) : ∀ {n : Nat}, k ≤ n → PlainB n d := by
  induction h with
  | int i => intro n _; exact .int i
  | @tup k xs hl _ ih =>
    intro n hn
    obtain ⟨m, rfl⟩ : ∃ m, n = m + 1 := ⟨n - 1, by omega⟩
    exact .tup hl fun x hx => ih x hx (by omega)
  | @lst k xs hl _ ih =>
    intro n hn
    obtain ⟨m, rfl⟩ : ∃ m, n = m + 1 := ⟨n - 1, by omega⟩
    exact .lst hl fun x hx => ih x hx (by omega)
theorem same_ok {k : Nat} {d : D} (h : PlainB k d) : ∀ {n : Nat}, k ≤ n → (fn_same_at (n + 1)).sem [d, d] = some (.bl true, [some d, some d]) := by
  induction h with
  | int i => intro n _; exact same_ok_int n i
  | @tup k xs hl hx ih =>
    intro n hn
    obtain ⟨m, rfl⟩ : ∃ m, n = m + 1 := ⟨n - 1, by omega⟩
    exact same_ok_tup hl fun x hm => ⟨(hx x hm).own, ih x hm (by omega)⟩
  | @lst k xs hl hx ih =>
    intro n hn
    obtain ⟨m, rfl⟩ : ∃ m, n = m + 1 := ⟨n - 1, by omega⟩
    exact same_ok_lst hl fun x hm => ⟨(hx x hm).own, ih x hm (by omega)⟩
theorem same_ok19 {k : Nat} {d : D} (h : PlainB k d) (hk : k ≤ 19) : fn_same.sem [d, d] = some (.bl true, [some d, some d]) := same_ok h (n := 19) hk
/-! what may be compared -/
/-! the pegs round about -/
/-! ### a comprehension with an if -/
/-! ### the draws -/
def wlD (ns : List Int) (p l s : Int) : D := .lst true [.lst false (ns.map .int), .int p, .int l, .int s]
def DOk (d : D) : Prop := ∃ (ns : List Int) (p l s : Int), d = wlD ns p l s ∧ ns.length ≤ 63 ∧ 0 ≤ p ∧ p ≤ ns.length ∧ 0 ≤ l ∧ 0 ≤ s ∧ s < 2147483647
theorem DOk.own {d : D} (h : DOk d) : noOwn d = false := by
  obtain ⟨_, _, _, _, rfl, _⟩ := h
  simp [wlD]
def dipH : FS := (ifF (andF (bT (opF (ltD) [.t (opF ixD [.b 0, .t (litF (.int 2))]), .t (litF (.int 2))])) (bT (opF (ltD) [.t (opF ixD [.b 0, .t (litF (.int 1))]), .t (opF lenD [.t (opF ixD [.b 0, .t (litF (.int 0))])])]))) (seqF (asgF (opF ixD [.t (opF ixD [.b 0, .t (litF (.int 0))]), .t (opF ixD [.b 0, .t (litF (.int 1))])]) (tgN 2)) <|
  seqF (asgF (opF addD [.t (opF ixD [.b 0, .t (litF (.int 1))]), .t (litF (.int 1))]) (tgSub 0 (.t (litF (.int 1))))) <|
  ifF (bT (opF (geD) [.b 2, .t (opF powD [.t (litF (.int 10)), .t (litF (.int 18))])])) (asgF (varF 2) (tgSub 0 (.t (litF (.int 2))))) (asgF (opF modD [.t (opF intD [.t (opF addD [.t (opF addD [.t (opF mulD [.t (opF ixD [.b 0, .t (litF (.int 3))]), .t (litF (.int 69621))]), .t (opF powD [.t (opF modD [.t (opF intD [.b 2]), .t (litF (.int 2147483629))]), .t (litF (.int 3))])]), .t (opF mulD [.t (litF (.int 7919)), .t (opF ixD [.b 0, .t (litF (.int 1))])])])]), .t (litF (.int 2147483647))]) (tgSub 0 (.t (litF (.int 3)))))) (passF))
def asIntK : D × Env → Option (D × Env) := fun p => match p.1 with
  | .int i => some (.int i, p.2)
  | _ => none
@[simp] theorem asIntK_e (i : Int) (ρ : Env) : asIntK (.int i, ρ) = some (.int i, ρ) := nrfl rfl
@[simp] theorem asInt_e (f : FE) (ρ : Env) : asInt f ρ = bd (f ρ) asIntK := nrfl rfl
/-! ### slices of tuples -/
theorem take_min {α : Type} (xs : List α) (i : Nat) : xs.take (min i xs.length) = xs.take i := by
  rcases Nat.le_total i xs.length with h | h
  · rw [Nat.min_eq_left h]
  · rw [Nat.min_eq_right h, List.take_length, List.take_of_length_le h]
theorem partT_H {xs : List D} {i : Nat} (h : noOwns xs = true) : partD false true [.tup xs, .int (i : Nat)] = some (.tup (xs.take i)) := by
  show (if noOwns xs = true then some (D.tup (cutD xs none (some (i : Nat)))) else none) = _
  rw [if_pos h]
  congr 2
  unfold cutD
  rw [HT.sIx_nat, HT.sIx_none, Nat.sub_zero, List.drop_zero, take_min]
/-! ### words and moves -/
abbrev Mv := Str × Int
def wordD (w : List Nat) : D := .tup (w.map natD)
def mvD (m : Mv) : D := .tup [.str m.1, .int m.2]
@[simp] theorem noOwn_wordD (w : List Nat) : noOwn (wordD w) = true := by simp [wordD]
@[simp] theorem noOwn_mvD (m : Mv) : noOwn (mvD m) = true := by simp [mvD]
@[simp] theorem noOwns_mvDs (ms : List Mv) : noOwns (ms.map mvD) = true := noOwns_map noOwn_mvD ms
def MvOk (m : Mv) : Prop := PyData.strOk m.1 = true
theorem EqB.str {k : Nat} {s : Str} (h : PyData.strOk s = true) : EqB k (.str s) := ⟨rfl, h, Nat.zero_le _⟩
def stepAt (w : List Nat) (i : Nat) : List Mv :=
  if w.getD i 0 = w.getD (i + 1) 0 then [(("two" : Str), (i : Int))]
  else if w.getD i 0 + 1 < w.getD (i + 1) 0 ∨ w.getD (i + 1) 0 + 1 < w.getD i 0 then [(("far" : Str), (i : Int))]
  else if i + 2 < w.length ∧ w.getD (i + 2) 0 = w.getD i 0 then [(("neighbours" : Str), (i : Int))] else []
def stepsL (w : List Nat) : List Mv := (List.range (w.length - 1)).flatMap (stepAt w)
def mvLe (a b : Mv) : Bool := PySem.W.dataLe false pyD (mvD a) (mvD b)
def stepsS (w : List Nat) : List Mv := (stepsL w).mergeSort mvLe
def bodySt : FS := (seqF (asgF (opF absD [.t (opF subD [.t (opF ixD [.b 0, .b 2]), .t (opF ixD [.b 0, .t (opF addD [.b 2, .t (litF (.int 1))])])])]) (tgN 3)) <|
  seqF (ifF (bT (opF (eqD) [.b 3, .t (litF (.int 0))])) (dropF (mutF 1 appD [.t (tupF [.t (litF (.str "two")), .t (varF 2)])])) (passF)) <|
  seqF (ifF (bT (opF (gtD) [.b 3, .t (litF (.int 1))])) (dropF (mutF 1 appD [.t (tupF [.t (litF (.str "far")), .t (varF 2)])])) (passF)) <|
  ifF (andF (bT (opF (eqD) [.b 3, .t (litF (.int 1))])) (andF (bT (opF (ltD) [.t (opF addD [.b 2, .t (litF (.int 2))]), .t (opF lenD [.b 0])])) (bT (opF (eqD) [.t (opF ixD [.b 0, .t (opF addD [.b 2, .t (litF (.int 2))])]), .t (opF ixD [.b 0, .b 2])])))) (dropF (mutF 1 appD [.t (tupF [.t (litF (.str "neighbours")), .t (varF 2)])])) (passF))
def bodySo : FS := (seqF (asgF (opF absD [.t (opF subD [.t (opF ixD [.b 0, .b 2]), .t (opF ixD [.b 0, .t (opF addD [.b 2, .t (litF (.int 1))])])])]) (tgN 3)) <|
  ifF (bT (opF (eqD) [.b 3, .t (litF (.int 0))])) (dropF (mutF 1 appD [.t (tupF [.t (litF (.str "two")), .t (varF 2)])])) (ifF (bT (opF (gtD) [.b 3, .t (litF (.int 1))])) (dropF (mutF 1 appD [.t (tupF [.t (litF (.str "far")), .t (varF 2)])])) (ifF (bT (opF (eqD) [.t (opF (partD true true) [.b 0, .t (asInt (opF addD [.b 2, .t (litF (.int 2))])), .t (asInt (opF addD [.b 2, .t (litF (.int 3))]))]), .t (opF (partD true true) [.b 0, .t (asInt (varF 2)), .t (asInt (opF addD [.b 2, .t (litF (.int 1))]))])])) (dropF (mutF 1 appD [.t (tupF [.t (litF (.str "neighbours")), .t (varF 2)])])) (passF))))
/-! a move made -/
def madeW (w : List Nat) (m : Mv) : List Nat :=
  if m.1 = ("two" : Str) then w.take m.2.toNat ++ w.drop (m.2.toNat + 1)
  else if m.1 = ("neighbours" : Str) then w.take m.2.toNat ++ [w.getD m.2.toNat 0] ++ w.drop (m.2.toNat + 3)
  else w.take m.2.toNat ++ [w.getD (m.2.toNat + 1) 0, w.getD m.2.toNat 0] ++ w.drop (m.2.toNat + 2)
inductive PS : Nat → D → Prop
  | non {k : Nat} : PS k .non
  | int {k : Nat} (i : Int) : PS k (.int i)
  | bl {k : Nat} (i : Bool) : PS k (.bl i)
  | str {k : Nat} (s : Str) : PyData.strOk s = true → PS k (.str s)
  | tup {k : Nat} {xs : List D} : (∀ x ∈ xs, PS k x) → xs.length ≤ 1000 → PS (k + 1) (.tup xs)
theorem PS.own {k : Nat} {d : D} (h : PS k d) : noOwn d = true := by
  induction h with
  | non => simp
  | int i => simp
  | bl i => simp
  | str s => simp
  | tup _ _ ih => rw [noOwn_tup]; exact noOwns_all ih
/-! the words' check -/
def bodyCw1 : FS := (ifF (notF (bT (chainF (fun i j => decide (i ≤ j)) (fun i j => decide (i < j)) (.t (litF (.int 0))) (.b 3) (.t (opF subD [.b 0, .t (litF (.int 1))]))))) (neverF) (passF))
def bodyCw : FS := (forF (itSeq (varF 2)) (tgN 3) bodyCw1)
def WOk (n most : Nat) (v : List Nat) : Prop := v.length ≤ most ∧ ∀ x ∈ v, x + 1 < n
def stNear : FE := (ifE (bT (opF (neD) [.b 2, .t (tupF [])])) (lcF [10] (itSeq (lstF [.t (opF subD [.t (opF ixD [.b 2, .b 7]), .t (litF (.int 1))]), .t (opF addD [.t (opF ixD [.b 2, .b 7]), .t (litF (.int 1))])])) (tgN 10) (andF (bT (opF (leD) [.t (litF (.int 0)), .b 10])) (bT (opF (ltD) [.b 10, .t (opF subD [.b 1, .t (litF (.int 1))])]))) (varF 10)) (lstF []))
def nearOk (n : Nat) (ys : List Int) : Prop := ys.length ≤ 2 ∧ ∀ y ∈ ys, 0 ≤ y ∧ y + 1 < n
/-! ### the drawn moves -/
def valD (n : Nat) (s : Nat × List Nat) : D := .tup [.int (s.1 : Nat), matD n n s.2]
/-! what a move does to the value -/
def lessN (m : Mv) : Nat := if m.1 = ("two" : Str) then 1 else 0
theorem WOk.le {n a b : Nat} {v : List Nat} (h : WOk n a v) (hab : a ≤ b) : WOk n b v := ⟨Nat.le_trans h.1 hab, h.2⟩
theorem goWhile_succ (c : FB) (body : FS) (n : Nat) (ρ : Env) : goWhile c body (n + 1) ρ = (c ρ).bind fun p => if p.1 = true then (body p.2).bind fun o => match o with
    | .nx ρ2 => goWhile c body n ρ2
    | .ct ρ2 => goWhile c body n ρ2
    | .bk ρ2 => some (.nx ρ2)
    | .rt d ρ2 => some (.rt d ρ2)
    | .rz n d ρ2 => some (.rz n d ρ2) else some (.nx p.2) := rfl
theorem wh_t {c : FB} {b : FS} {n : Nat} {ρ ρ1 ρ2 : Env} (h1 : c ρ = some (true, ρ1)) (h2 : b ρ1 = some (.nx ρ2)) : goWhile c b (n + 1) ρ = goWhile c b n ρ2 := by
  rw [goWhile_succ, h1]
  simp only [Option.bind_some, if_true, h2]
theorem wh_r {c : FB} {b : FS} {n : Nat} {ρ ρ1 ρ2 : Env} {d : D} (h1 : c ρ = some (true, ρ1)) (h2 : b ρ1 = some (.rt d ρ2)) : goWhile c b (n + 1) ρ = some (.rt d ρ2) := by
  rw [goWhile_succ, h1]
  simp only [Option.bind_some, if_true, h2]
theorem wh_f {c : FB} {b : FS} {n : Nat} {ρ ρ1 : Env} (h1 : c ρ = some (false, ρ1)) : goWhile c b (n + 1) ρ = some (.nx ρ1) := by
  rw [goWhile_succ, h1]
  simp only [Option.bind_some, Bool.false_eq_true, if_false]
def blsD (ps : List Bool) : D := .lst true (ps.map D.bl)
theorem noOwns_bls (ps : List Bool) : noOwns (ps.map D.bl) = true := noOwns_map (fun _ => by simp) _
theorem own_bls (ps : List Bool) : noOwn (blsD ps) = false := by simp [blsD]
theorem set_bls (ps : List Bool) (j : Nat) : (ps.map D.bl).set j (.bl true) = (ps.set j true).map D.bl := by rw [List.map_set]
/-! ### an end of a string -/
def condFe : FB := (tstF (.t (litF (.bl true))))
def bodyFe : FS := (seqF (ifF (tstF (.b 6)) (seqF (ifF (bT (opF (ltD) [.b 7, .b 4])) (retF (movF 7)) (passF)) <|
  seqF (augF 7 isubD (.b 4)) <|
  seqF (asgF (litF (.bl true)) (tgSub 3 (.b 7))) <|
  asgF (opF ixD [.t (opF ixD [.b 1, .t (litF (.int 2))]), .b 7]) (tgN 7)) (seqF (ifF (bT (opF (geD) [.b 7, .b 5])) (retF (opF subD [.t (opF addD [.b 4, .b 7]), .b 5])) (passF)) <|
  seqF (asgF (litF (.bl true)) (tgSub 3 (.b 7))) <|
  asgF (opF ixD [.t (opF ixD [.b 0, .t (litF (.int 2))]), .t (opF addD [.b 4, .b 7])]) (tgN 7))) <|
  asgF (notV (varF 6)) (tgN 6))
theorem F_far_end_e : F_p_far_end = (seqF (parF [4, 5] [.t (opF ixD [.b 0, .t (litF (.int 0))]), .t (opF ixD [.b 0, .t (litF (.int 1))])]) <|
  seqF (asgF (opF (ltD) [.b 2, .b 4]) (tgN 6)) <|
  seqF (asgF (ifE (tstF (.b 6)) (opF ixD [.t (opF ixD [.b 0, .t (litF (.int 2))]), .b 2]) (opF ixD [.t (opF ixD [.b 1, .t (litF (.int 2))]), .t (opF subD [.t (opF addD [.b 5, .b 2]), .b 4])])) (tgN 7)) <|
  whF FUEL condFe bodyFe) := rfl
theorem condFe_e (ρ : Env) : condFe ρ = some (true, ρ) := by
  unfold condFe
  simp
section
variable {n m k : Nat} {ra rh : List Nat} {P : Option D}
def envW (n m k : Nat) (ra rh : List Nat) (P : Option D) (ps : List Bool) (b : Bool) (a : Nat) : Env := [some (matD n m ra), some (matD m k rh), P, some (blsD ps), some (.int (n : Nat)), some (.int (m : Nat)), some (.bl b), some (.int (a : Nat))]
theorem Fe_t1 {ps : List Bool} {a : Nat} (h : a < n) : bodyFe (envW n m k ra rh P ps true a) = some (.rt (.int (a : Nat)) [some (matD n m ra), some (matD m k rh), P, some (blsD ps), some (.int (n : Nat)), some (.int (m : Nat)), some (.bl true), none]) := by
  unfold bodyFe envW
  simp [h]
theorem Fe_t2 {ps : List Bool} {a : Nat} (h : ¬ a < n) (h2 : a - n < m) (hp : ps.length = m) (hl : rh.length = m + k) : bodyFe (envW n m k ra rh P ps true a) = some (.nx (envW n m k ra rh P (ps.set (a - n) true) false (rowF rh (a - n)))) := by
  have x1 : atI (rh.map natD) ((a : Int) - (n : Int)) = some (.int (rowF rh (a - n) : Nat)) := by
    rw [show (a : Int) - (n : Int) = ((a - n : Nat) : Int) by omega]
    exact atI_mapN (z := 0) (by omega)
  have i1 : ixN m ((a : Int) - (n : Int)) = some (a - n) := by
    rw [show (a : Int) - (n : Int) = ((a - n : Nat) : Int) by omega]
    exact ixN_nat h2
  have sb := set_bls ps (a - n)
  have ll : (ps.map D.bl).length = m := by rw [List.length_map]; exact hp
  have no := noOwns_natDs rh
  have nb := noOwns_bls ps
  have c1 : ¬ (a : Int) < (n : Int) := by omega
  unfold bodyFe envW blsD matD
  rw [← sb]
  generalize ps.map D.bl = B at *
  generalize rh.map natD = H at *
  generalize ra.map natD = A at *
  simp [h, c1, x1, i1, ll, no, nb]
theorem Fe_f1 {ps : List Bool} {a : Nat} (h : m ≤ a) : bodyFe (envW n m k ra rh P ps false a) = some (.rt (.int ((n + a - m : Nat) : Nat)) (envW n m k ra rh P ps false a)) := by
  have c1 : (m : Int) ≤ (a : Int) := by omega
  have c2 : ((n + a - m : Nat) : Int) = (n : Int) + (a : Int) - (m : Int) := by omega
  rw [c2]
  unfold bodyFe envW
  simp [h, c1]
theorem Fe_f2 {ps : List Bool} {a : Nat} (h : ¬ m ≤ a) (hp : ps.length = m) (hl : ra.length = n + m) : bodyFe (envW n m k ra rh P ps false a) = some (.nx (envW n m k ra rh P (ps.set a true) true (rowF ra (n + a)))) := by
  have x1 : atI (ra.map natD) ((n : Int) + (a : Int)) = some (.int (rowF ra (n + a) : Nat)) := atI_mapN (z := 0) (i := n + a) (by omega)
  have i1 : ixN m (a : Int) = some a := ixN_nat (by omega)
  have sb := set_bls ps a
  have ll : (ps.map D.bl).length = m := by rw [List.length_map]; exact hp
  have no := noOwns_natDs ra
  have nb := noOwns_bls ps
  have c1 : ¬ (m : Int) ≤ (a : Int) := by omega
  unfold bodyFe envW blsD matD
  rw [← sb]
  generalize ps.map D.bl = B at *
  generalize rh.map natD = H at *
  generalize ra.map natD = A at *
  simp [h, c1, x1, i1, ll, no, nb]
theorem Fe_loop (ha : ra.length = n + m) (hh : rh.length = m + k) (hA : ∀ p, p < n + m → rowF ra p < n + m) (hH : ∀ p, p < m + k → rowF rh p < m + k) : ∀ (f F : Nat) (b : Bool) (a : Nat) (ps : List Bool) (r : Nat) (ps' : List Bool), wk (rowF ra) (rowF rh) n m f b a ps = some (r, ps') → f ≤ F → ps.length = m → (if b = true then a < n + m else a < m + k) →
    ∃ B6 B7, goWhile condFe bodyFe F (envW n m k ra rh P ps b a) = some (.rt (.int (r : Nat)) [some (matD n m ra), some (matD m k rh), P, some (blsD ps'), some (.int (n : Nat)), some (.int (m : Nat)), B6, B7])
  | 0, F, b, a, ps, r, ps', h, _, _, _ => by cases h
  | f + 1, F, true, a, ps, r, ps', h, hF, hp, hb => by
    obtain ⟨F, rfl⟩ : ∃ G, F = G + 1 := ⟨F - 1, by omega⟩
    rw [if_pos rfl] at hb
    rw [wk_t] at h
    by_cases c : a < n
    · rw [if_pos c] at h
      cases h
      exact ⟨_, _, wh_r (condFe_e _) (Fe_t1 c)⟩
    · rw [if_neg c] at h
      obtain ⟨B6, B7, e⟩ := Fe_loop ha hh hA hH f F false (rowF rh (a - n)) (ps.set (a - n) true) r ps' h (by omega) (by rw [List.length_set]; exact hp) (by rw [if_neg (by simp)]; exact hH _ (by omega))
      exact ⟨B6, B7, (wh_t (condFe_e _) (Fe_t2 c (by omega) hp hh)).trans e⟩
  | f + 1, F, false, a, ps, r, ps', h, hF, hp, hb => by
    obtain ⟨F, rfl⟩ : ∃ G, F = G + 1 := ⟨F - 1, by omega⟩
    rw [wk_f] at h
    by_cases c : m ≤ a
    · rw [if_pos c] at h
      cases h
      exact ⟨_, _, wh_r (condFe_e _) (Fe_f1 c)⟩
    · rw [if_neg c] at h
      obtain ⟨B6, B7, e⟩ := Fe_loop ha hh hA hH f F true (rowF ra (n + a)) (ps.set a true) r ps' h (by omega) (by rw [List.length_set]; exact hp) (by rw [if_pos rfl]; exact hA _ (by omega))
      exact ⟨B6, B7, (wh_t (condFe_e _) (Fe_f2 c hp ha)).trans e⟩
theorem far_end_ok {p f r : Nat} {ps ps' : List Bool} (hn : n + m + k ≤ 100000) (ha : ra.length = n + m) (hh : rh.length = m + k) (hA : ∀ p, p < n + m → rowF ra p < n + m) (hH : ∀ p, p < m + k → rowF rh p < m + k) (hp : p < n + k) (hl : ps.length = m) (hf : f ≤ 1000000)
    (hw : wk (rowF ra) (rowF rh) n m f (wkS (rowF ra) (rowF rh) n m p).1 (wkS (rowF ra) (rowF rh) n m p).2 ps = some (r, ps')) :
    fn_p_far_end.sem [matD n m ra, matD m k rh, .int (p : Nat), blsD ps] = some (.int (r : Nat), [some (matD n m ra), some (matD m k rh), some (.int (p : Nat)), some (blsD ps')]) := by
  have noa := noOwns_natDs ra
  have noh := noOwns_natDs rh
  unfold wkS at hw
  by_cases c : p < n
  · rw [if_pos c] at hw
    obtain ⟨B6, B7, e⟩ := Fe_loop (P := some (.int (p : Nat))) ha hh hA hH f FUEL true (rowF ra p) ps r ps' hw hf hl (by rw [if_pos rfl]; exact hA _ (by omega))
    have x1 : atI (ra.map natD) (p : Int) = some (.int (rowF ra p : Nat)) := atI_mapN (z := 0) (by omega)
    have c1 : (p : Int) < (n : Int) := by omega
    unfold fn_p_far_end
    rw [bodyFn_sem, F_far_end_e]
    unfold envW matD at e
    unfold matD
    generalize blsD ps = PS at *
    generalize blsD ps' = PS' at *
    generalize rh.map natD = H at *
    generalize ra.map natD = A at *
    simp [c, c1, x1, noa, noh, e]
  · rw [if_neg c] at hw
    obtain ⟨B6, B7, e⟩ := Fe_loop (P := some (.int (p : Nat))) ha hh hA hH f FUEL false (rowF rh (m + p - n)) ps r ps' hw hf hl (by rw [if_neg (by simp)]; exact hH _ (by omega))
    have x1 : atI (rh.map natD) ((m : Int) + (p : Int) - (n : Int)) = some (.int (rowF rh (m + p - n) : Nat)) := by
      rw [show (m : Int) + (p : Int) - (n : Int) = ((m + p - n : Nat) : Int) by omega]
      exact atI_mapN (z := 0) (by omega)
    have c1 : ¬ (p : Int) < (n : Int) := by omega
    unfold fn_p_far_end
    rw [bodyFn_sem, F_far_end_e]
    unfold envW matD at e
    unfold matD
    generalize blsD ps = PS at *
    generalize blsD ps' = PS' at *
    generalize rh.map natD = H at *
    generalize ra.map natD = A at *
    simp [c, c1, x1, noa, noh, e]
end
theorem bl_at {ps : List Bool} {j : Nat} (h : j < ps.length) : atI (ps.map D.bl) (j : Int) = some (.bl (bt ps j)) := by
  refine atI_nat ?_
  unfold bt
  simp [List.getD_eq_getElem?_getD, h]
section
variable {n i : Nat} {row : List Nat}
def bodyPb : FS := (dropF (mutF 5 appD [.t (callF fn_p_far_end [.b 0, .b 1, .b 6, .b 4])]))
structure Pb (n i : Nat) (A : Nat → Nat) (j : Nat) (ps : List Bool) : Prop where
  len : ps.length = n
  dn : ∀ q, bt ps q = true → Tq A n i q
  up : ∀ p, p < j → n ≤ p → p ≠ n + i → p ≠ n + i + 1 → bt ps (p - n) = true
  ho : A (n + i) < j → A (n + i) ≠ n + i + 1 → bt ps i = true ∧ bt ps (i + 1) = true
theorem bt_rep (n q : Nat) : bt (List.replicate n false) q = false := by
  unfold bt
  rw [List.getD_eq_getElem?_getD, List.getElem?_replicate]
  split <;> rfl
/-! the rings between -/
def condLr : FB := (notF (tstF (.t (opF ixD [.b 2, .b 6]))))
def bodyLr : FS := (seqF (asgF (litF (.bl true)) (tgSub 2 (.b 6))) <|
  seqF (asgF (opF subD [.t (opF ixD [.t (opF ixD [.b 0, .t (litF (.int 2))]), .t (opF addD [.b 3, .b 6])]), .b 3]) (tgN 6)) <|
  seqF (asgF (litF (.bl true)) (tgSub 2 (.b 6))) <|
  asgF (opF ixD [.t (opF ixD [.b 1, .t (litF (.int 2))]), .b 6]) (tgN 6))
def bodyLo : FS := (ifF (notF (tstF (.t (opF ixD [.b 2, .b 5])))) (seqF (augF 4 iaddD (.t (litF (.int 1)))) <|
  seqF (asgF (varF 5) (tgN 6)) <| whF FUEL condLr bodyLr) (passF))
theorem F_loose_e : F_p_loose_rings = (seqF (asgF (opF ixD [.b 0, .t (litF (.int 0))]) (tgN 3)) <|
  seqF (asgF (litF (.int 0)) (tgN 4)) <|
  seqF (forF (itRg rng1D [.t (opF ixD [.b 0, .t (litF (.int 1))])]) (tgN 5) bodyLo) <| retF (movF 4)) := rfl
theorem Lo_pass {ps : List Bool} {s : Nat} {M O N R A5 A6 : Option D} (hs : s < ps.length) (hb : bt ps s = true) : turn (tgN 5) bodyLo (natD s) [M, O, some (blsD ps), N, R, A5, A6] = some (.nx [M, O, some (blsD ps), N, R, some (natD s), A6]) := by
  have x := bl_at hs
  rw [hb] at x
  rw [turn_e]
  unfold bodyLo blsD natD
  generalize ps.map D.bl = B at *
  simp [x]
theorem flat_rep : ∀ n : Nat, (List.replicate n [D.bl false]).flatten = (List.replicate n false).map D.bl
  | 0 => rfl
  | n + 1 => by
    rw [List.replicate_succ, List.flatten_cons, flat_rep n, List.replicate_succ, List.map_cons]; rfl
theorem F_put_e : F_p_put_behind = (seqF (parF [2, 3] [.t (opF ixD [.b 0, .t (litF (.int 0))]), .t (opF ixD [.b 1, .t (litF (.int 1))])]) <|
  seqF (asgF (opF mulD [.t (lstF [.t (litF (.bl false))]), .t (opF ixD [.b 0, .t (litF (.int 1))])]) (tgN 4)) <|
  seqF (asgF (lstF []) (tgN 5)) <|
  seqF (forF (itRg rng1D [.t (opF addD [.b 2, .b 3])]) (tgN 6) bodyPb) <|
  retF (tupF [.t (callF fn_p_loose_rings [.b 0, .b 1, .b 4]), .t (movF 2), .t (movF 3), .t (opF tupleD [.b 5])])) := rfl
end
def alk (n : Nat) (a b : List Nat) : Bool := decide ((valW n a).2 = (valW n b).2)
/-! ### any mat by draws (words' family) -/
def bodyVC : FS := ifF (orF (bT (opF (eqD) [.b 6, .t (lstF [])])) (andF (tstF (.b 8)) (bT (opF (ltD) [.t (opF lenD [.b 6]), .t (opF subD [.t (opF addD [.b 1, .b 2]), .b 7])])))) (dropF (mutF 6 appD [.t (opF ixD [.b 3, .b 7])])) (seqF (asgF (mutF 6 popD []) (tgN 9)) <|
  seqF (asgF (opF ixD [.b 3, .b 7]) (tgSub 5 (.b 9))) <|
  asgF (varF 9) (tgSub 5 (.t (opF ixD [.b 3, .b 7]))))
variable {n m k : Nat} {ra rh : List Nat}
/-! ### the program's joining, any two mats -/
theorem Pg_loop (ha : ra.length = n + m) (hh : rh.length = m + k) (hA : Pr (n + m) (rowF ra)) (hH : Pr (m + k) (rowF rh)) (hm : m ≤ 16) (hs : n + m + k ≤ 1000) {N K : Option D} :
    ∃ ps Q B6, goFor (tgN 6) bodyPb ((List.range (n + k)).map natD) [some (matD n m ra), some (matD m k rh), N, K, some (blsD (List.replicate m false)), some (.lst true []), none] = some (.nx [some (matD n m ra), some (matD m k rh), N, K, some (blsD ps), some (.lst true ((bhL ra rh n m k).2.map natD)), B6]) ∧ Md (rowF ra) (rowF rh) n m k Q ps ∧ (fQ (rowF ra) (rowF rh) n m k Q).1 = 0 ∧ ∀ x, Oue n m k x → Oue n m k ((fQ (rowF ra) (rowF rh) n m k Q).2 x) := by
  obtain ⟨ρ', g1, ps, Q, B6, rfl, i1, i2, i3⟩ := for_inv (tg := tgN 6) (body := bodyPb) (ds := (List.range (n + k)).map natD) (ρ := [some (matD n m ra), some (matD m k rh), N, K, some (blsD (List.replicate m false)), some (.lst true []), none])
    (fun j ρ => ∃ ps Q B6, ρ = [some (matD n m ra), some (matD m k rh), N, K, some (blsD ps), some (.lst true (((List.range j).map fun p => num n m ((bhF (rowF ra) (rowF rh) n m k).2 (xp n m p))).map natD)), B6] ∧ Md (rowF ra) (rowF rh) n m k Q ps ∧ (fQ (rowF ra) (rowF rh) n m k Q).1 = 0 ∧ ∀ p, p < j → Oue n m k ((fQ (rowF ra) (rowF rh) n m k Q).2 (xp n m p)))
    ⟨List.replicate m false, [], none, rfl, ⟨⟨List.nodup_nil, by simp, by simp, fun q => by simp [bt_rep]⟩, fun y ⟨p, hp, _⟩ => by cases hp⟩, rfl, fun p hp => by omega⟩ (by
      rintro j d ρ hd ⟨ps, Q, B6, rfl, i1, i2, i3⟩
      rw [List.getElem?_map] at hd
      obtain ⟨j', hj', rfl⟩ := Option.map_eq_some_iff.mp hd
      obtain ⟨hj, hjj⟩ := List.getElem?_eq_some_iff.mp hj'
      rw [List.length_range] at hj
      obtain rfl : j' = j := by simpa using hjj.symm
      obtain ⟨ps', R, w, q1, q2, q3⟩ := far_all hA hH i1 i2 hj
      have two : 2 ^ m ≤ 2 ^ 16 := Nat.pow_le_pow_right (by omega) hm
      have e' := far_end_ok (n := n) (m := m) (k := k) (p := j') (ps := ps) (f := 2 ^ m + 1) (by omega) ha hh (fun p hp => (hA p hp).1) (fun p hp => (hH p hp).1) hj i1.sd.len (by omega) w
      have er : ((List.range (j' + 1)).map fun p => num n m ((bhF (rowF ra) (rowF rh) n m k).2 (xp n m p))).map natD = ((List.range j').map fun p => num n m ((bhF (rowF ra) (rowF rh) n m k).2 (xp n m p))).map natD ++ [.int (num n m ((bhF (rowF ra) (rowF rh) n m k).2 (xp n m j')) : Nat)] := by
        rw [List.range_succ, List.map_append, List.map_append]; rfl
      have ap := appD_e (xs := ((List.range j').map fun p => num n m ((bhF (rowF ra) (rowF rh) n m k).2 (xp n m p))).map natD) (.int (num n m ((bhF (rowF ra) (rowF rh) n m k).2 (xp n m j')) : Nat)) (by rw [List.length_map, List.length_map, List.length_range]; omega)
      have p1 : fn_p_far_end.pins = [true, true, true, true] := rfl
      have o1 := own_bls ps
      have o2 := own_bls ps'
      have nm := noOwn_matD n m ra
      have nh := noOwn_matD m k rh
      refine ⟨[some (matD n m ra), some (matD m k rh), N, K, some (blsD ps'), some (.lst true (((List.range (j' + 1)).map fun p => num n m ((bhF (rowF ra) (rowF rh) n m k).2 (xp n m p))).map natD)), some (natD j')], .inl ?_, ps', Q ++ R, some (natD j'), rfl, q1, q2, fun p hp => ?_⟩
      · rw [er, turn_e]
        unfold bodyPb
        generalize blsD ps = PS at *
        generalize blsD ps' = PS' at *
        generalize matD m k rh = MH at *
        generalize matD n m ra = MR at *
        generalize ((List.range j').map fun p => num n m ((bhF (rowF ra) (rowF rh) n m k).2 (xp n m p))).map natD = L at *
        generalize num n m ((bhF (rowF ra) (rowF rh) n m k).2 (xp n m j')) = z at *
        rw [natD_i]
        simp [e', p1, o1, o2, nm, nh, ap]
      · by_cases c : p = j'
        · subst c; exact q3
        · have := i3 p (by omega)
          rw [fQ_keeps hA hH (xp_out (by omega)) R Q q1.sd.nd q1.sd.lt this]
          exact this)
  rw [List.length_map, List.length_range] at g1 i3
  refine ⟨ps, Q, B6, g1, i1, i2, fun x hx => ?_⟩
  have := num_xp hx
  rw [← this.2]
  exact i3 _ this.1
theorem Lrg_loop (ha : ra.length = n + m) (hh : rh.length = m + k) (hs : n + m + k ≤ 1000) {A4 A5 : Option D} : ∀ (f F a : Nat) (ps ps' : List Bool), lrW (rowF ra) (rowF rh) n m f a ps = some ps' → f ≤ F → ps.length = m → a < m → ∃ B6, goWhile condLr bodyLr F [some (matD n m ra), some (matD m k rh), some (blsD ps), some (.int (n : Nat)), A4, A5, some (natD a)] = some (.nx [some (matD n m ra), some (matD m k rh), some (blsD ps'), some (.int (n : Nat)), A4, A5, B6])
  | 0, F, a, ps, ps', h, _, _, _ => by cases h
  | f + 1, F, a, ps, ps', h, hF, hl, hav => by
    obtain ⟨F, rfl⟩ : ∃ F', F = F' + 1 := ⟨F - 1, by omega⟩
    rw [lrW_e] at h
    have b0 := bl_at (ps := ps) (j := a) (by omega)
    by_cases c : bt ps a = true
    · rw [if_pos c] at h
      cases h
      rw [c] at b0
      refine ⟨some (natD a), wh_f ?_⟩
      unfold condLr blsD natD
      generalize ps.map D.bl = B at *
      simp [b0]
    · rw [if_neg c] at h
      have c0 : bt ps a = false := by simpa using c
      rw [c0] at b0
      by_cases c2 : n ≤ rowF ra (n + a) ∧ rowF ra (n + a) < n + m ∧ rowF rh (rowF ra (n + a) - n) < m
      · rw [if_pos c2] at h
        obtain ⟨c3, c4, c5⟩ := c2
        obtain ⟨q, hq⟩ : ∃ q, q = rowF ra (n + a) - n := ⟨_, rfl⟩
        rw [← hq] at h c5
        have s1 : condLr [some (matD n m ra), some (matD m k rh), some (blsD ps), some (.int (n : Nat)), A4, A5, some (natD a)] = some (true, [some (matD n m ra), some (matD m k rh), some (blsD ps), some (.int (n : Nat)), A4, A5, some (natD a)]) := by
          unfold condLr blsD natD
          generalize ps.map D.bl = B at *
          simp [b0]
        have x1 : atI (ra.map natD) ((n : Int) + (a : Int)) = some (.int ((n : Int) + (q : Int))) := by
          have : atI (ra.map natD) ((n + a : Nat) : Int) = some (.int (rowF ra (n + a) : Nat)) := atI_mapN (z := 0) (by omega)
          rw [show rowF ra (n + a) = n + q by omega] at this
          exact this
        have x2 : atI (rh.map natD) (q : Int) = some (.int (rowF rh q : Nat)) := atI_mapN (z := 0) (by omega)
        have i1 : ixN m ((a : Nat) : Int) = some a := ixN_nat (by omega)
        have i2 : ixN m ((q : Nat) : Int) = some q := ixN_nat (by omega)
        have ll : (ps.map D.bl).length = m := by rw [List.length_map]; exact hl
        have nb := noOwns_bls ps
        have no := noOwns_natDs ra
        have nh := noOwns_natDs rh
        have ee : (n : Int) + (q : Int) - (n : Int) = (q : Int) := by omega
        have sb : ((ps.map D.bl).set a (.bl true)).set q (.bl true) = ((ps.set a true).set q true).map D.bl := by rw [set_bls, set_bls]
        have s2 : bodyLr [some (matD n m ra), some (matD m k rh), some (blsD ps), some (.int (n : Nat)), A4, A5, some (natD a)] = some (.nx [some (matD n m ra), some (matD m k rh), some (blsD ((ps.set a true).set q true)), some (.int (n : Nat)), A4, A5, some (natD (rowF rh q))]) := by
          unfold bodyLr blsD
          rw [← sb]
          unfold matD natD
          have e0 : ra.map natD = ra.map (fun i => D.int (i : Nat)) := rfl
          have e1 : rh.map natD = rh.map (fun i => D.int (i : Nat)) := rfl
          rw [← e0, ← e1]
          generalize ps.map D.bl = B at *
          generalize rh.map natD = H at *
          generalize ra.map natD = A at *
          generalize rowF rh q = z at *
          simp [no, nh, x1, x2, i1, i2, ll, ee]
        obtain ⟨B6, g⟩ := Lrg_loop ha hh hs (A4 := A4) (A5 := A5) f F _ _ ps' h (by omega) (by simp only [List.length_set]; exact hl) c5
        exact ⟨B6, (wh_t s1 s2).trans g⟩
      · rw [if_neg c2] at h; cases h
theorem loose_g (ha : ra.length = n + m) (hh : rh.length = m + k) (hA : Pr (n + m) (rowF ra)) (hH : Pr (m + k) (rowF rh)) (hs : n + m + k ≤ 1000) {ps : List Bool} {Q : List Nat} (h : Md (rowF ra) (rowF rh) n m k Q ps) (h0 : (fQ (rowF ra) (rowF rh) n m k Q).1 = 0) (no : ∀ x, Oue n m k x → Oue n m k ((fQ (rowF ra) (rowF rh) n m k Q).2 x)) :
    ∃ ps', fn_p_loose_rings.sem [matD n m ra, matD m k rh, blsD ps] = some (.int ((bhL ra rh n m k).1 : Nat), [some (matD n m ra), some (matD m k rh), some (blsD ps')]) := by
  obtain ⟨ρ', g1, ps', Q', B5, B6, rfl, i1, i2, i3⟩ := for_inv (tg := tgN 5) (body := bodyLo) (ds := (List.range m).map natD) (ρ := [some (matD n m ra), some (matD m k rh), some (blsD ps), some (.int (n : Nat)), some (.int 0), none, none])
    (fun j ρ => ∃ ps Q B5 B6, ρ = [some (matD n m ra), some (matD m k rh), some (blsD ps), some (.int (n : Nat)), some (.int ((fQ (rowF ra) (rowF rh) n m k Q).1 : Nat)), B5, B6] ∧ Md (rowF ra) (rowF rh) n m k Q ps ∧ (∀ x, Oue n m k x → Oue n m k ((fQ (rowF ra) (rowF rh) n m k Q).2 x)) ∧ ∀ p, p < j → p ∈ Q)
    ⟨ps, Q, none, none, by rw [h0]; rfl, h, no, fun p hp => by omega⟩ (by
      rintro j d ρ hd ⟨ps, Q, B5, B6, rfl, i1, i2, i3⟩
      rw [List.getElem?_map] at hd
      obtain ⟨j', hj', rfl⟩ := Option.map_eq_some_iff.mp hd
      obtain ⟨hj, hjj⟩ := List.getElem?_eq_some_iff.mp hj'
      rw [List.length_range] at hj
      obtain rfl : j' = j := by simpa using hjj.symm
      have hl := i1.sd.len
      by_cases c : bt ps j' = true
      · refine ⟨_, .inl (Lo_pass (by omega) c), ps, Q, _, _, rfl, i1, i2, fun p hp => ?_⟩
        by_cases e : p = j'
        · subst e; exact (i1.sd.fl p).mp c
        · exact i3 p (by omega)
      · have c0 : bt ps j' = false := by simpa using c
        obtain ⟨ps', R, w, q1, q2, q3, q4⟩ := lrW_ok hA hH i1 i2 hj c0
        obtain ⟨B6', g⟩ := Lrg_loop ha hh hs (A4 := some (.int ((fQ (rowF ra) (rowF rh) n m k Q).1 + 1 : Nat))) (A5 := some (natD j')) (m + 2) FUEL j' ps ps' w (Nat.le_trans (show m + 2 ≤ 1002 by omega) (by decide)) hl hj
        refine ⟨[some (matD n m ra), some (matD m k rh), some (blsD ps'), some (.int (n : Nat)), some (.int ((fQ (rowF ra) (rowF rh) n m k (Q ++ R)).1 : Nat)), some (natD j'), B6'], .inl ?_, ps', Q ++ R, _, _, rfl, q1, q3, fun p hp => ?_⟩
        · rw [q2, turn_e]
          have b0 := bl_at (ps := ps) (j := j') (by omega)
          rw [c0] at b0
          have c1 : (((fQ (rowF ra) (rowF rh) n m k Q).1 + 1 : Nat) : Int) = ((fQ (rowF ra) (rowF rh) n m k Q).1 : Int) + 1 := by omega
          rw [c1] at g ⊢
          unfold bodyLo
          rw [natD_i] at g ⊢
          unfold blsD at *
          generalize ps.map D.bl = B at *
          generalize ps'.map D.bl = B' at *
          generalize matD m k rh = MH at *
          generalize matD n m ra = MR at *
          generalize (fQ (rowF ra) (rowF rh) n m k Q).1 = z at *
          simp [b0, g]
        · by_cases e : p = j'
          · subst e; exact q4
          · exact List.mem_append_left _ (i3 p (by omega)))
  rw [List.length_map, List.length_range] at i3
  have pm : Q'.Perm (List.range m) := (List.perm_ext_iff_of_nodup i1.sd.nd List.nodup_range).mpr fun q => ⟨fun z => List.mem_range.mpr (i1.sd.lt q z), fun z => i3 q (List.mem_range.mp z)⟩
  have er : (fQ (rowF ra) (rowF rh) n m k Q').1 = (bhL ra rh n m k).1 := by
    rw [fQ_perm hA hH i1.sd.nd i1.sd.lt pm]; rfl
  rw [er] at g1
  refine ⟨ps', ?_⟩
  have r1 := rng1_nat (u := m) (by omega)
  have nm : noOwns (ra.map natD) = true := noOwns_natDs ra
  unfold fn_p_loose_rings
  rw [bodyFn_sem, F_loose_e]
  unfold matD at *
  generalize blsD ps = PS at *
  generalize blsD ps' = PS' at *
  generalize rh.map natD = H at *
  generalize ra.map natD = A at *
  generalize (List.range m).map natD = RG at *
  generalize (bhL ra rh n m k).1 = hk at *
  simp [nm, r1, g1]
theorem put_g (ha : ra.length = n + m) (hh : rh.length = m + k) (hA : Pr (n + m) (rowF ra)) (hH : Pr (m + k) (rowF rh)) (hm : m ≤ 16) (hs : n + m + k ≤ 1000) : fn_p_put_behind.sem [matD n m ra, matD m k rh] = some (.tup [.int ((bhL ra rh n m k).1 : Nat), .int (n : Nat), .int (k : Nat), .tup ((bhL ra rh n m k).2.map natD)], [some (matD n m ra), some (matD m k rh)]) := by
  obtain ⟨ps, Q, B6, g, q1, q2, q3⟩ := Pg_loop ha hh hA hH hm hs (N := some (.int (n : Nat))) (K := some (.int (k : Nat)))
  obtain ⟨ps', e⟩ := loose_g ha hh hA hH hs q1 q2 q3
  have ml : mulD [.lst true [.bl false], .int (m : Nat)] = some (blsD (List.replicate m false)) := by
    rw [mulD_n (by simp) (by omega) (by omega) (by simp; omega), Int.toNat_natCast]
    exact congrArg (fun z => some (D.lst true z)) (flat_rep m)
  have r1 : rng1D [.int ((n : Int) + (k : Int))] = some ((List.range (n + k)).map natD) := rng1_nat (u := n + k) (by omega)
  have p1 : fn_p_loose_rings.pins = [true, true, true] := rfl
  have o1 := own_bls ps
  have o2 := own_bls ps'
  have nr := noOwns_natDs ra
  have nh := noOwns_natDs rh
  have nl := noOwns_natDs (bhL ra rh n m k).2
  have tl := tupleD_l (o := true) nl
  unfold fn_p_put_behind
  rw [bodyFn_sem, F_put_e]
  unfold matD at *
  generalize blsD (List.replicate m false) = P0 at *
  generalize blsD ps = PS at *
  generalize blsD ps' = PS' at *
  generalize (bhL ra rh n m k).2.map natD = L at *
  generalize (bhL ra rh n m k).1 = RR at *
  generalize rh.map natD = H at *
  generalize ra.map natD = A at *
  generalize (List.range (n + k)).map natD = RG at *
  clear q1 q2 q3
  simp [nr, nh, nl, ml, r1, g, e, p1, o1, o2, tl, small_le (n := 0) (by omega), small_le (n := 1) (by omega), small_le (n := 4) (by omega)]
def bodyR : FS := (asgF (opF ixD [.b 3, .b 6]) (tgSub 4 (.t (opF ixD [.b 3, .b 5]))))
theorem remade_ok {n m : Nat} {row placeL : List Nat} (hr : row.length = n + m) (hp : placeL.length = n + m) (hl : n + m ≤ 1000) (hrow : ∀ i j : Nat, row[i]? = some j → j < n + m)
    (hlt : ∀ i, i < n + m → placeL.getD i 0 < n + m) (hinj : ∀ i j, i < n + m → j < n + m → placeL.getD i 0 = placeL.getD j 0 → i = j) :
    ∃ new os, fn_p_remade.sem [.int (n : Nat), .int (m : Nat), .tup (row.map natD), .lst true (placeL.map natD)] = some (matD n m new, os) ∧ os = [some (.int (n : Nat)), some (.int (m : Nat)), some (.tup (row.map natD)), some (.lst true (placeL.map natD))] ∧ new.length = n + m ∧ ∀ i j : Nat, row[i]? = some j → new[placeL.getD i 0]? = some (placeL.getD j 0) := by
  obtain ⟨ρ', h1, new, a', b', rfl, n1, n2⟩ := for_inv (tg := (tgT 2 (tgCons (tgN 5) (tgCons (tgN 6) (tgNil))))) (body := bodyR) (ds := enumL (row.map natD)) (ρ := [some (.int (n : Nat)), some (.int (m : Nat)), some (.tup (row.map natD)), some (.lst true (placeL.map natD)), some (.lst true ((List.replicate (n + m) 0).map natD)), none, none])
    (fun k ρ => ∃ (new : List Nat) (a' b' : Option D), ρ = [some (.int (n : Nat)), some (.int (m : Nat)), some (.tup (row.map natD)), some (.lst true (placeL.map natD)), some (.lst true (new.map natD)), a', b'] ∧ new.length = n + m ∧ ∀ i j : Nat, i < k → row[i]? = some j → new[placeL.getD i 0]? = some (placeL.getD j 0))
    ⟨_, none, none, rfl, by simp, fun i j h => by omega⟩ (by
      rintro i d ρ hd ⟨new, a', b', rfl, n1, n2⟩
      obtain ⟨j, hj, rfl⟩ := enum_get hd
      have hi : i < n + m := by have := (List.getElem?_eq_some_iff.mp hj).1; omega
      have hjl := hrow i j hj
      refine ⟨_, .inl ?_, new.set (placeL.getD i 0) (placeL.getD j 0), some (.int (i : Nat)), some (.int (j : Nat)), rfl, by simp [n1], fun i' j' hi' e' => ?_⟩
      · have x1 : atI (placeL.map natD) (i : Nat) = some (natD (placeL.getD i 0)) := atI_mapN (by omega)
        have x2 : atI (placeL.map natD) (j : Nat) = some (natD (placeL.getD j 0)) := atI_mapN (by omega)
        have x3 : ixN (new.map natD).length ((placeL.getD i 0 : Nat) : Int) = some (placeL.getD i 0) := ixN_nat (by rw [List.length_map, n1]; exact hlt i hi)
        have x4 : (new.set (placeL.getD i 0) (placeL.getD j 0)).map natD = (new.map natD).set (placeL.getD i 0) (.int (placeL.getD j 0 : Nat)) := (map_setN _ _ _).symm
        rw [x4]
        obtain ⟨X, hX⟩ : ∃ X, X = placeL.map natD := ⟨_, rfl⟩
        obtain ⟨Y, hY⟩ : ∃ Y, Y = new.map natD := ⟨_, rfl⟩
        obtain ⟨Z, hZ⟩ : ∃ Z, Z = row.map natD := ⟨_, rfl⟩
        obtain ⟨p, hp⟩ : ∃ p, p = placeL.getD i 0 := ⟨_, rfl⟩
        obtain ⟨q, hq⟩ : ∃ q, q = placeL.getD j 0 := ⟨_, rfl⟩
        rw [← hX, ← hp, natD_i] at x1
        rw [← hX, ← hq, natD_i] at x2
        rw [← hY, ← hp] at x3
        rw [← hX, ← hY, ← hZ, ← hp, ← hq, turn_e]
        unfold bodyR
        simp [x1, x2, x3]
      · have hi2 : i' < n + m := by have := (List.getElem?_eq_some_iff.mp e').1; omega
        by_cases e : i' = i
        · subst e
          rw [hj] at e'
          cases e'
          rw [List.getElem?_set_self (by rw [n1]; exact hlt _ hi)]
        · rw [List.getElem?_set_ne (fun h => e (hinj _ _ hi2 hi h.symm))]
          exact n2 i' j' (by omega) e')
  refine ⟨new, _, ?_, rfl, n1, fun i j e => n2 i j ?_ e⟩
  · have m1 : mulD [.lst true [.int 0], .int ((n : Nat) + (m : Nat))] = some (.lst true ((List.replicate (n + m) 0).map natD)) := by
      rw [mulD_n (by simp) (by omega) (by omega) (by simp; omega)]
      have : ((n : Int) + (m : Int)).toNat = n + m := by omega
      rw [this]
      congr 2
      rw [List.map_replicate]
      induction (n + m) with
      | zero => rfl
      | succ n ih => rw [List.replicate_succ, List.replicate_succ, List.flatten_cons, ih]; rfl
    have ho := noOwns_natDs row
    have hf := freezes_natDs row
    have ho2 := noOwns_natDs new
    unfold matD
    obtain ⟨X, hX⟩ : ∃ X, X = (List.replicate (n + m) 0).map natD := ⟨_, rfl⟩
    obtain ⟨Y, hY⟩ : ∃ Y, Y = row.map natD := ⟨_, rfl⟩
    obtain ⟨Z, hZ⟩ : ∃ Z, Z = placeL.map natD := ⟨_, rfl⟩
    obtain ⟨U, hU⟩ : ∃ U, U = new.map natD := ⟨_, rfl⟩
    rw [← hX] at m1 h1
    rw [← hY] at ho hf h1 ⊢
    rw [← hZ] at h1 ⊢
    rw [← hU] at ho2 h1 ⊢
    unfold bodyR at h1
    unfold fn_p_remade F_p_remade
    rw [bodyFn_sem]
    simp [m1, h1, ho, hf, ho2, small_le, tupleD_l]
  · rw [enumL, List.length_map, List.length_zip, len_intsTo, List.length_map]
    have := (List.getElem?_eq_some_iff.mp e).1
    omega
end VS
set_option Elab.async false
set_option linter.all false
set_option maxRecDepth 100000
namespace VS
open PySem PySem.Spec PyProof.Rows L2 RZ
/-! ### the law's own walk through two mats -/
def bodySp : FS := (seqF (asgF (opF ixD [.t (opF ixD [.b 5, .b 10]), .t (opF subD [.b 11, .t (opF mulD [.b 2, .b 10])])]) (tgN 11)) <|
  seqF (ifF (orF (bT (opF (ltD) [.b 11, .b 2])) (bT (opF (geD) [.b 11, .t (opF addD [.b 2, .b 3])]))) (brkF) (passF)) <|
  seqF (asgF (litF (.bl true)) (tgSub 6 (.b 11))) <|
  asgF (opF subD [.t (litF (.int 1)), .b 10]) (tgN 10))
def bodySa : FS := (seqF (parF [10, 11] [.t (opF intD [.t (opF (geD) [.b 9, .t (opF addD [.b 2, .b 3])])]), .t (varF 9)]) <|
  seqF (forF (itRg rng1D [.t (opF addD [.t (opF mulD [.t (litF (.int 2)), .b 3]), .t (litF (.int 2))])]) (tgN 12) bodySp) <|
  dropF (mutF 7 appD [.t (ifE (bT (opF (ltD) [.b 11, .b 2])) (varF 11) (opF subD [.b 11, .b 3]))]))
def bodyRi : FS := (ifF (notF (tstF (.t (opF ixD [.b 6, .b 11])))) (seqF (asgF (litF (.bl true)) (tgSub 6 (.b 11))) <|
  seqF (asgF (opF ixD [.t (opF ixD [.b 5, .t (litF (.int 0))]), .b 11]) (tgN 11)) <|
  seqF (asgF (litF (.bl true)) (tgSub 6 (.b 11))) <|
  asgF (opF ixD [.t (opF ixD [.b 5, .t (litF (.int 1))]), .t (opF subD [.b 11, .b 2])]) (tgN 11)) (passF))
def bodyRs : FS := (seqF (asgF (opF addD [.b 8, .t (opF intD [.t (notV (opF ixD [.b 6, .b 9]))])]) (tgN 8)) <|
  seqF (asgF (varF 9) (tgN 11)) <|
  forF (itRg rng1D [.b 3]) (tgN 12) bodyRi)
theorem F_put_law : F_put = (seqF (asgF (tupF [.t (opF ixD [.b 0, .t (litF (.int 0))]), .t (opF ixD [.b 0, .t (litF (.int 1))]), .t (opF ixD [.b 1, .t (litF (.int 1))])]) (tgT 3 (tgCons (tgN 2) (tgCons (tgN 3) (tgCons (tgN 4) (tgNil)))))) <|
  seqF (parF [5, 6] [.t (lstF [.t (frzF (opF listD [.t (opF ixD [.b 0, .t (litF (.int 2))])])), .t (frzF (lcF [13] (itSeq (opF ixD [.b 1, .t (litF (.int 2))])) (tgN 13) (yesF) (opF addD [.b 2, .b 13])))]), .t (opF mulD [.t (lstF [.t (litF (.bl false))]), .t (opF addD [.b 2, .b 3])])]) <|
  seqF (parF [7, 8] [.t (lstF []), .t (litF (.int 0))]) <|
  seqF (forF (itSeq (opF addD [.t (opF (lrgD rng1D) [.b 2]), .t (opF (lrgD rng2D) [.t (opF addD [.b 2, .b 3]), .t (opF addD [.t (opF addD [.b 2, .b 3]), .b 4])])])) (tgN 9) bodySa) <|
  seqF (forF (itRg rng2D [.b 2, .t (opF addD [.b 2, .b 3])]) (tgN 9) bodyRs) <|
  retF (tupF [.t (movF 8), .t (tupF [.t (movF 2), .t (movF 4), .t (opF tupleD [.b 7])])])) := rfl
/-- the pegs passed, after those above -/
def metL (n : Nat) (ps : List Bool) : List Bool := List.replicate n false ++ ps
theorem metL_len (n : Nat) (ps : List Bool) : (metL n ps).length = n + ps.length := by simp [metL]
theorem metL_set {n a : Nat} {ps : List Bool} (h : n ≤ a) : (metL n ps).set a true = metL n (ps.set (a - n) true) := by
  unfold metL
  rw [List.set_append_right _ _ (by simpa using h), List.length_replicate]
theorem metL_at {n q : Nat} {ps : List Bool} (h : q < ps.length) : atI ((metL n ps).map D.bl) ((n + q : Nat) : Int) = some (.bl (bt ps q)) := by
  rw [atI_mapN (z := false) (by rw [metL_len]; omega)]
  congr 2
  unfold metL bt
  simp only [List.getD_eq_getElem?_getD]
  rw [List.getElem?_append_right (by simp), List.length_replicate, Nat.add_sub_cancel_left]
def shN (n : Nat) (rh : List Nat) : List Nat := rh.map fun x => n + x
theorem shN_at {n q : Nat} {rh : List Nat} (h : q < rh.length) : atI ((shN n rh).map natD) (q : Int) = some (.int ((n : Int) + (rowF rh q : Nat))) := by
  unfold shN
  rw [List.map_map, atI_mapN (z := 0) h]
  show some (natD (n + rowF rh q)) = _
  unfold natD
  congr 2
/-- what stands within the walk -/
def envP (X0 X1 X4 X7 X8 X9 X12 X13 : Option D) (n m : Nat) (ra rh : List Nat) (ps : List Bool) (side spot : Int) : Env := [X0, X1, some (.int (n : Nat)), some (.int (m : Nat)), X4, some (.lst true [.lst false (ra.map natD), .lst false ((shN n rh).map natD)]), some (.lst true ((metL n ps).map D.bl)), X7, X8, X9, some (.int side), some (.int spot), X12, X13]
variable {X0 X1 X4 X7 X8 X9 X12 X13 : Option D} {n m k : Nat} {ra rh : List Nat} {ps : List Bool}
theorem mulOk_0 (n : Int) : mulOk n 0 = true := mulOk_r (by omega) (by omega)
theorem mulOk_1 (n : Int) : mulOk n 1 = true := mulOk_r (by omega) (by omega)
theorem Sp_t1 {s : Nat} (hs : s < ra.length) (h : rowF ra s < n) : bodySp (envP X0 X1 X4 X7 X8 X9 X12 X13 n m ra rh ps 0 (s : Nat)) = some (.bk (envP X0 X1 X4 X7 X8 X9 X12 X13 n m ra rh ps 0 (rowF ra s : Nat))) := by
  have x1 : atI (ra.map natD) (s : Int) = some (.int (rowF ra s : Nat)) := atI_mapN (z := 0) hs
  have no := noOwns_natDs ra
  have c1 : ((rowF ra s : Nat) : Int) < (n : Int) := by omega
  have c2 : decide (((rowF ra s : Nat) : Int) < (n : Int)) = true := decide_eq_true c1
  unfold bodySp envP
  generalize (shN n rh).map natD = HH at *
  generalize (metL n ps).map D.bl = MM at *
  generalize ra.map natD = AA at *
  generalize rowF ra s = a at *
  simp [mulOk_0, mulOk_1, no, x1, c1, h]
theorem Sp_t2 {s : Nat} (hs : s < ra.length) (h : n ≤ rowF ra s) (h2 : rowF ra s < n + m) (hp : ps.length = m) : bodySp (envP X0 X1 X4 X7 X8 X9 X12 X13 n m ra rh ps 0 (s : Nat)) = some (.nx (envP X0 X1 X4 X7 X8 X9 X12 X13 n m ra rh (ps.set (rowF ra s - n) true) 1 (rowF ra s : Nat))) := by
  have x1 : atI (ra.map natD) (s : Int) = some (.int (rowF ra s : Nat)) := atI_mapN (z := 0) hs
  have no := noOwns_natDs ra
  have c1 : ¬ ((rowF ra s : Nat) : Int) < (n : Int) := by omega
  have c2 : ¬ (n : Int) + (m : Int) ≤ ((rowF ra s : Nat) : Int) := by omega
  have c3 : ¬ rowF ra s < n := by omega
  have c4 : ¬ n + m ≤ rowF ra s := by omega
  have ln : ((metL n ps).map D.bl).length = n + m := by rw [List.length_map, metL_len, hp]
  have i1 : ixN (n + m) ((rowF ra s : Nat) : Int) = some (rowF ra s) := ixN_nat h2
  have ms : ((metL n ps).map D.bl).set (rowF ra s) (.bl true) = (metL n (ps.set (rowF ra s - n) true)).map D.bl := by rw [set_bls, metL_set h]
  unfold bodySp envP
  rw [← ms]
  have nb := noOwns_bls (metL n ps)
  generalize (shN n rh).map natD = HH at *
  generalize (metL n ps).map D.bl = MM at *
  generalize ra.map natD = AA at *
  generalize rowF ra s = a at *
  simp [mulOk_0, mulOk_1, no, x1, c1, c2, c3, c4, ln, i1, nb]
theorem Sp_f1 {q : Nat} (hs : q < rh.length) (h : m ≤ rowF rh q) : bodySp (envP X0 X1 X4 X7 X8 X9 X12 X13 n m ra rh ps 1 ((n : Int) + (q : Int))) = some (.bk (envP X0 X1 X4 X7 X8 X9 X12 X13 n m ra rh ps 1 ((n : Int) + (rowF rh q : Nat)))) := by
  have x1 := shN_at (n := n) hs
  have no := noOwns_natDs (shN n rh)
  have ee : (n : Int) + (q : Int) - (n : Int) = (q : Int) := by omega
  have c1 : ¬ (n : Int) + ((rowF rh q : Nat) : Int) < (n : Int) := by omega
  have c2 : (n : Int) + (m : Int) ≤ (n : Int) + ((rowF rh q : Nat) : Int) := by omega
  unfold bodySp envP
  generalize (shN n rh).map natD = HH at *
  generalize (metL n ps).map D.bl = MM at *
  generalize ra.map natD = AA at *
  generalize rowF rh q = a at *
  simp [mulOk_0, mulOk_1, no, x1, c1, c2, h, ee]
theorem Sp_f2 {q : Nat} (hs : q < rh.length) (h : rowF rh q < m) (hp : ps.length = m) : bodySp (envP X0 X1 X4 X7 X8 X9 X12 X13 n m ra rh ps 1 ((n : Int) + (q : Int))) = some (.nx (envP X0 X1 X4 X7 X8 X9 X12 X13 n m ra rh (ps.set (rowF rh q) true) 0 ((n + rowF rh q : Nat) : Int))) := by
  have x1 := shN_at (n := n) hs
  have no := noOwns_natDs (shN n rh)
  have ee : (n : Int) + (q : Int) - (n : Int) = (q : Int) := by omega
  have c1 : ¬ (n : Int) + ((rowF rh q : Nat) : Int) < (n : Int) := by omega
  have c2 : ¬ (n : Int) + (m : Int) ≤ (n : Int) + ((rowF rh q : Nat) : Int) := by omega
  have c3 : ¬ m ≤ rowF rh q := by omega
  have ln : ((metL n ps).map D.bl).length = n + m := by rw [List.length_map, metL_len, hp]
  have i1 : ixN (n + m) ((n : Int) + ((rowF rh q : Nat) : Int)) = some (n + rowF rh q) := ixN_nat (k := n + rowF rh q) (by omega)
  have ms : ((metL n ps).map D.bl).set (n + rowF rh q) (.bl true) = (metL n (ps.set (rowF rh q) true)).map D.bl := by rw [set_bls, metL_set (by omega), Nat.add_sub_cancel_left]
  have cs : ((n + rowF rh q : Nat) : Int) = (n : Int) + ((rowF rh q : Nat) : Int) := by omega
  unfold bodySp envP
  rw [← ms, cs]
  have nb := noOwns_bls (metL n ps)
  generalize (shN n rh).map natD = HH at *
  generalize (metL n ps).map D.bl = MM at *
  generalize ra.map natD = AA at *
  generalize rowF rh q = a at *
  simp [mulOk_0, mulOk_1, no, x1, c1, c2, c3, ln, i1, nb, ee]
/-- where the walk stands before a look: on the one mat's side at spot s, or on the other's at spot n + q -/
def spI (n : Nat) (b : Bool) (s : Nat) : Int := if b = true then (s : Int) else (n : Int) + (s : Int)
def sdI (b : Bool) : Int := if b = true then 0 else 1
def lkA (ra rh : List Nat) (b : Bool) (s : Nat) : Nat := if b = true then rowF ra s else rowF rh s
theorem Sp_loop (ha : ra.length = n + m) (hh : rh.length = m + k) (hA : ∀ p, p < n + m → rowF ra p < n + m) (hH : ∀ p, p < m + k → rowF rh p < m + k) : ∀ (f : Nat) (ds : List D) (b : Bool) (s : Nat) (ps : List Bool) (r : Nat) (ps' : List Bool) (X12 : Option D), wk (rowF ra) (rowF rh) n m f b (lkA ra rh b s) ps = some (r, ps') → f ≤ ds.length → ps.length = m → (if b = true then s < n + m else s < m + k) →
    ∃ side' spot' Y12, goFor (tgN 12) bodySp ds (envP X0 X1 X4 X7 X8 X9 X12 X13 n m ra rh ps (sdI b) (spI n b s)) = some (.nx (envP X0 X1 X4 X7 X8 X9 Y12 X13 n m ra rh ps' side' spot')) ∧ ((spot' < n ∧ spot' = (r : Nat)) ∨ ((n : Int) + m ≤ spot' ∧ spot' - m = (r : Nat)))
  | 0, ds, b, s, ps, r, ps', X12, h, _, _, _ => by cases h
  | f + 1, [], b, s, ps, r, ps', X12, h, hl, _, _ => by simp at hl
  | f + 1, d :: ds, true, s, ps, r, ps', X12, h, hl, hp, hs => by
    have hs' : s < n + m := by simpa using hs
    have la : lkA ra rh true s = rowF ra s := rfl
    rw [la, wk_t] at h
    have t0 : turn (tgN 12) bodySp d (envP X0 X1 X4 X7 X8 X9 X12 X13 n m ra rh ps 0 (s : Nat)) = bodySp (envP X0 X1 X4 X7 X8 X9 (some d) X13 n m ra rh ps 0 (s : Nat)) := rfl
    show ∃ side' spot' Y12, goFor (tgN 12) bodySp (d :: ds) (envP X0 X1 X4 X7 X8 X9 X12 X13 n m ra rh ps 0 (s : Nat)) = _ ∧ _
    rw [goFor_cons, t0]
    by_cases c : rowF ra s < n
    · rw [if_pos c] at h
      cases h
      rw [Sp_t1 (by omega) c]
      exact ⟨_, _, _, rfl, .inl ⟨by omega, rfl⟩⟩
    · rw [if_neg c] at h
      have hb := hA s hs'
      rw [Sp_t2 (by omega) (by omega) hb hp]
      have := Sp_loop ha hh hA hH f ds false (rowF ra s - n) (ps.set (rowF ra s - n) true) r ps' (some d) h (by simpa using hl) (by simpa using hp) (by simp; omega)
      have e1 : spI n false (rowF ra s - n) = ((rowF ra s : Nat) : Int) := by
        show (n : Int) + ((rowF ra s - n : Nat) : Int) = _
        omega
      rw [e1] at this
      exact this
  | f + 1, d :: ds, false, s, ps, r, ps', X12, h, hl, hp, hs => by
    have hs' : s < m + k := by simpa using hs
    have la : lkA ra rh false s = rowF rh s := rfl
    have e : wk (rowF ra) (rowF rh) n m (f + 1) false (rowF rh s) ps = if m ≤ rowF rh s then some (n + rowF rh s - m, ps) else wk (rowF ra) (rowF rh) n m f true (rowF ra (n + rowF rh s)) (ps.set (rowF rh s) true) := rfl
    rw [la, e] at h
    have t0 : turn (tgN 12) bodySp d (envP X0 X1 X4 X7 X8 X9 X12 X13 n m ra rh ps 1 ((n : Int) + (s : Int))) = bodySp (envP X0 X1 X4 X7 X8 X9 (some d) X13 n m ra rh ps 1 ((n : Int) + (s : Int))) := rfl
    show ∃ side' spot' Y12, goFor (tgN 12) bodySp (d :: ds) (envP X0 X1 X4 X7 X8 X9 X12 X13 n m ra rh ps 1 ((n : Int) + (s : Int))) = _ ∧ _
    rw [goFor_cons, t0]
    by_cases c : m ≤ rowF rh s
    · rw [if_pos c] at h
      cases h
      rw [Sp_f1 (by omega) c]
      exact ⟨_, _, _, rfl, .inr ⟨by omega, by omega⟩⟩
    · rw [if_neg c] at h
      rw [Sp_f2 (by omega) (by omega) hp]
      exact Sp_loop ha hh hA hH f ds true (n + rowF rh s) (ps.set (rowF rh s) true) r ps' (some d) h (by simpa using hl) (by simpa using hp) (by simp; omega)
end VS
set_option Elab.async false
set_option linter.all false
set_option maxRecDepth 100000
namespace VS
open PySem PySem.Spec PyProof.Rows L2 RZ
variable {X0 X1 X4 X7 X8 X9 X12 X13 : Option D} {n m k : Nat} {ra rh : List Nat} {ps : List Bool}
def envQ (n m k : Nat) (ra rh : List Nat) (ps : List Bool) (ms : List D) (c : Int) (B9 B10 B11 B12 : Option D) : Env := [some (matD n m ra), some (matD m k rh), some (.int (n : Nat)), some (.int (m : Nat)), some (.int (k : Nat)), some (.lst true [.lst false (ra.map natD), .lst false ((shN n rh).map natD)]), some (.lst true ((metL n ps).map D.bl)), some (.lst true ms), some (.int c), B9, B10, B11, B12, none]
def stP (n m p : Nat) : Nat := if p < n then p else p + m
theorem Sa_turn {p r : Nat} {ps' : List Bool} {ms : List D} {c : Int} {B9 B10 B11 B12 : Option D} (ha : ra.length = n + m) (hh : rh.length = m + k) (hA : ∀ p, p < n + m → rowF ra p < n + m) (hH : ∀ p, p < m + k → rowF rh p < m + k) (hs : n + m + k ≤ 1000) (hp : p < n + k) (hl : ps.length = m) (hm : ms.length ≤ 1000) (hw : wk (rowF ra) (rowF rh) n m (2 * m + 1) (wkS (rowF ra) (rowF rh) n m p).1 (wkS (rowF ra) (rowF rh) n m p).2 ps = some (r, ps')) :
    ∃ C9 C10 C11 C12, turn (tgN 9) bodySa (natD (stP n m p)) (envQ n m k ra rh ps ms c B9 B10 B11 B12) = some (.nx (envQ n m k ra rh ps' (ms ++ [.int (r : Nat)]) c C9 C10 C11 C12)) := by
  obtain ⟨b, hb⟩ : ∃ b, b = decide (p < n) := ⟨_, rfl⟩
  obtain ⟨s, hS⟩ : ∃ s, s = if p < n then p else m + p - n := ⟨_, rfl⟩
  have hk : wkS (rowF ra) (rowF rh) n m p = (b, lkA ra rh b s) := by
    unfold wkS lkA
    by_cases cc : p < n
    · rw [if_pos cc, hb, hS, if_pos cc, decide_eq_true cc]; rfl
    · rw [if_neg cc, hb, hS, if_neg cc, decide_eq_false cc]; rfl
  rw [hk] at hw
  have hst : if b = true then s < n + m else s < m + k := by
    by_cases cc : p < n
    · rw [hb, hS, if_pos cc, decide_eq_true cc, if_pos rfl]; omega
    · rw [hb, hS, if_neg cc, decide_eq_false cc, if_neg (by simp)]; omega
  have hsp : spI n b s = ((stP n m p : Nat) : Int) := by
    unfold spI stP
    by_cases cc : p < n
    · rw [hb, hS, if_pos cc, decide_eq_true cc, if_pos rfl, if_pos cc]
    · rw [hb, hS, if_neg cc, decide_eq_false cc, if_neg (by simp), if_neg cc]; omega
  have hsd : sdI b = if (n : Int) + (m : Int) ≤ ((stP n m p : Nat) : Int) then 1 else 0 := by
    unfold sdI stP
    by_cases cc : p < n
    · rw [hb, decide_eq_true cc, if_pos rfl, if_pos cc, if_neg (by omega)]
    · rw [hb, decide_eq_false cc, if_neg (by simp), if_neg cc, if_pos (by omega)]
  have r1 : rng1D [.int (2 * (m : Int) + 2)] = some ((List.range (2 * m + 2)).map natD) := by
    have := rng1_nat (u := 2 * m + 2) (by omega)
    rw [← this]
    congr 2
  have mo : mulOk 2 (m : Int) = true := mulOk_l (by omega) (by omega)
  obtain ⟨side', spot', Y12, g, gr⟩ := Sp_loop (X0 := some (matD n m ra)) (X1 := some (matD m k rh)) (X4 := some (.int (k : Nat))) (X7 := some (.lst true ms)) (X8 := some (.int c)) (X9 := some (natD (stP n m p))) (X13 := none) ha hh hA hH (2 * m + 1) ((List.range (2 * m + 2)).map natD) b s ps r ps' B12 hw (by simp) hl hst
  refine ⟨some (natD (stP n m p)), some (.int side'), some (.int spot'), Y12, ?_⟩
  have ap := appD_e (xs := ms) (.int (r : Nat)) (by omega)
  rw [turn_e]
  unfold bodySa envQ
  unfold envP at g
  rw [hsp, hsd] at g
  rw [natD_i] at g ⊢
  generalize (stP n m p : Nat) = st at *
  generalize (metL n ps).map D.bl = MM at *
  generalize (metL n ps').map D.bl = MM' at *
  generalize matD n m ra = MA at *
  generalize matD m k rh = MB at *
  generalize (shN n rh).map natD = HH at *
  generalize ra.map natD = AA at *
  generalize (List.range (2 * m + 2)).map natD = RG at *
  by_cases d1 : (n : Int) + (m : Int) ≤ (st : Int)
  · rw [if_pos d1] at g
    rcases gr with ⟨g1, g2⟩ | ⟨g1, g2⟩
    · rw [← g2] at ap ⊢
      simp [d1, mo, r1, g, g1, ap]
    · have g3 : ¬ spot' < (n : Int) := by omega
      rw [← g2] at ap ⊢
      simp [d1, mo, r1, g, g3, ap]
  · rw [if_neg d1] at g
    rcases gr with ⟨g1, g2⟩ | ⟨g1, g2⟩
    · rw [← g2] at ap ⊢
      simp [d1, mo, r1, g, g1, ap]
    · have g3 : ¬ spot' < (n : Int) := by omega
      rw [← g2] at ap ⊢
      simp [d1, mo, r1, g, g3, ap]
theorem Sa_loop (ha : ra.length = n + m) (hh : rh.length = m + k) (hA : Pr (n + m) (rowF ra)) (hH : Pr (m + k) (rowF rh)) (hs : n + m + k ≤ 1000) :
    ∃ ps Q B9 B10 B11 B12, goFor (tgN 9) bodySa ((List.range (n + k)).map fun p => natD (stP n m p)) (envQ n m k ra rh (List.replicate m false) [] 0 none none none none) = some (.nx (envQ n m k ra rh ps ((bhL ra rh n m k).2.map natD) 0 B9 B10 B11 B12)) ∧ Md (rowF ra) (rowF rh) n m k Q ps ∧ (fQ (rowF ra) (rowF rh) n m k Q).1 = 0 ∧ ∀ x, Oue n m k x → Oue n m k ((fQ (rowF ra) (rowF rh) n m k Q).2 x) := by
  obtain ⟨ρ', g1, ps, Q, B9, B10, B11, B12, rfl, i1, i2, i3⟩ := for_inv (tg := tgN 9) (body := bodySa) (ds := (List.range (n + k)).map fun p => natD (stP n m p)) (ρ := envQ n m k ra rh (List.replicate m false) [] 0 none none none none)
    (fun j ρ => ∃ ps Q B9 B10 B11 B12, ρ = envQ n m k ra rh ps (((List.range j).map fun p => num n m ((bhF (rowF ra) (rowF rh) n m k).2 (xp n m p))).map natD) 0 B9 B10 B11 B12 ∧ Md (rowF ra) (rowF rh) n m k Q ps ∧ (fQ (rowF ra) (rowF rh) n m k Q).1 = 0 ∧ ∀ p, p < j → Oue n m k ((fQ (rowF ra) (rowF rh) n m k Q).2 (xp n m p)))
    ⟨List.replicate m false, [], none, none, none, none, rfl, ⟨⟨List.nodup_nil, by simp, by simp, fun q => by simp [bt_rep]⟩, fun y ⟨p, hp, _⟩ => by cases hp⟩, rfl, fun p hp => by omega⟩ (by
      rintro j d ρ hd ⟨ps, Q, B9, B10, B11, B12, rfl, i1, i2, i3⟩
      rw [List.getElem?_map] at hd
      obtain ⟨j', hj', rfl⟩ := Option.map_eq_some_iff.mp hd
      obtain ⟨hj, hjj⟩ := List.getElem?_eq_some_iff.mp hj'
      rw [List.length_range] at hj
      obtain rfl : j' = j := by simpa using hjj.symm
      obtain ⟨ps', R, w, q1, q2, q3⟩ := far_all hA hH i1 i2 hj
      have w2 := wk_2m hA hH hj w
      obtain ⟨C9, C10, C11, C12, t⟩ := Sa_turn (ms := ((List.range j').map fun p => num n m ((bhF (rowF ra) (rowF rh) n m k).2 (xp n m p))).map natD) (c := 0) (B9 := B9) (B10 := B10) (B11 := B11) (B12 := B12) ha hh (fun p hp => (hA p hp).1) (fun p hp => (hH p hp).1) hs hj i1.sd.len (by simp; omega) w2
      have er : ((List.range (j' + 1)).map fun p => num n m ((bhF (rowF ra) (rowF rh) n m k).2 (xp n m p))).map natD = ((List.range j').map fun p => num n m ((bhF (rowF ra) (rowF rh) n m k).2 (xp n m p))).map natD ++ [.int (num n m ((bhF (rowF ra) (rowF rh) n m k).2 (xp n m j')) : Nat)] := by
        rw [List.range_succ, List.map_append, List.map_append]; rfl
      rw [← er] at t
      refine ⟨_, .inl t, ps', Q ++ R, _, _, _, _, rfl, q1, q2, fun p hp => ?_⟩
      by_cases c : p = j'
      · subst c; exact q3
      · have := i3 p (by omega)
        rw [fQ_keeps hA hH (xp_out (by omega)) R Q q1.sd.nd q1.sd.lt this]
        exact this)
  rw [List.length_map, List.length_range] at g1 i3
  refine ⟨ps, Q, B9, B10, B11, B12, g1, i1, i2, fun x hx => ?_⟩
  have := num_xp hx
  rw [← this.2]
  exact i3 _ this.1
/-! ### the loose rings -/
def envR (X0 X1 X4 X7 X8 X9 X10 X12 X13 : Option D) (n m : Nat) (ra rh : List Nat) (ps : List Bool) (spot : Nat) : Env := [X0, X1, some (.int (n : Nat)), some (.int (m : Nat)), X4, some (.lst true [.lst false (ra.map natD), .lst false ((shN n rh).map natD)]), some (.lst true ((metL n ps).map D.bl)), X7, X8, X9, X10, some (.int ((n : Int) + (spot : Int))), X12, X13]
variable {X10 : Option D}
theorem Ri_t {s : Nat} (h : s < ps.length) (hb : bt ps s = true) : bodyRi (envR X0 X1 X4 X7 X8 X9 X10 X12 X13 n m ra rh ps s) = some (.nx (envR X0 X1 X4 X7 X8 X9 X10 X12 X13 n m ra rh ps s)) := by
  have b0 := metL_at (n := n) h
  rw [hb, show ((n + s : Nat) : Int) = (n : Int) + (s : Int) by omega] at b0
  unfold bodyRi envR
  generalize (metL n ps).map D.bl = MM at *
  generalize (shN n rh).map natD = HH at *
  generalize ra.map natD = AA at *
  simp [b0]
theorem Ri_f {s q : Nat} (ha : ra.length = n + m) (hh : rh.length = m + k) (hl : ps.length = m) (h : s < m) (hb : bt ps s = false) (h2 : rowF ra (n + s) = n + q) (h3 : q < m) : bodyRi (envR X0 X1 X4 X7 X8 X9 X10 X12 X13 n m ra rh ps s) = some (.nx (envR X0 X1 X4 X7 X8 X9 X10 X12 X13 n m ra rh ((ps.set s true).set q true) (rowF rh q))) := by
  have b0 := metL_at (n := n) (ps := ps) (q := s) (by omega)
  rw [hb, show ((n + s : Nat) : Int) = (n : Int) + (s : Int) by omega] at b0
  have x1 : atI (ra.map natD) ((n : Int) + (s : Int)) = some (.int ((n : Int) + (q : Int))) := by
    have : atI (ra.map natD) ((n + s : Nat) : Int) = some (.int (rowF ra (n + s) : Nat)) := atI_mapN (z := 0) (by omega)
    rw [h2] at this
    exact this
  have x2 := shN_at (n := n) (q := q) (rh := rh) (by omega)
  have ln : ((metL n ps).map D.bl).length = n + m := by rw [List.length_map, metL_len, hl]
  have i1 : ixN (n + m) ((n : Int) + (s : Int)) = some (n + s) := ixN_nat (k := n + s) (by omega)
  have i2 : ixN (n + m) ((n : Int) + (q : Int)) = some (n + q) := ixN_nat (k := n + q) (by omega)
  have ms : (((metL n ps).map D.bl).set (n + s) (.bl true)).set (n + q) (.bl true) = (metL n ((ps.set s true).set q true)).map D.bl := by
    rw [set_bls, metL_set (by omega), set_bls, metL_set (by omega), Nat.add_sub_cancel_left, Nat.add_sub_cancel_left]
  have ee : (n : Int) + (q : Int) - (n : Int) = (q : Int) := by omega
  have nb := noOwns_bls (metL n ps)
  have no := noOwns_natDs ra
  have nh := noOwns_natDs (shN n rh)
  unfold bodyRi envR
  rw [← ms]
  generalize (metL n ps).map D.bl = MM at *
  generalize (shN n rh).map natD = HH at *
  generalize ra.map natD = AA at *
  generalize rowF rh q = z at *
  simp [b0, x1, x2, ln, i1, i2, ee, nb, no, nh]
theorem Ri_idle {s : Nat} (h : s < ps.length) (hb : bt ps s = true) : ∀ (ds : List D) (X12 : Option D), ∃ Y12, goFor (tgN 12) bodyRi ds (envR X0 X1 X4 X7 X8 X9 X10 X12 X13 n m ra rh ps s) = some (.nx (envR X0 X1 X4 X7 X8 X9 X10 Y12 X13 n m ra rh ps s))
  | [], X12 => ⟨X12, rfl⟩
  | d :: ds, X12 => by
    have t0 : turn (tgN 12) bodyRi d (envR X0 X1 X4 X7 X8 X9 X10 X12 X13 n m ra rh ps s) = bodyRi (envR X0 X1 X4 X7 X8 X9 X10 (some d) X13 n m ra rh ps s) := rfl
    rw [goFor_cons, t0, Ri_t h hb, bd_some, loopK_nx]
    exact Ri_idle h hb ds (some d)
theorem Ri_loop (ha : ra.length = n + m) (hh : rh.length = m + k) : ∀ (f : Nat) (ds : List D) (s : Nat) (ps ps' : List Bool) (X12 : Option D), lrW (rowF ra) (rowF rh) n m f s ps = some ps' → cF ps ≤ ds.length → ps.length = m → s < m → ∃ s' Y12, goFor (tgN 12) bodyRi ds (envR X0 X1 X4 X7 X8 X9 X10 X12 X13 n m ra rh ps s) = some (.nx (envR X0 X1 X4 X7 X8 X9 X10 Y12 X13 n m ra rh ps' s'))
  | 0, ds, s, ps, ps', X12, h, _, _, _ => by cases h
  | f + 1, ds, s, ps, ps', X12, h, hc, hl, hs => by
    rw [lrW_e] at h
    by_cases c : bt ps s = true
    · rw [if_pos c] at h
      cases h
      obtain ⟨Y, g⟩ := Ri_idle (X0 := X0) (X1 := X1) (X4 := X4) (X7 := X7) (X8 := X8) (X9 := X9) (X10 := X10) (X13 := X13) (n := n) (m := m) (ra := ra) (rh := rh) (ps := ps) (s := s) (by omega) c ds X12
      exact ⟨s, Y, g⟩
    · rw [if_neg c] at h
      have c0 : bt ps s = false := by simpa using c
      by_cases c2 : n ≤ rowF ra (n + s) ∧ rowF ra (n + s) < n + m ∧ rowF rh (rowF ra (n + s) - n) < m
      · rw [if_pos c2] at h
        obtain ⟨c3, c4, c5⟩ := c2
        have z1 := cF_setF (ps := ps) (q := s) (by omega) c0
        cases ds with
        | nil => simp at hc; omega
        | cons d ds =>
          have t0 : turn (tgN 12) bodyRi d (envR X0 X1 X4 X7 X8 X9 X10 X12 X13 n m ra rh ps s) = bodyRi (envR X0 X1 X4 X7 X8 X9 X10 (some d) X13 n m ra rh ps s) := rfl
          have z2 := cF_set (ps := ps.set s true) (rowF ra (n + s) - n)
          rw [goFor_cons, t0, Ri_f (q := rowF ra (n + s) - n) ha hh hl hs c0 (by omega) (by omega), bd_some, loopK_nx]
          exact Ri_loop ha hh f ds _ _ ps' (some d) h (by simp only [List.length_cons] at hc; omega) (by simpa using hl) c5
      · rw [if_neg c2] at h; cases h
end VS
set_option Elab.async false
set_option linter.all false
set_option maxRecDepth 100000
namespace VS
open PySem PySem.Spec PyProof.Rows L2 RZ
variable {n m k : Nat} {ra rh : List Nat}
theorem mat_2 (n m : Nat) (r : List Nat) : ixD [matD n m r, .int 2] = some (.tup (r.map natD)) := by
  have no := noOwns_natDs r
  show (bd (atI _ 2) ownK) = _
  unfold natD at no ⊢
  simp [atI, no]
theorem mat_0 (n m : Nat) (r : List Nat) : ixD [matD n m r, .int 0] = some (.int (n : Nat)) := by
  show (bd (atI _ 0) ownK) = _
  simp [atI]
theorem mat_1 (n m : Nat) (r : List Nat) : ixD [matD n m r, .int 1] = some (.int (m : Nat)) := by
  show (bd (atI _ 1) ownK) = _
  simp [atI]
theorem Rs_turn {s : Nat} {ps ps' : List Bool} {ms : List D} {c : Nat} {B9 B10 B11 B12 : Option D} (ha : ra.length = n + m) (hh : rh.length = m + k) (hs : n + m + k ≤ 1000) (hp : s < m) (hl : ps.length = m) (hw : lrW (rowF ra) (rowF rh) n m (m + 2) s ps = some ps') :
    ∃ C9 C10 C11 C12, turn (tgN 9) bodyRs (natD (n + s)) (envQ n m k ra rh ps ms (c : Nat) B9 B10 B11 B12) = some (.nx (envQ n m k ra rh ps' ms (((if bt ps s = true then c else c + 1 : Nat)) : Int) C9 C10 C11 C12)) := by
  have r1 := rng1_nat (u := m) (by omega)
  have b0 := metL_at (n := n) (ps := ps) (q := s) (by omega)
  rw [show ((n + s : Nat) : Int) = (n : Int) + (s : Int) by omega] at b0
  have hc := cF_le ps
  obtain ⟨s', Y12, g⟩ := Ri_loop (X0 := some (matD n m ra)) (X1 := some (matD m k rh)) (X4 := some (.int (k : Nat))) (X7 := some (.lst true ms)) (X8 := some (.int ((if bt ps s = true then c else c + 1 : Nat) : Int))) (X9 := some (natD (n + s))) (X10 := B10) (X13 := none) ha hh (m + 2) ((List.range m).map natD) s ps ps' B12 hw (by simp; omega) hl hp
  refine ⟨some (natD (n + s)), B10, some (.int ((n : Int) + (s' : Int))), Y12, ?_⟩
  have cs : natD (n + s) = .int ((n : Int) + (s : Int)) := by unfold natD; congr 1
  rw [turn_e]
  unfold bodyRs envQ
  unfold envR at g
  rw [cs] at g ⊢
  generalize (metL n ps).map D.bl = MM at *
  generalize (metL n ps').map D.bl = MM' at *
  generalize matD n m ra = MA at *
  generalize matD m k rh = MB at *
  generalize (shN n rh).map natD = HH at *
  generalize ra.map natD = AA at *
  generalize (List.range m).map natD = RG at *
  by_cases cc : bt ps s = true
  · rw [cc] at b0
    rw [if_pos cc] at g ⊢
    simp [b0, r1, g]
  · have c0 : bt ps s = false := by simpa using cc
    rw [c0] at b0
    rw [if_neg cc] at g ⊢
    have c1 : ((c + 1 : Nat) : Int) = (c : Int) + 1 := by omega
    rw [c1] at g ⊢
    simp [b0, r1, g]
theorem Rs_loop (ha : ra.length = n + m) (hh : rh.length = m + k) (hA : Pr (n + m) (rowF ra)) (hH : Pr (m + k) (rowF rh)) (hs : n + m + k ≤ 1000) {ms : List D} {ps : List Bool} {Q : List Nat} {A9 A10 A11 A12 : Option D} (h : Md (rowF ra) (rowF rh) n m k Q ps) (h0 : (fQ (rowF ra) (rowF rh) n m k Q).1 = 0) (no : ∀ x, Oue n m k x → Oue n m k ((fQ (rowF ra) (rowF rh) n m k Q).2 x)) :
    ∃ ps' B9 B10 B11 B12, goFor (tgN 9) bodyRs ((List.range m).map fun s => natD (n + s)) (envQ n m k ra rh ps ms 0 A9 A10 A11 A12) = some (.nx (envQ n m k ra rh ps' ms ((bhL ra rh n m k).1 : Nat) B9 B10 B11 B12)) := by
  obtain ⟨ρ', g1, ps', Q', B9, B10, B11, B12, rfl, i1, i2, i3⟩ := for_inv (tg := tgN 9) (body := bodyRs) (ds := (List.range m).map fun s => natD (n + s)) (ρ := envQ n m k ra rh ps ms 0 A9 A10 A11 A12)
    (fun j ρ => ∃ ps Q B9 B10 B11 B12, ρ = envQ n m k ra rh ps ms ((fQ (rowF ra) (rowF rh) n m k Q).1 : Nat) B9 B10 B11 B12 ∧ Md (rowF ra) (rowF rh) n m k Q ps ∧ (∀ x, Oue n m k x → Oue n m k ((fQ (rowF ra) (rowF rh) n m k Q).2 x)) ∧ ∀ p, p < j → p ∈ Q)
    ⟨ps, Q, A9, A10, A11, A12, by rw [h0]; rfl, h, no, fun p hp => by omega⟩ (by
      rintro j d ρ hd ⟨ps, Q, B9, B10, B11, B12, rfl, i1, i2, i3⟩
      rw [List.getElem?_map] at hd
      obtain ⟨j', hj', rfl⟩ := Option.map_eq_some_iff.mp hd
      obtain ⟨hj, hjj⟩ := List.getElem?_eq_some_iff.mp hj'
      rw [List.length_range] at hj
      obtain rfl : j' = j := by simpa using hjj.symm
      have hl := i1.sd.len
      by_cases c : bt ps j' = true
      · have w : lrW (rowF ra) (rowF rh) n m (m + 2) j' ps = some ps := by rw [show m + 2 = (m + 1) + 1 by omega, lrW_e, if_pos c]
        obtain ⟨C9, C10, C11, C12, t⟩ := Rs_turn (ms := ms) (c := (fQ (rowF ra) (rowF rh) n m k Q).1) (B9 := B9) (B10 := B10) (B11 := B11) (B12 := B12) ha hh hs hj hl w
        rw [if_pos c] at t
        refine ⟨_, .inl t, ps, Q, _, _, _, _, rfl, i1, i2, fun p hp => ?_⟩
        by_cases e : p = j'
        · subst e; exact (i1.sd.fl p).mp c
        · exact i3 p (by omega)
      · have c0 : bt ps j' = false := by simpa using c
        obtain ⟨ps', R, w, q1, q2, q3, q4⟩ := lrW_ok hA hH i1 i2 hj c0
        obtain ⟨C9, C10, C11, C12, t⟩ := Rs_turn (ms := ms) (c := (fQ (rowF ra) (rowF rh) n m k Q).1) (B9 := B9) (B10 := B10) (B11 := B11) (B12 := B12) ha hh hs hj hl w
        rw [if_neg c, ← q2] at t
        refine ⟨_, .inl t, ps', Q ++ R, _, _, _, _, rfl, q1, q3, fun p hp => ?_⟩
        by_cases e : p = j'
        · subst e; exact q4
        · exact List.mem_append_left _ (i3 p (by omega)))
  rw [List.length_map, List.length_range] at i3
  have pm : Q'.Perm (List.range m) := (List.perm_ext_iff_of_nodup i1.sd.nd List.nodup_range).mpr fun q => ⟨fun z => List.mem_range.mpr (i1.sd.lt q z), fun z => i3 q (List.mem_range.mp z)⟩
  have er : (fQ (rowF ra) (rowF rh) n m k Q').1 = (bhL ra rh n m k).1 := by
    rw [fQ_perm hA hH i1.sd.nd i1.sd.lt pm]; rfl
  rw [er] at g1
  exact ⟨ps', B9, B10, B11, B12, g1⟩
/-- the law's own «one mat behind another» -/
theorem lput_ok (ha : ra.length = n + m) (hh : rh.length = m + k) (hA : Pr (n + m) (rowF ra)) (hH : Pr (m + k) (rowF rh)) (hs : n + m + k ≤ 1000) : fn_put.sem [matD n m ra, matD m k rh] = some (.tup [.int ((bhL ra rh n m k).1 : Nat), .tup [.int (n : Nat), .int (k : Nat), .tup ((bhL ra rh n m k).2.map natD)]], [some (matD n m ra), some (matD m k rh)]) := by
  obtain ⟨ps, Q, B9, B10, B11, B12, g1, m1, m2, m3⟩ := Sa_loop ha hh hA hH hs
  obtain ⟨ps', C9, C10, C11, C12, g2⟩ := Rs_loop ha hh hA hH hs (ms := (bhL ra rh n m k).2.map natD) (A9 := B9) (A10 := B10) (A11 := B11) (A12 := B12) m1 m2 m3
  have nr := noOwns_natDs ra
  have nh := noOwns_natDs rh
  have fr := freezes_natDs ra
  have fh := freezes_natDs rh
  have fs := freezes_natDs (shN n rh)
  have lc : goLc [13] (tgN 13) yesF (opF addD [.b 2, .b 13]) (rh.map natD) [some (matD n m ra), some (matD m k rh), some (.int (n : Nat)), some (.int (m : Nat)), some (.int (k : Nat)), none, none, none, none, none, none, none, none, none] = some ((shN n rh).map natD, [some (matD n m ra), some (matD m k rh), some (.int (n : Nat)), some (.int (m : Nat)), some (.int (k : Nat)), none, none, none, none, none, none, none, none, none]) := by
    rw [show (shN n rh).map natD = rh.map fun x => natD (n + x) by unfold shN; rw [List.map_map]; rfl]
    refine goLc_mapI natD _ rh fun x hx => ?_
    rw [lcTurn_e, natD_i]
    have : natD (n + x) = .int ((n : Int) + (x : Int)) := by unfold natD; congr 1
    rw [this]
    generalize matD n m ra = MA at *
    generalize matD m k rh = MB at *
    simp
  have mt : mulD [.lst true [.bl false], .int ((n : Int) + (m : Int))] = some (.lst true ((metL n (List.replicate m false)).map D.bl)) := by
    rw [mulD_n (by simp) (by omega) (by omega) (by simp; omega), show ((n : Int) + (m : Int)).toNat = n + m by omega, flat_rep]
    unfold metL
    rw [List.replicate_append_replicate]
  have r1 := rng1_nat (u := n) (by omega)
  have r2 := rng2_nat (lo := n + m) (n := k) (by omega) (by omega)
  rw [show ((n + m : Nat) : Int) = (n : Int) + (m : Int) by omega] at r2
  have r3 := rng2_nat (lo := n) (n := m) (by omega) (by omega)
  have ad : addD [.lst true ((List.range n).map natD), .lst true ((List.range k).map fun i => natD (n + m + i))] = some (.lst true ((List.range (n + k)).map fun p => natD (stP n m p))) := by
    rw [addD_l (noOwns_natDs _) (noOwns_map (fun _ => by simp) _) (by simp; omega)]
    refine congrArg (fun z => some (D.lst true z)) ?_
    rw [List.range_add, List.map_append, List.map_map]
    refine (congrArg (fun x => x ++ _) ?_).trans (congrArg (fun x => _ ++ x) ?_)
    · refine List.map_congr_left fun p hp => ?_
      unfold stP
      rw [if_pos (List.mem_range.mp hp)]
    · refine List.map_congr_left fun p hp => ?_
      show natD (n + m + p) = natD (stP n m (n + p))
      unfold stP
      rw [if_neg (by omega)]
      exact congrArg natD (by omega)
  have f4 : freezes ((List.range (n + k)).map fun p => natD (stP n m p)) = (List.range (n + k)).map fun p => natD (stP n m p) := by
    have := freezes_natDs ((List.range (n + k)).map (stP n m))
    rw [List.map_map] at this
    exact this
  have sl : decide (((shN n rh).map natD).length ≤ smallL) = true := small_le (by simp [shN]; omega)
  have l1 : ((List.range n).map natD).length ≤ 100000 := by simp; omega
  have l2 : ((List.range k).map fun i => natD (n + m + i)).length ≤ 100000 := by simp; omega
  have a0 : ixD [matD n m ra, .int 0] = some (.int (n : Nat)) := mat_0 _ _ _
  have a1 : ixD [matD n m ra, .int 1] = some (.int (m : Nat)) := mat_1 _ _ _
  have b1 : ixD [matD m k rh, .int 1] = some (.int (k : Nat)) := mat_1 _ _ _
  have a2 : ixD [matD n m ra, .int 2] = some (.tup (ra.map natD)) := mat_2 _ _ _
  have b2 : ixD [matD m k rh, .int 2] = some (.tup (rh.map natD)) := mat_2 _ _ _
  have ld : listD [.tup (ra.map natD)] = some (.lst true (ra.map natD)) := listD_t nr
  have nm := noOwn_matD n m ra
  have nk := noOwn_matD m k rh
  have nn := noOwns_map (f := fun p => natD (stP n m p)) (fun _ => by simp) (List.range (n + k))
  have fz := freezes_natDs (shN n rh)
  have nb := noOwns_natDs (bhL ra rh n m k).2
  unfold envQ at g1 g2
  unfold fn_put
  rw [bodyFn_sem, F_put_law]
  generalize (metL n (List.replicate m false)).map D.bl = MM at *
  generalize (metL n ps).map D.bl = MM1 at *
  generalize (metL n ps').map D.bl = MM2 at *
  generalize matD n m ra = MA at *
  generalize matD m k rh = MB at *
  generalize (shN n rh).map natD = HH at *
  generalize ra.map natD = AA at *
  generalize rh.map natD = BB at *
  generalize (List.range n).map natD = RG at *
  generalize ((List.range k).map fun i => natD (n + m + i)) = RG2 at *
  generalize ((List.range m).map fun i => natD (n + i)) = RG3 at *
  generalize ((List.range (n + k)).map fun p => natD (stP n m p)) = RG4 at *
  generalize (bhL ra rh n m k).2.map natD = BL at *
  generalize (bhL ra rh n m k).1 = br at *
  simp [a0, a1, b1, a2, b2, ld, nr, nh, fr, fh, fz, lc, mt, r1, r2, r3, ad, l1, l2, lrgK_e, g1, g2, nm, nk, nn, nb, tupleD_l, small_le, sl, f4]
end VS
set_option Elab.async false
set_option linter.all false
set_option maxRecDepth 100000
namespace VS
open PySem PySem.Spec PyProof.Rows L2 RZ
def toI (r : List Nat) : List Int := r.map (fun i : Nat => (i : Int))
theorem toI_inj {r s : List Nat} (h : toI r = toI s) : r = s := by
  unfold toI at h
  refine List.map_inj_right (fun a b e => ?_) |>.mp h
  exact Int.ofNat.inj e
theorem pyDs_nats (r : List Nat) : pyDs (r.map natD) = (toI r).map PyData.int := by
  rw [pyDs_map, List.map_map, toI, List.map_map]
  rfl
theorem eqvAll_ints : ∀ r s : List Int, PyData.eqvAll (r.map PyData.int) (s.map PyData.int) = true → r = s
  | [], [], _ => rfl
  | [], _ :: _, h => by simp [PyData.eqvAll] at h
  | _ :: _, [], h => by simp [PyData.eqvAll] at h
  | x :: r, y :: s, h => by
    simp only [List.map_cons, PyData.eqvAll, Bool.and_eq_true, PyData.eqv, beq_iff_eq] at h
    rw [h.1, eqvAll_ints r s h.2]
theorem alikeAll_ints : ∀ r s : List Int, PySem.W.alikeAll (r.map PyData.int) (s.map PyData.int) = true
  | [], _ => by simp [PySem.W.alikeAll]
  | _ :: _, [] => by simp [PySem.W.alikeAll]
  | x :: r, y :: s => by simp [PySem.W.alikeAll, PySem.W.alike, alikeAll_ints r s]
def matP (n m : Nat) (r : List Nat) : PyData := .tuple [.int (n : Nat), .int (m : Nat), .tuple ((toI r).map PyData.int)]
theorem pyD_mat (n m : Nat) (r : List Nat) : pyD (matD n m r) = matP n m r := by
  unfold matD matP
  simp only [pyD, pyDs, pyDs_nats]
theorem lt_mat (n m : Nat) (r s : List Nat) : PySem.W.dataLt (matP n m r) (matP n m s) = decide (toI r < toI s) := by
  unfold matP
  have e : PyProof.Rows.lexLt PyProof.Rows.itemOrd (PySem.W.keyToksAll []) (PySem.W.keyToksAll []) = false := PyProof.Rows.lex_irrefl _
  rw [PySem.W.dataLt_tuple, PySem.W.dataLt_cons (by simp [PySem.W.alike]), if_pos (by simp [PyData.eqv]), PySem.W.dataLt_cons (by simp [PySem.W.alike]), if_pos (by simp [PyData.eqv]), PySem.W.dataLt_cons (by simp [PySem.W.alike, alikeAll_ints])]
  split
  · rename_i h
    have := eqvAll_ints (toI r) (toI s) (by simpa [PyData.eqv] using h)
    rw [this, e]
    simp
  · rw [PySem.W.dataLt_tuple]
    exact PySem.W.dataLt_ints (toI r) (toI s)
def rowLe (r s : List Nat) : Bool := decide (toI r ≤ toI s)
theorem le_mat (n m : Nat) (r s : List Nat) : PySem.W.dataLe false pyD (matD n m r) (matD n m s) = rowLe r s := by
  show (!PySem.W.dataLt (pyD (matD n m s)) (pyD (matD n m r))) = _
  rw [pyD_mat, pyD_mat, lt_mat]
  unfold rowLe
  by_cases h : toI s < toI r
  · have h' : ¬ toI r ≤ toI s := fun q => List.not_lt.mpr q h
    simp [h, h']
  · have h' : toI r ≤ toI s := List.not_lt.mp h
    simp [h, h']
theorem sort_mats (n m : Nat) (rs : List (List Nat)) : sortMD (rs.map (matD n m)) = (rs.mergeSort rowLe).map (matD n m) :=
  (List.map_mergeSort (r := rowLe) (s := PySem.W.dataLe false pyD) (f := matD n m) (l := rs) fun a _ b _ => (le_mat n m a b).symm).symm
theorem sort_perm {rs ss : List (List Nat)} (h : rs.Perm ss) : rs.mergeSort rowLe = ss.mergeSort rowLe := by
  have tr : ∀ a b c : List Nat, rowLe a b = true → rowLe b c = true → rowLe a c = true := fun a b c h k => by
    unfold rowLe at *
    exact decide_eq_true (List.le_trans (of_decide_eq_true h) (of_decide_eq_true k))
  have to : ∀ a b : List Nat, (rowLe a b || rowLe b a) = true := fun a b => by
    unfold rowLe
    rcases List.le_total (toI a) (toI b) with h | h <;> simp [h]
  refine List.Perm.eq_of_pairwise (fun a b _ _ h k => ?_) (List.pairwise_mergeSort tr to rs) (List.pairwise_mergeSort tr to ss) (((List.mergeSort_perm rs rowLe).trans h).trans (List.mergeSort_perm ss rowLe).symm)
  unfold rowLe at h k
  exact toI_inj (List.le_antisymm (of_decide_eq_true h) (of_decide_eq_true k))
theorem noTys_nats (r : List Nat) : noTys (r.map natD) = true := by
  induction r with
  | nil => rfl
  | cons x r ih => rw [List.map_cons, noTys, ih]; rfl
theorem noTys_mats (n m : Nat) : ∀ rs : List (List Nat), noTys (rs.map (matD n m)) = true
  | [] => rfl
  | r :: rs => by
    rw [List.map_cons, noTys, noTys_mats n m rs]
    unfold matD
    simp only [noTy, noTys, noTys_nats]
    rfl
theorem depth_ints : ∀ r : List Int, PyData.depthAll (r.map PyData.int) ≤ 1
  | [] => by simp [PyData.depthAll]
  | x :: r => by
    have := depth_ints r
    simp only [List.map_cons, PyData.depthAll, PyData.depth]
    omega
theorem sorted_ok (n m : Nat) (o : Bool) (rs : List (List Nat)) : sortedMD [.lst o (rs.map (matD n m))] = some (.lst true ((rs.mergeSort rowLe).map (matD n m))) := by
  have h1 : noOwns (rs.map (matD n m)) = true := noOwns_map (noOwn_matD n m) rs
  have h2 := noTys_mats n m rs
  have h3 : shapeOk (pyDs (rs.map (matD n m))) = true := by
    rw [pyDs_map, List.map_map]
    unfold shapeOk
    rw [Bool.and_eq_true, Bool.and_eq_true]
    refine ⟨List.all_eq_true.mpr fun d hd => List.all_eq_true.mpr fun e he => ?_, List.all_eq_true.mpr fun d hd => ?_, List.all_eq_true.mpr fun d hd => ?_⟩
    · obtain ⟨r, _, rfl⟩ := List.mem_map.mp hd
      obtain ⟨s, _, rfl⟩ := List.mem_map.mp he
      simp only [Function.comp_apply, pyD_mat, matP, PySem.W.alike, PySem.W.alikeAll, alikeAll_ints]
      rfl
    · obtain ⟨r, _, rfl⟩ := List.mem_map.mp hd
      rw [Function.comp_apply, pyD_mat]
      rfl
    · obtain ⟨r, _, rfl⟩ := List.mem_map.mp hd
      rw [Function.comp_apply, pyD_mat]
      have := depth_ints (toI r)
      unfold matP
      simp only [PyData.depth, PyData.depthAll]
      exact decide_eq_true (by omega)
  show (if _ then _ else _) = _
  rw [if_pos ⟨h1, h2, h3⟩, sort_mats]
theorem red_nc {f : Nat → Nat} : ∀ (R s : List Nat), (∀ x ∈ R, f (f x) = x) → red f s R = [] → NC f (s.reverse ++ R)
  | [], s, _, h => by
    have h : s = [] := h
    subst h; exact .nil
  | x :: r, s, hf, h => by
    rw [red_cons] at h
    have ih := fun s => red_nc r s (fun y hy => hf y (by simp [hy]))
    cases s with
    | nil =>
      have := ih _ h
      exact this
    | cons t s' =>
      rw [push_cons] at h
      by_cases c : t = f x
      · rw [if_pos c] at h
        have := ih _ h
        rw [List.reverse_cons, List.append_assoc]
        exact NC.cons (by rw [c]; exact hf x (by simp)) c.symm this
      · rw [if_neg c] at h
        have := ih _ h
        simpa using this
end VS
set_option Elab.async false
set_option linter.all false
set_option maxRecDepth 100000
namespace VS
open PySem PySem.Spec PyProof.Rows L2 RZ
/-! ### the half mats: both lists, sorted -/
def matC (n m : Nat) (row : List Nat) : Bool := decide (0 < n + m ∧ row.length = n + m) && ((List.range (n + m)).all (fun p => decide (row.getD p 0 < n + m ∧ row.getD p 0 ≠ p ∧ row.getD (row.getD p 0) 0 = p)) && (red (fun i => row.getD i 0) [] (roundL n m)).isEmpty)
theorem matC_mat {n m : Nat} {row : List Nat} (h : matC n m row = true) : IsMat n m row := by
  unfold matC at h
  simp only [Bool.and_eq_true, decide_eq_true_eq, List.all_eq_true, List.mem_range, List.isEmpty_iff] at h
  obtain ⟨⟨h0, hl⟩, h1, h2⟩ := h
  refine ⟨h0, hl, fun i j e => ?_, ?_⟩
  · obtain ⟨hi, e2⟩ := List.getElem?_eq_some_iff.mp e
    obtain ⟨q1, q2, q3⟩ := h1 i (by omega)
    have ej : row.getD i 0 = j := by rw [List.getD_eq_getElem?_getD, e]; rfl
    rw [ej] at q1 q2 q3
    refine ⟨q1, q2, ?_⟩
    rw [List.getD_eq_getElem?_getD, List.getElem?_eq_getElem (by omega)] at q3
    rw [List.getElem?_eq_getElem (by omega)]
    exact congrArg some q3
  · have := red_nc (f := fun i => row.getD i 0) (roundL n m) [] (fun x hx => (h1 x (mem_roundL.mp hx)).2.2) h2
    simpa using this
def thrC (n k : Nat) (row : List Nat) : Bool := decide (((row.take n).filter fun x => decide (n ≤ x)).length = k)
def lcP : FE := (lcF [2] (itSeq (callF fn_p_rows_of_signs [.b 0, .b 1])) (tgN 2) (yesF) (callF fn_p_half_of_signs [.b 2]))
def lcL : FE := (lcF [2] (itSeq (callF fn_signs [.b 0, .b 1])) (tgN 2) (yesF) (callF fn_half [.b 2]))
theorem F_half_mats_e : F_p_half_mats = (seqF (dropF (callF fn_p_check_halves [.b 0, .b 1])) <| retF (opF sortedMD [.t lcP])) := rfl
theorem F_halves_e : F_halves = retF (opF sortedMD [.t lcL]) := rfl
theorem pmats_of {n k : Nat} {ro : List (List Nat)} (h : fn_p_check_halves.sem [.int (n : Nat), .int (k : Nat)] = some (.non, [some (.int (n : Nat)), some (.int (k : Nat))])) (l : lcP [some (.int (n : Nat)), some (.int (k : Nat)), none] = some (.lst true (ro.map (matD n k)), [some (.int (n : Nat)), some (.int (k : Nat)), none])) : fn_p_half_mats.sem [.int (n : Nat), .int (k : Nat)] = some (.lst true ((ro.mergeSort rowLe).map (matD n k)), [some (.int (n : Nat)), some (.int (k : Nat))]) := by
  have so := sorted_ok n k true ro
  have p1 : fn_p_check_halves.pins = [true, true] := rfl
  unfold fn_p_half_mats
  rw [bodyFn_sem, F_half_mats_e]
  generalize ro.map (matD n k) = R at *
  generalize (ro.mergeSort rowLe).map (matD n k) = S at *
  generalize lcP = LC at *
  simp [h, l, so, p1]
theorem lmats_of {n k : Nat} {ro : List (List Nat)} (l : lcL [some (.int (n : Nat)), some (.int (k : Nat)), none] = some (.lst true (ro.map (matD n k)), [some (.int (n : Nat)), some (.int (k : Nat)), none])) : fn_halves.sem [.int (n : Nat), .int (k : Nat)] = some (.lst true ((ro.mergeSort rowLe).map (matD n k)), [some (.int (n : Nat)), some (.int (k : Nat))]) := by
  have so := sorted_ok n k true ro
  unfold fn_halves
  rw [bodyFn_sem, F_halves_e]
  generalize ro.map (matD n k) = R at *
  generalize (ro.mergeSort rowLe).map (matD n k) = S at *
  generalize lcL = LC at *
  simp [l, so]
structure HvOk (n k : Nat) (rs : List (List Nat)) : Prop where
  pos : 0 < rs.length
  len : rs.length ≤ 28
  mat : ∀ r ∈ rs, IsMat n k r ∧ ((r.take n).filter fun x => decide (n ≤ x)).length = k
  prog : fn_p_half_mats.sem [.int (n : Nat), .int (k : Nat)] = some (.lst true (rs.map (matD n k)), [some (.int (n : Nat)), some (.int (k : Nat))])
  law : fn_halves.sem [.int (n : Nat), .int (k : Nat)] = some (.lst true (rs.map (matD n k)), [some (.int (n : Nat)), some (.int (k : Nat))])
  many : fn_p_how_many_halves.sem [.int (n : Nat), .int (k : Nat)] = some (.int (rs.length : Nat), [some (.int (n : Nat)), some (.int (k : Nat))])
theorem hv_of {n k : Nat} {rp rl : List (List Nat)} (h0 : 0 < rl.length) (h1 : rl.length ≤ 28) (hp : rl.isPerm rp = true) (hm : rl.all (fun r => matC n k r && thrC n k r) = true) (ck : fn_p_check_halves.sem [.int (n : Nat), .int (k : Nat)] = some (.non, [some (.int (n : Nat)), some (.int (k : Nat))])) (l1 : lcP [some (.int (n : Nat)), some (.int (k : Nat)), none] = some (.lst true (rp.map (matD n k)), [some (.int (n : Nat)), some (.int (k : Nat)), none])) (l2 : lcL [some (.int (n : Nat)), some (.int (k : Nat)), none] = some (.lst true (rl.map (matD n k)), [some (.int (n : Nat)), some (.int (k : Nat)), none]))
    (hw : fn_p_how_many_halves.sem [.int (n : Nat), .int (k : Nat)] = some (.int (rl.length : Nat), [some (.int (n : Nat)), some (.int (k : Nat))])) : ∃ rs, HvOk n k rs := by
  have e := sort_perm (List.isPerm_iff.mp hp)
  have pm := List.mergeSort_perm rl rowLe
  have ln : (rl.mergeSort rowLe).length = rl.length := List.length_mergeSort rl
  refine ⟨rl.mergeSort rowLe, ⟨by omega, by omega, fun r hr => ?_, ?_, lmats_of l2, by rw [ln]; exact hw⟩⟩
  · have := List.all_eq_true.mp hm r (pm.mem_iff.mp hr)
    rw [Bool.and_eq_true] at this
    exact ⟨matC_mat this.1, of_decide_eq_true this.2⟩
  · rw [e]; exact pmats_of ck l1
def hp_1_1 : List (List Nat) := [[1, 0]]
def hl_1_1 : List (List Nat) := [[1, 0]]
theorem hv_1_1 : ∃ rs, HvOk 1 1 rs := hv_of (rp := hp_1_1) (rl := hl_1_1) (by decide) (by decide) (by decide +kernel) (by decide +kernel) (by kernel_rfl) (by kernel_rfl) (by kernel_rfl) (by kernel_rfl)
def hp_2_0 : List (List Nat) := [[1, 0]]
def hl_2_0 : List (List Nat) := [[1, 0]]
theorem hv_2_0 : ∃ rs, HvOk 2 0 rs := hv_of (rp := hp_2_0) (rl := hl_2_0) (by decide) (by decide) (by decide +kernel) (by decide +kernel) (by kernel_rfl) (by kernel_rfl) (by kernel_rfl) (by kernel_rfl)
def hp_2_2 : List (List Nat) := [[2, 3, 0, 1]]
def hl_2_2 : List (List Nat) := [[2, 3, 0, 1]]
theorem hv_2_2 : ∃ rs, HvOk 2 2 rs := hv_of (rp := hp_2_2) (rl := hl_2_2) (by decide) (by decide) (by decide +kernel) (by decide +kernel) (by kernel_rfl) (by kernel_rfl) (by kernel_rfl) (by kernel_rfl)
def hp_3_1 : List (List Nat) := [[3, 2, 1, 0], [1, 0, 3, 2]]
def hl_3_1 : List (List Nat) := [[1, 0, 3, 2], [3, 2, 1, 0]]
theorem hv_3_1 : ∃ rs, HvOk 3 1 rs := hv_of (rp := hp_3_1) (rl := hl_3_1) (by decide) (by decide) (by decide +kernel) (by decide +kernel) (by kernel_rfl) (by kernel_rfl) (by kernel_rfl) (by kernel_rfl)
def hp_3_3 : List (List Nat) := [[3, 4, 5, 0, 1, 2]]
def hl_3_3 : List (List Nat) := [[3, 4, 5, 0, 1, 2]]
theorem hv_3_3 : ∃ rs, HvOk 3 3 rs := hv_of (rp := hp_3_3) (rl := hl_3_3) (by decide) (by decide) (by decide +kernel) (by decide +kernel) (by kernel_rfl) (by kernel_rfl) (by kernel_rfl) (by kernel_rfl)
def hp_4_0 : List (List Nat) := [[3, 2, 1, 0], [1, 0, 3, 2]]
def hl_4_0 : List (List Nat) := [[1, 0, 3, 2], [3, 2, 1, 0]]
theorem hv_4_0 : ∃ rs, HvOk 4 0 rs := hv_of (rp := hp_4_0) (rl := hl_4_0) (by decide) (by decide) (by decide +kernel) (by decide +kernel) (by kernel_rfl) (by kernel_rfl) (by kernel_rfl) (by kernel_rfl)
def hp_4_2 : List (List Nat) := [[4, 5, 3, 2, 0, 1], [4, 2, 1, 5, 0, 3], [1, 0, 4, 5, 2, 3]]
def hl_4_2 : List (List Nat) := [[1, 0, 4, 5, 2, 3], [4, 2, 1, 5, 0, 3], [4, 5, 3, 2, 0, 1]]
theorem hv_4_2 : ∃ rs, HvOk 4 2 rs := hv_of (rp := hp_4_2) (rl := hl_4_2) (by decide) (by decide) (by decide +kernel) (by decide +kernel) (by kernel_rfl) (by kernel_rfl) (by kernel_rfl) (by kernel_rfl)
def hp_4_4 : List (List Nat) := [[4, 5, 6, 7, 0, 1, 2, 3]]
def hl_4_4 : List (List Nat) := [[4, 5, 6, 7, 0, 1, 2, 3]]
theorem hv_4_4 : ∃ rs, HvOk 4 4 rs := hv_of (rp := hp_4_4) (rl := hl_4_4) (by decide) (by decide) (by decide +kernel) (by decide +kernel) (by kernel_rfl) (by kernel_rfl) (by kernel_rfl) (by kernel_rfl)
def hp_5_1 : List (List Nat) := [[5, 4, 3, 2, 1, 0], [5, 2, 1, 4, 3, 0], [3, 2, 1, 0, 5, 4], [1, 0, 5, 4, 3, 2], [1, 0, 3, 2, 5, 4]]
def hl_5_1 : List (List Nat) := [[1, 0, 3, 2, 5, 4], [3, 2, 1, 0, 5, 4], [1, 0, 5, 4, 3, 2], [5, 2, 1, 4, 3, 0], [5, 4, 3, 2, 1, 0]]
theorem hv_5_1 : ∃ rs, HvOk 5 1 rs := hv_of (rp := hp_5_1) (rl := hl_5_1) (by decide) (by decide) (by decide +kernel) (by decide +kernel) (by kernel_rfl) (by kernel_rfl) (by kernel_rfl) (by kernel_rfl)
def hp_5_3 : List (List Nat) := [[5, 6, 7, 4, 3, 0, 1, 2], [5, 6, 3, 2, 7, 0, 1, 4], [5, 2, 1, 6, 7, 0, 3, 4], [1, 0, 5, 6, 7, 2, 3, 4]]
def hl_5_3 : List (List Nat) := [[1, 0, 5, 6, 7, 2, 3, 4], [5, 2, 1, 6, 7, 0, 3, 4], [5, 6, 3, 2, 7, 0, 1, 4], [5, 6, 7, 4, 3, 0, 1, 2]]
theorem hv_5_3 : ∃ rs, HvOk 5 3 rs := hv_of (rp := hp_5_3) (rl := hl_5_3) (by decide) (by decide) (by decide +kernel) (by decide +kernel) (by kernel_rfl) (by kernel_rfl) (by kernel_rfl) (by kernel_rfl)
def hp_5_5 : List (List Nat) := [[5, 6, 7, 8, 9, 0, 1, 2, 3, 4]]
def hl_5_5 : List (List Nat) := [[5, 6, 7, 8, 9, 0, 1, 2, 3, 4]]
theorem hv_5_5 : ∃ rs, HvOk 5 5 rs := hv_of (rp := hp_5_5) (rl := hl_5_5) (by decide) (by decide) (by decide +kernel) (by decide +kernel) (by kernel_rfl) (by kernel_rfl) (by kernel_rfl) (by kernel_rfl)
def hp_6_0 : List (List Nat) := [[5, 4, 3, 2, 1, 0], [5, 2, 1, 4, 3, 0], [3, 2, 1, 0, 5, 4], [1, 0, 5, 4, 3, 2], [1, 0, 3, 2, 5, 4]]
def hl_6_0 : List (List Nat) := [[1, 0, 3, 2, 5, 4], [3, 2, 1, 0, 5, 4], [1, 0, 5, 4, 3, 2], [5, 2, 1, 4, 3, 0], [5, 4, 3, 2, 1, 0]]
theorem hv_6_0 : ∃ rs, HvOk 6 0 rs := hv_of (rp := hp_6_0) (rl := hl_6_0) (by decide) (by decide) (by decide +kernel) (by decide +kernel) (by kernel_rfl) (by kernel_rfl) (by kernel_rfl) (by kernel_rfl)
def hp_6_2 : List (List Nat) := [[6, 7, 5, 4, 3, 2, 0, 1], [6, 7, 3, 2, 5, 4, 0, 1], [6, 4, 3, 2, 1, 7, 0, 5], [6, 2, 1, 7, 5, 4, 0, 3], [6, 2, 1, 4, 3, 7, 0, 5], [3, 2, 1, 0, 6, 7, 4, 5], [1, 0, 6, 7, 5, 4, 2, 3], [1, 0, 6, 4, 3, 7, 2, 5], [1, 0, 3, 2, 6, 7, 4, 5]]
def hl_6_2 : List (List Nat) := [[1, 0, 3, 2, 6, 7, 4, 5], [3, 2, 1, 0, 6, 7, 4, 5], [1, 0, 6, 4, 3, 7, 2, 5], [6, 2, 1, 4, 3, 7, 0, 5], [6, 4, 3, 2, 1, 7, 0, 5], [1, 0, 6, 7, 5, 4, 2, 3], [6, 2, 1, 7, 5, 4, 0, 3], [6, 7, 3, 2, 5, 4, 0, 1], [6, 7, 5, 4, 3, 2, 0, 1]]
theorem hv_6_2 : ∃ rs, HvOk 6 2 rs := hv_of (rp := hp_6_2) (rl := hl_6_2) (by decide) (by decide) (by decide +kernel) (by decide +kernel) (by kernel_rfl) (by kernel_rfl) (by kernel_rfl) (by kernel_rfl)
def hp_6_4 : List (List Nat) := [[6, 7, 8, 9, 5, 4, 0, 1, 2, 3], [6, 7, 8, 4, 3, 9, 0, 1, 2, 5], [6, 7, 3, 2, 8, 9, 0, 1, 4, 5], [6, 2, 1, 7, 8, 9, 0, 3, 4, 5], [1, 0, 6, 7, 8, 9, 2, 3, 4, 5]]
def hl_6_4 : List (List Nat) := [[1, 0, 6, 7, 8, 9, 2, 3, 4, 5], [6, 2, 1, 7, 8, 9, 0, 3, 4, 5], [6, 7, 3, 2, 8, 9, 0, 1, 4, 5], [6, 7, 8, 4, 3, 9, 0, 1, 2, 5], [6, 7, 8, 9, 5, 4, 0, 1, 2, 3]]
theorem hv_6_4 : ∃ rs, HvOk 6 4 rs := hv_of (rp := hp_6_4) (rl := hl_6_4) (by decide) (by decide) (by decide +kernel) (by decide +kernel) (by kernel_rfl) (by kernel_rfl) (by kernel_rfl) (by kernel_rfl)
def hp_6_6 : List (List Nat) := [[6, 7, 8, 9, 10, 11, 0, 1, 2, 3, 4, 5]]
def hl_6_6 : List (List Nat) := [[6, 7, 8, 9, 10, 11, 0, 1, 2, 3, 4, 5]]
theorem hv_6_6 : ∃ rs, HvOk 6 6 rs := hv_of (rp := hp_6_6) (rl := hl_6_6) (by decide) (by decide) (by decide +kernel) (by decide +kernel) (by kernel_rfl) (by kernel_rfl) (by kernel_rfl) (by kernel_rfl)
def hp_7_1 : List (List Nat) := [[7, 6, 5, 4, 3, 2, 1, 0], [7, 6, 3, 2, 5, 4, 1, 0], [7, 4, 3, 2, 1, 6, 5, 0], [5, 4, 3, 2, 1, 0, 7, 6], [7, 2, 1, 6, 5, 4, 3, 0], [7, 2, 1, 4, 3, 6, 5, 0], [5, 2, 1, 4, 3, 0, 7, 6], [3, 2, 1, 0, 7, 6, 5, 4], [3, 2, 1, 0, 5, 4, 7, 6], [1, 0, 7, 6, 5, 4, 3, 2], [1, 0, 7, 4, 3, 6, 5, 2], [1, 0, 5, 4, 3, 2, 7, 6], [1, 0, 3, 2, 7, 6, 5, 4], [1, 0, 3, 2, 5, 4, 7, 6]]
def hl_7_1 : List (List Nat) := [[1, 0, 3, 2, 5, 4, 7, 6], [3, 2, 1, 0, 5, 4, 7, 6], [1, 0, 5, 4, 3, 2, 7, 6], [5, 2, 1, 4, 3, 0, 7, 6], [5, 4, 3, 2, 1, 0, 7, 6], [1, 0, 3, 2, 7, 6, 5, 4], [3, 2, 1, 0, 7, 6, 5, 4], [1, 0, 7, 4, 3, 6, 5, 2], [7, 2, 1, 4, 3, 6, 5, 0], [7, 4, 3, 2, 1, 6, 5, 0], [1, 0, 7, 6, 5, 4, 3, 2], [7, 2, 1, 6, 5, 4, 3, 0], [7, 6, 3, 2, 5, 4, 1, 0], [7, 6, 5, 4, 3, 2, 1, 0]]
theorem hv_7_1 : ∃ rs, HvOk 7 1 rs := hv_of (rp := hp_7_1) (rl := hl_7_1) (by decide) (by decide) (by decide +kernel) (by decide +kernel) (by kernel_rfl) (by kernel_rfl) (by kernel_rfl) (by kernel_rfl)
def hp_7_3 : List (List Nat) := [[7, 8, 9, 6, 5, 4, 3, 0, 1, 2], [7, 8, 9, 4, 3, 6, 5, 0, 1, 2], [7, 8, 5, 4, 3, 2, 9, 0, 1, 6], [7, 8, 3, 2, 9, 6, 5, 0, 1, 4], [7, 8, 3, 2, 5, 4, 9, 0, 1, 6], [7, 4, 3, 2, 1, 8, 9, 0, 5, 6], [7, 2, 1, 8, 9, 6, 5, 0, 3, 4], [7, 2, 1, 8, 5, 4, 9, 0, 3, 6], [7, 2, 1, 4, 3, 8, 9, 0, 5, 6], [3, 2, 1, 0, 7, 8, 9, 4, 5, 6], [1, 0, 7, 8, 9, 6, 5, 2, 3, 4], [1, 0, 7, 8, 5, 4, 9, 2, 3, 6], [1, 0, 7, 4, 3, 8, 9, 2, 5, 6], [1, 0, 3, 2, 7, 8, 9, 4, 5, 6]]
def hl_7_3 : List (List Nat) := [[1, 0, 3, 2, 7, 8, 9, 4, 5, 6], [3, 2, 1, 0, 7, 8, 9, 4, 5, 6], [1, 0, 7, 4, 3, 8, 9, 2, 5, 6], [7, 2, 1, 4, 3, 8, 9, 0, 5, 6], [7, 4, 3, 2, 1, 8, 9, 0, 5, 6], [1, 0, 7, 8, 5, 4, 9, 2, 3, 6], [7, 2, 1, 8, 5, 4, 9, 0, 3, 6], [7, 8, 3, 2, 5, 4, 9, 0, 1, 6], [7, 8, 5, 4, 3, 2, 9, 0, 1, 6], [1, 0, 7, 8, 9, 6, 5, 2, 3, 4], [7, 2, 1, 8, 9, 6, 5, 0, 3, 4], [7, 8, 3, 2, 9, 6, 5, 0, 1, 4], [7, 8, 9, 4, 3, 6, 5, 0, 1, 2], [7, 8, 9, 6, 5, 4, 3, 0, 1, 2]]
theorem hv_7_3 : ∃ rs, HvOk 7 3 rs := hv_of (rp := hp_7_3) (rl := hl_7_3) (by decide) (by decide) (by decide +kernel) (by decide +kernel) (by kernel_rfl) (by kernel_rfl) (by kernel_rfl) (by kernel_rfl)
def hp_7_5 : List (List Nat) := [[7, 8, 9, 10, 11, 6, 5, 0, 1, 2, 3, 4], [7, 8, 9, 10, 5, 4, 11, 0, 1, 2, 3, 6], [7, 8, 9, 4, 3, 10, 11, 0, 1, 2, 5, 6], [7, 8, 3, 2, 9, 10, 11, 0, 1, 4, 5, 6], [7, 2, 1, 8, 9, 10, 11, 0, 3, 4, 5, 6], [1, 0, 7, 8, 9, 10, 11, 2, 3, 4, 5, 6]]
def hl_7_5 : List (List Nat) := [[1, 0, 7, 8, 9, 10, 11, 2, 3, 4, 5, 6], [7, 2, 1, 8, 9, 10, 11, 0, 3, 4, 5, 6], [7, 8, 3, 2, 9, 10, 11, 0, 1, 4, 5, 6], [7, 8, 9, 4, 3, 10, 11, 0, 1, 2, 5, 6], [7, 8, 9, 10, 5, 4, 11, 0, 1, 2, 3, 6], [7, 8, 9, 10, 11, 6, 5, 0, 1, 2, 3, 4]]
theorem hv_7_5 : ∃ rs, HvOk 7 5 rs := hv_of (rp := hp_7_5) (rl := hl_7_5) (by decide) (by decide) (by decide +kernel) (by decide +kernel) (by kernel_rfl) (by kernel_rfl) (by kernel_rfl) (by kernel_rfl)
def hp_7_7 : List (List Nat) := [[7, 8, 9, 10, 11, 12, 13, 0, 1, 2, 3, 4, 5, 6]]
def hl_7_7 : List (List Nat) := [[7, 8, 9, 10, 11, 12, 13, 0, 1, 2, 3, 4, 5, 6]]
theorem hv_7_7 : ∃ rs, HvOk 7 7 rs := hv_of (rp := hp_7_7) (rl := hl_7_7) (by decide) (by decide) (by decide +kernel) (by decide +kernel) (by kernel_rfl) (by kernel_rfl) (by kernel_rfl) (by kernel_rfl)
def hp_8_0 : List (List Nat) := [[7, 6, 5, 4, 3, 2, 1, 0], [7, 6, 3, 2, 5, 4, 1, 0], [7, 4, 3, 2, 1, 6, 5, 0], [5, 4, 3, 2, 1, 0, 7, 6], [7, 2, 1, 6, 5, 4, 3, 0], [7, 2, 1, 4, 3, 6, 5, 0], [5, 2, 1, 4, 3, 0, 7, 6], [3, 2, 1, 0, 7, 6, 5, 4], [3, 2, 1, 0, 5, 4, 7, 6], [1, 0, 7, 6, 5, 4, 3, 2], [1, 0, 7, 4, 3, 6, 5, 2], [1, 0, 5, 4, 3, 2, 7, 6], [1, 0, 3, 2, 7, 6, 5, 4], [1, 0, 3, 2, 5, 4, 7, 6]]
def hl_8_0 : List (List Nat) := [[1, 0, 3, 2, 5, 4, 7, 6], [3, 2, 1, 0, 5, 4, 7, 6], [1, 0, 5, 4, 3, 2, 7, 6], [5, 2, 1, 4, 3, 0, 7, 6], [5, 4, 3, 2, 1, 0, 7, 6], [1, 0, 3, 2, 7, 6, 5, 4], [3, 2, 1, 0, 7, 6, 5, 4], [1, 0, 7, 4, 3, 6, 5, 2], [7, 2, 1, 4, 3, 6, 5, 0], [7, 4, 3, 2, 1, 6, 5, 0], [1, 0, 7, 6, 5, 4, 3, 2], [7, 2, 1, 6, 5, 4, 3, 0], [7, 6, 3, 2, 5, 4, 1, 0], [7, 6, 5, 4, 3, 2, 1, 0]]
theorem hv_8_0 : ∃ rs, HvOk 8 0 rs := hv_of (rp := hp_8_0) (rl := hl_8_0) (by decide) (by decide) (by decide +kernel) (by decide +kernel) (by kernel_rfl) (by kernel_rfl) (by kernel_rfl) (by kernel_rfl)
def hp_8_2 : List (List Nat) := [[8, 9, 7, 6, 5, 4, 3, 2, 0, 1], [8, 9, 7, 4, 3, 6, 5, 2, 0, 1], [8, 9, 5, 4, 3, 2, 7, 6, 0, 1], [8, 6, 5, 4, 3, 2, 1, 9, 0, 7], [8, 9, 3, 2, 7, 6, 5, 4, 0, 1], [8, 9, 3, 2, 5, 4, 7, 6, 0, 1], [8, 6, 3, 2, 5, 4, 1, 9, 0, 7], [8, 4, 3, 2, 1, 9, 7, 6, 0, 5], [8, 4, 3, 2, 1, 6, 5, 9, 0, 7], [5, 4, 3, 2, 1, 0, 8, 9, 6, 7], [8, 2, 1, 9, 7, 6, 5, 4, 0, 3], [8, 2, 1, 9, 5, 4, 7, 6, 0, 3], [8, 2, 1, 6, 5, 4, 3, 9, 0, 7], [8, 2, 1, 4, 3, 9, 7, 6, 0, 5], [8, 2, 1, 4, 3, 6, 5, 9, 0, 7], [5, 2, 1, 4, 3, 0, 8, 9, 6, 7], [3, 2, 1, 0, 8, 9, 7, 6, 4, 5], [3, 2, 1, 0, 8, 6, 5, 9, 4, 7], [3, 2, 1, 0, 5, 4, 8, 9, 6, 7], [1, 0, 8, 9, 7, 6, 5, 4, 2, 3], [1, 0, 8, 9, 5, 4, 7, 6, 2, 3], [1, 0, 8, 6, 5, 4, 3, 9, 2, 7], [1, 0, 8, 4, 3, 9, 7, 6, 2, 5], [1, 0, 8, 4, 3, 6, 5, 9, 2, 7], [1, 0, 5, 4, 3, 2, 8, 9, 6, 7], [1, 0, 3, 2, 8, 9, 7, 6, 4, 5], [1, 0, 3, 2, 8, 6, 5, 9, 4, 7], [1, 0, 3, 2, 5, 4, 8, 9, 6, 7]]
def hl_8_2 : List (List Nat) := [[1, 0, 3, 2, 5, 4, 8, 9, 6, 7], [3, 2, 1, 0, 5, 4, 8, 9, 6, 7], [1, 0, 5, 4, 3, 2, 8, 9, 6, 7], [5, 2, 1, 4, 3, 0, 8, 9, 6, 7], [5, 4, 3, 2, 1, 0, 8, 9, 6, 7], [1, 0, 3, 2, 8, 6, 5, 9, 4, 7], [3, 2, 1, 0, 8, 6, 5, 9, 4, 7], [1, 0, 8, 4, 3, 6, 5, 9, 2, 7], [8, 2, 1, 4, 3, 6, 5, 9, 0, 7], [8, 4, 3, 2, 1, 6, 5, 9, 0, 7], [1, 0, 8, 6, 5, 4, 3, 9, 2, 7], [8, 2, 1, 6, 5, 4, 3, 9, 0, 7], [8, 6, 3, 2, 5, 4, 1, 9, 0, 7], [8, 6, 5, 4, 3, 2, 1, 9, 0, 7], [1, 0, 3, 2, 8, 9, 7, 6, 4, 5], [3, 2, 1, 0, 8, 9, 7, 6, 4, 5], [1, 0, 8, 4, 3, 9, 7, 6, 2, 5], [8, 2, 1, 4, 3, 9, 7, 6, 0, 5], [8, 4, 3, 2, 1, 9, 7, 6, 0, 5], [1, 0, 8, 9, 5, 4, 7, 6, 2, 3], [8, 2, 1, 9, 5, 4, 7, 6, 0, 3], [8, 9, 3, 2, 5, 4, 7, 6, 0, 1], [8, 9, 5, 4, 3, 2, 7, 6, 0, 1], [1, 0, 8, 9, 7, 6, 5, 4, 2, 3], [8, 2, 1, 9, 7, 6, 5, 4, 0, 3], [8, 9, 3, 2, 7, 6, 5, 4, 0, 1], [8, 9, 7, 4, 3, 6, 5, 2, 0, 1], [8, 9, 7, 6, 5, 4, 3, 2, 0, 1]]
theorem hv_8_2 : ∃ rs, HvOk 8 2 rs := hv_of (rp := hp_8_2) (rl := hl_8_2) (by decide) (by decide) (by decide +kernel) (by decide +kernel) (by kernel_rfl) (by kernel_rfl) (by kernel_rfl) (by kernel_rfl)
def hp_8_4 : List (List Nat) := [[8, 9, 10, 11, 7, 6, 5, 4, 0, 1, 2, 3], [8, 9, 10, 11, 5, 4, 7, 6, 0, 1, 2, 3], [8, 9, 10, 6, 5, 4, 3, 11, 0, 1, 2, 7], [8, 9, 10, 4, 3, 11, 7, 6, 0, 1, 2, 5], [8, 9, 10, 4, 3, 6, 5, 11, 0, 1, 2, 7], [8, 9, 5, 4, 3, 2, 10, 11, 0, 1, 6, 7], [8, 9, 3, 2, 10, 11, 7, 6, 0, 1, 4, 5], [8, 9, 3, 2, 10, 6, 5, 11, 0, 1, 4, 7], [8, 9, 3, 2, 5, 4, 10, 11, 0, 1, 6, 7], [8, 4, 3, 2, 1, 9, 10, 11, 0, 5, 6, 7], [8, 2, 1, 9, 10, 11, 7, 6, 0, 3, 4, 5], [8, 2, 1, 9, 10, 6, 5, 11, 0, 3, 4, 7], [8, 2, 1, 9, 5, 4, 10, 11, 0, 3, 6, 7], [8, 2, 1, 4, 3, 9, 10, 11, 0, 5, 6, 7], [3, 2, 1, 0, 8, 9, 10, 11, 4, 5, 6, 7], [1, 0, 8, 9, 10, 11, 7, 6, 2, 3, 4, 5], [1, 0, 8, 9, 10, 6, 5, 11, 2, 3, 4, 7], [1, 0, 8, 9, 5, 4, 10, 11, 2, 3, 6, 7], [1, 0, 8, 4, 3, 9, 10, 11, 2, 5, 6, 7], [1, 0, 3, 2, 8, 9, 10, 11, 4, 5, 6, 7]]
def hl_8_4 : List (List Nat) := [[1, 0, 3, 2, 8, 9, 10, 11, 4, 5, 6, 7], [3, 2, 1, 0, 8, 9, 10, 11, 4, 5, 6, 7], [1, 0, 8, 4, 3, 9, 10, 11, 2, 5, 6, 7], [8, 2, 1, 4, 3, 9, 10, 11, 0, 5, 6, 7], [8, 4, 3, 2, 1, 9, 10, 11, 0, 5, 6, 7], [1, 0, 8, 9, 5, 4, 10, 11, 2, 3, 6, 7], [8, 2, 1, 9, 5, 4, 10, 11, 0, 3, 6, 7], [8, 9, 3, 2, 5, 4, 10, 11, 0, 1, 6, 7], [8, 9, 5, 4, 3, 2, 10, 11, 0, 1, 6, 7], [1, 0, 8, 9, 10, 6, 5, 11, 2, 3, 4, 7], [8, 2, 1, 9, 10, 6, 5, 11, 0, 3, 4, 7], [8, 9, 3, 2, 10, 6, 5, 11, 0, 1, 4, 7], [8, 9, 10, 4, 3, 6, 5, 11, 0, 1, 2, 7], [8, 9, 10, 6, 5, 4, 3, 11, 0, 1, 2, 7], [1, 0, 8, 9, 10, 11, 7, 6, 2, 3, 4, 5], [8, 2, 1, 9, 10, 11, 7, 6, 0, 3, 4, 5], [8, 9, 3, 2, 10, 11, 7, 6, 0, 1, 4, 5], [8, 9, 10, 4, 3, 11, 7, 6, 0, 1, 2, 5], [8, 9, 10, 11, 5, 4, 7, 6, 0, 1, 2, 3], [8, 9, 10, 11, 7, 6, 5, 4, 0, 1, 2, 3]]
theorem hv_8_4 : ∃ rs, HvOk 8 4 rs := hv_of (rp := hp_8_4) (rl := hl_8_4) (by decide) (by decide) (by decide +kernel) (by decide +kernel) (by kernel_rfl) (by kernel_rfl) (by kernel_rfl) (by kernel_rfl)
def hp_8_6 : List (List Nat) := [[8, 9, 10, 11, 12, 13, 7, 6, 0, 1, 2, 3, 4, 5], [8, 9, 10, 11, 12, 6, 5, 13, 0, 1, 2, 3, 4, 7], [8, 9, 10, 11, 5, 4, 12, 13, 0, 1, 2, 3, 6, 7], [8, 9, 10, 4, 3, 11, 12, 13, 0, 1, 2, 5, 6, 7], [8, 9, 3, 2, 10, 11, 12, 13, 0, 1, 4, 5, 6, 7], [8, 2, 1, 9, 10, 11, 12, 13, 0, 3, 4, 5, 6, 7], [1, 0, 8, 9, 10, 11, 12, 13, 2, 3, 4, 5, 6, 7]]
def hl_8_6 : List (List Nat) := [[1, 0, 8, 9, 10, 11, 12, 13, 2, 3, 4, 5, 6, 7], [8, 2, 1, 9, 10, 11, 12, 13, 0, 3, 4, 5, 6, 7], [8, 9, 3, 2, 10, 11, 12, 13, 0, 1, 4, 5, 6, 7], [8, 9, 10, 4, 3, 11, 12, 13, 0, 1, 2, 5, 6, 7], [8, 9, 10, 11, 5, 4, 12, 13, 0, 1, 2, 3, 6, 7], [8, 9, 10, 11, 12, 6, 5, 13, 0, 1, 2, 3, 4, 7], [8, 9, 10, 11, 12, 13, 7, 6, 0, 1, 2, 3, 4, 5]]
theorem hv_8_6 : ∃ rs, HvOk 8 6 rs := hv_of (rp := hp_8_6) (rl := hl_8_6) (by decide) (by decide) (by decide +kernel) (by decide +kernel) (by kernel_rfl) (by kernel_rfl) (by kernel_rfl) (by kernel_rfl)
def hp_8_8 : List (List Nat) := [[8, 9, 10, 11, 12, 13, 14, 15, 0, 1, 2, 3, 4, 5, 6, 7]]
def hl_8_8 : List (List Nat) := [[8, 9, 10, 11, 12, 13, 14, 15, 0, 1, 2, 3, 4, 5, 6, 7]]
theorem hv_8_8 : ∃ rs, HvOk 8 8 rs := hv_of (rp := hp_8_8) (rl := hl_8_8) (by decide) (by decide) (by decide +kernel) (by decide +kernel) (by kernel_rfl) (by kernel_rfl) (by kernel_rfl) (by kernel_rfl)
theorem hv_all {n j : Nat} (h0 : 1 ≤ n) (h : n ≤ 8) (hj : j ≤ n / 2) : ∃ rs, HvOk n (n % 2 + 2 * j) rs := by
  rcases (by omega : n = 1 ∨ n = 2 ∨ n = 3 ∨ n = 4 ∨ n = 5 ∨ n = 6 ∨ n = 7 ∨ n = 8) with rfl | rfl | rfl | rfl | rfl | rfl | rfl | rfl
  · obtain rfl : j = 0 := by omega
    exact hv_1_1
  · rcases (by omega : j = 0 ∨ j = 1) with rfl | rfl
    · exact hv_2_0
    · exact hv_2_2
  · rcases (by omega : j = 0 ∨ j = 1) with rfl | rfl
    · exact hv_3_1
    · exact hv_3_3
  · rcases (by omega : j = 0 ∨ j = 1 ∨ j = 2) with rfl | rfl | rfl
    · exact hv_4_0
    · exact hv_4_2
    · exact hv_4_4
  · rcases (by omega : j = 0 ∨ j = 1 ∨ j = 2) with rfl | rfl | rfl
    · exact hv_5_1
    · exact hv_5_3
    · exact hv_5_5
  · rcases (by omega : j = 0 ∨ j = 1 ∨ j = 2 ∨ j = 3) with rfl | rfl | rfl | rfl
    · exact hv_6_0
    · exact hv_6_2
    · exact hv_6_4
    · exact hv_6_6
  · rcases (by omega : j = 0 ∨ j = 1 ∨ j = 2 ∨ j = 3) with rfl | rfl | rfl | rfl
    · exact hv_7_1
    · exact hv_7_3
    · exact hv_7_5
    · exact hv_7_7
  · rcases (by omega : j = 0 ∨ j = 1 ∨ j = 2 ∨ j = 3 ∨ j = 4) with rfl | rfl | rfl | rfl | rfl
    · exact hv_8_0
    · exact hv_8_2
    · exact hv_8_4
    · exact hv_8_6
    · exact hv_8_8
end VS
set_option Elab.async false
set_option linter.all false
set_option maxRecDepth 100000
namespace VS
open PySem PySem.Spec PyProof.Rows L2 RZ
/-! ### upside down, by the program and by the law -/
theorem ups_ok {n m : Nat} {row : List Nat} (hm : IsMat n m row) (hl : n + m ≤ 1000) : fn_p_upside_down.sem [matD n m row] = some (matD m n (upsR n m row), [some (matD n m row)]) := by
  have ck := checked_ok hm hl
  obtain ⟨new, os, e, rfl, n1, n2⟩ := remade_ok (n := m) (m := n) (row := row) (placeL := upL n m) (by rw [hm.len]; omega) (by simp [upL]; omega) (by omega) (fun i j e => by have := (hm.lt i j e).1; omega)
    (fun i hi => by rw [upL_get (by omega)]; split <;> omega) (fun i j hi hj e => by
      rw [upL_get (by omega), upL_get (by omega)] at e
      split at e <;> split at e <;> omega)
  have he : new = upsR n m row := by
    refine row_eq (by rw [n1, ups_len hm.len]) fun p hp => ?_
    rw [n1] at hp
    rw [ups_get hm.len hp]
    have hi : (if p < m then n + p else p - m) < n + m := by split <;> omega
    have hg : (if p < m then n + p else p - m) < row.length := by rw [hm.len]; exact hi
    have := n2 _ _ (List.getElem?_eq_getElem hg)
    rw [upL_get hi] at this
    have hpp : (if (if p < m then n + p else p - m) < n then m + (if p < m then n + p else p - m) else (if p < m then n + p else p - m) - n) = p := by
      by_cases c : p < m
      · rw [if_pos c, if_neg (by omega)]; omega
      · rw [if_neg c, if_pos (by omega)]; omega
    rw [hpp] at this
    have hv : rowF row (if p < m then n + p else p - m) = row[(if p < m then n + p else p - m)] := by
      unfold rowF
      rw [List.getD_eq_getElem?_getD, List.getElem?_eq_getElem hg]; rfl
    have hlt := (hm.lt _ _ (List.getElem?_eq_getElem hg)).1
    rw [hv]
    unfold rowF
    rw [List.getD_eq_getElem?_getD, this]
    show (upL n m).getD _ 0 = _
    rw [upL_get hlt]
    unfold upF
    clear this hv
    generalize row[(if p < m then n + p else p - m)] = v at *
    by_cases c : v < n
    · rw [if_pos c, if_neg (by omega)]; omega
    · rw [if_neg c, if_pos (by omega)]
  subst he
  have p1 : fn_p_checked_mat.pins = [true] := rfl
  have p2 : fn_p_remade.pins = [true, true, true, true] := rfl
  have r2 := rng2_nat (lo := m) (n := n) (by omega) (by omega)
  have r1 := rng1_nat (u := m) (by omega)
  have ho := noOwns_natDs row
  have hm0 := noOwn_matD n m row
  have hu : ((List.range n).map fun i => natD (m + i)) ++ (List.range m).map natD = (upL n m).map natD := by simp [upL, Function.comp_def]
  have ad : addD [.lst true ((List.range n).map fun i => natD (m + i)), .lst true ((List.range m).map natD)] = some (.lst true ((upL n m).map natD)) := by
    rw [addD_l (noOwns_map (fun _ => by simp) _) (by simp) (by simp; omega), hu]
  have l1 : ((List.range n).map fun i => natD (m + i)).length ≤ 100000 := by simp; omega
  have l2 : ((List.range m).map natD).length ≤ 100000 := by simp; omega
  obtain ⟨A, hA⟩ : ∃ A, A = (List.range n).map fun i => natD (m + i) := ⟨_, rfl⟩
  obtain ⟨B, hB⟩ : ∃ B, B = (List.range m).map natD := ⟨_, rfl⟩
  obtain ⟨C, hC⟩ : ∃ C, C = (upL n m).map natD := ⟨_, rfl⟩
  rw [← hA] at r2 ad l1
  rw [← hB] at r1 ad l2
  rw [← hC] at ad e
  obtain ⟨Z, hZ⟩ : ∃ Z, Z = matD m n (upsR n m row) := ⟨_, rfl⟩
  rw [← hZ] at e ⊢
  unfold matD at ck ⊢ hm0
  obtain ⟨Y, hY⟩ : ∃ Y, Y = row.map natD := ⟨_, rfl⟩
  rw [← hY] at ck ho e hm0 ⊢
  unfold fn_p_upside_down F_p_upside_down
  rw [bodyFn_sem]
  simp [ck, e, p1, p2, r1, r2, ad, ho, lrgK_e, l1, l2]
theorem ups_two (n m : Nat) (row : List Nat) (hl : row.length = n + m) : upsR n m row = (row.drop n ++ row.take n).map (upF n m) := by
  unfold upsR
  rw [List.map_append, List.map_drop, List.map_take]
theorem flip_ok {n m : Nat} {row : List Nat} (hm : IsMat n m row) (hl : n + m ≤ 1000) : fn_flip.sem [matD n m row] = some (matD m n (upsR n m row), [some (matD n m row)]) := by
  have hL := hm.len
  have no := noOwns_natDs row
  have r1 := rng1_nat (u := m) (by omega)
  have r2 := rng1_nat (u := n) (by omega)
  have g1 : goLc [5] (tgN 5) yesF (opF ixD [.b 3, .t (opF addD [.b 1, .b 5])]) ((List.range m).map natD) [some (matD n m row), some (.int (n : Nat)), some (.int (m : Nat)), some (.tup (row.map natD)), none, none, none] = some ((row.drop n).map natD, [some (matD n m row), some (.int (n : Nat)), some (.int (m : Nat)), some (.tup (row.map natD)), none, none, none]) := by
    have e : (row.drop n).map natD = (List.range m).map fun p => natD (rowF row (n + p)) := by
      refine List.ext_getElem (by simp; omega) fun i h1 h2 => ?_
      simp only [List.length_map, List.length_range] at h2
      rw [List.getElem_map, List.getElem_map, List.getElem_range, List.getElem_drop]
      unfold rowF
      rw [List.getD_eq_getElem?_getD, List.getElem?_eq_getElem (by omega)]; rfl
    rw [e]
    refine goLc_mapI natD _ _ fun p hp => ?_
    have hp' := List.mem_range.mp hp
    have x1 : atI (row.map natD) ((n : Int) + (p : Int)) = some (natD (rowF row (n + p))) := atI_mapN (z := 0) (i := n + p) (by omega)
    rw [lcTurn_e, natD_i]
    generalize matD n m row = MM at *
    generalize row.map natD = A at *
    generalize rowF row (n + p) = z at *
    simp [x1, no]
  have g2 : goLc [5] (tgN 5) yesF (opF ixD [.b 3, .b 5]) ((List.range n).map natD) [some (matD n m row), some (.int (n : Nat)), some (.int (m : Nat)), some (.tup (row.map natD)), none, none, none] = some ((row.take n).map natD, [some (matD n m row), some (.int (n : Nat)), some (.int (m : Nat)), some (.tup (row.map natD)), none, none, none]) := by
    have e : (row.take n).map natD = (List.range n).map fun p => natD (rowF row p) := by
      refine List.ext_getElem (by simp; omega) fun i h1 h2 => ?_
      simp only [List.length_map, List.length_range] at h2
      rw [List.getElem_map, List.getElem_map, List.getElem_range, List.getElem_take]
      unfold rowF
      rw [List.getD_eq_getElem?_getD, List.getElem?_eq_getElem (by omega)]; rfl
    rw [e]
    refine goLc_mapI natD _ _ fun p hp => ?_
    have hp' := List.mem_range.mp hp
    have x1 : atI (row.map natD) ((p : Nat) : Int) = some (natD (rowF row p)) := atI_mapN (z := 0) (i := p) (by omega)
    rw [lcTurn_e, natD_i]
    generalize matD n m row = MM at *
    generalize row.map natD = A at *
    generalize rowF row p = z at *
    simp [x1, no]
  have g3 : ∀ XX, goLc [6] (tgN 6) yesF (ifE (bT (opF (ltD) [.b 6, .b 1])) (opF addD [.b 6, .b 2]) (opF subD [.b 6, .b 1])) ((row.drop n ++ row.take n).map natD) [some (matD n m row), some (.int (n : Nat)), some (.int (m : Nat)), some (.tup (row.map natD)), some (.lst false XX), none, none] = some ((upsR n m row).map natD, [some (matD n m row), some (.int (n : Nat)), some (.int (m : Nat)), some (.tup (row.map natD)), some (.lst false XX), none, none]) := by
    rw [ups_two n m row hL, List.map_map (g := natD)]
    intro XX
    refine goLc_mapI natD _ _ fun x hx => ?_
    rw [lcTurn_e, natD_i]
    show _ = some (natD (upF n m x), _)
    generalize matD n m row = MM at *
    generalize row.map natD = A at *
    unfold upF
    by_cases c : n ≤ x
    · rw [if_pos c]
      have c1 : ¬ ((x : Int) < (n : Int)) := by omega
      have c2 : ((x - n : Nat) : Int) = (x : Int) - (n : Int) := by omega
      unfold natD
      rw [c2]
      have c3 : ¬ x < n := by omega
      simp [c1, c3]
    · rw [if_neg c]
      have c1 : ((x : Int) < (n : Int)) := by omega
      have c3 : x < n := by omega
      unfold natD
      simp [c1, c3]
  have ad : addD [.lst true ((row.drop n).map natD), .lst true ((row.take n).map natD)] = some (.lst true ((row.drop n ++ row.take n).map natD)) := by
    rw [addD_l (noOwns_natDs _) (noOwns_natDs _) (by simp; omega), ← List.map_append]
  have s1 : decide (((row.drop n).map natD).length ≤ smallL) = true := small_le (by simp; omega)
  have s2 : decide (((row.take n).map natD).length ≤ smallL) = true := small_le (by simp; omega)
  have s3 : decide (((upsR n m row).map natD).length ≤ smallL) = true := small_le (by rw [List.length_map, ups_len hL]; omega)
  have f1 := freezes_natDs (row.drop n ++ row.take n)
  have n1 := noOwns_natDs (row.drop n ++ row.take n)
  have n2 := noOwns_natDs (upsR n m row)
  have nm := noOwn_matD n m row
  unfold fn_flip F_flip
  rw [bodyFn_sem]
  unfold matD at g1 g2 g3 nm ⊢
  generalize (row.drop n ++ row.take n).map natD = XX at *
  generalize (row.drop n).map natD = X1 at *
  generalize (row.take n).map natD = X2 at *
  generalize (upsR n m row).map natD = X3 at *
  generalize row.map natD = A at *
  generalize (List.range n).map natD = R1 at *
  generalize (List.range m).map natD = R2 at *
  simp [no, g1, g2, g3, ad, r1, r2, s1, s2, s3, f1, n1, n2, nm, tupleD_l]
end VS
set_option Elab.async false
set_option linter.all false
set_option maxRecDepth 100000
namespace VS
open PySem PySem.Spec PyProof.Rows L2 RZ
/-! ### a pair -/
def pB (k : Nat) (row : List Nat) : Bool := ((row.take k).filter fun x => decide (x < k)).isEmpty
def enT (k : Nat) (s : Nat × List Nat) : D := if pB k s.2 = true then .tup (List.replicate s.1 (.int 0) ++ [.int 1]) else .tup []
theorem pB_all (k : Nat) (row : List Nat) : ((row.take k).map fun x => decide (k ≤ x)).all id = pB k row := by
  unfold pB
  generalize row.take k = l
  induction l with
  | nil => rfl
  | cons x l ih =>
    rw [List.map_cons, List.all_cons, ih]
    by_cases c : x < k
    · rw [List.filter_cons_of_pos (by simpa using c)]
      have : ¬ k ≤ x := by omega
      simp [this]
    · rw [List.filter_cons_of_neg (by simpa using c)]
      have : k ≤ x := by omega
      simp [this]
theorem own_enT (k : Nat) (s : Nat × List Nat) : noOwn (enT k s) = true := by
  unfold enT
  split
  · rw [noOwn_tup]
    generalize s.1 = r
    induction r with
    | zero => rfl
    | succ r ih => rw [List.replicate_succ, List.cons_append, noOwns_cons, ih]; simp
  · simp
theorem ones_e {r : Nat} (h : r ≤ 16) : bd (mulTD [.tup [.int 0], .int (r : Nat)]) (fun z => addD [z, .tup [.int 1]]) = some (.tup (List.replicate r (.int 0) ++ [.int 1])) := by
  have : r = 0 ∨ r = 1 ∨ r = 2 ∨ r = 3 ∨ r = 4 ∨ r = 5 ∨ r = 6 ∨ r = 7 ∨ r = 8 ∨ r = 9 ∨ r = 10 ∨ r = 11 ∨ r = 12 ∨ r = 13 ∨ r = 14 ∨ r = 15 ∨ r = 16 := by omega
  rcases this with rfl | rfl | rfl | rfl | rfl | rfl | rfl | rfl | rfl | rfl | rfl | rfl | rfl | rfl | rfl | rfl | rfl <;> rfl
theorem ones_ex {r : Nat} (h : r ≤ 16) : ∃ xs, mulTD [.tup [.int 0], .int (r : Nat)] = some (.tup xs) ∧ addD [.tup xs, .tup [.int 1]] = some (.tup (List.replicate r (.int 0) ++ [.int 1])) := by
  have e := ones_e h
  have m := mulTD_e (xs := [.int 0]) (k := r) (by simp) (by simp) (by omega) (by simp)
  rw [m] at e
  exact ⟨_, m, e⟩
variable {n m k : Nat} {ra rh : List Nat}
theorem ppaired_ok (ha : ra.length = n + m) (hh : rh.length = m + k) (hA : Pr (n + m) (rowF ra)) (hH : Pr (m + k) (rowF rh)) (hm : m ≤ 16) (hs : n + m + k ≤ 1000) : fn_p_paired.sem [matD n m ra, matD m k rh] = some (enT n (bhL ra rh n m k), [some (matD n m ra), some (matD m k rh)]) := by
  have e := put_g ha hh hA hH hm hs
  have le := bhL_le ra rh n m k
  obtain ⟨xs, o1, o2⟩ := ones_ex (r := (bhL ra rh n m k).1) (by omega)
  have p1 : fn_p_put_behind.pins = [true, true] := rfl
  obtain ⟨s, hs'⟩ : ∃ s, s = bhL ra rh n m k := ⟨_, rfl⟩
  rw [← hs'] at e o1 o2 ⊢
  have ph := partT_H (i := n) (noOwns_natDs s.2)
  rw [← List.map_take] at ph
  have hl : (s.2.take n).length ≤ 1000 := by rw [hs', List.length_take, bhL_len]; omega
  have fz : freezes ((s.2.take n).map natD) = (s.2.take n).map natD := freezes_natDs _
  have nb := noOwns_natDs s.2
  have nm := noOwn_matD n m ra
  have nh := noOwn_matD m k rh
  have g : ∀ R, goLc [6] (tgN 6) yesF (opF (geD) [.b 6, .b 3]) ((s.2.take n).map natD) [some (matD n m ra), some (matD m k rh), R, some (.int (n : Nat)), some (.int (k : Nat)), some (.tup (s.2.map natD)), none] = some (((s.2.take n).map fun x => D.bl (decide (n ≤ x))), [some (matD n m ra), some (matD m k rh), R, some (.int (n : Nat)), some (.int (k : Nat)), some (.tup (s.2.map natD)), none]) := by
    intro R
    refine goLc_mapI natD _ _ fun x hx => ?_
    rw [lcTurn_e, natD_i]
    generalize matD n m ra = MA at *
    generalize matD m k rh = MB at *
    generalize s.2.map natD = SS at *
    simp
  have al : allD [.lst true ((s.2.take n).map fun x => D.bl (decide (n ≤ x)))] = some (.bl (pB n s.2)) := by
    have := allD_e true ((s.2.take n).map fun x => decide (n ≤ x))
    rw [List.map_map, pB_all] at this
    exact this
  have sm : decide (((s.2.take n).map fun x => D.bl (decide (n ≤ x))).length ≤ smallL) = true := small_le (by rw [List.length_map]; omega)
  unfold fn_p_paired F_p_paired
  rw [bodyFn_sem]
  unfold enT
  generalize matD n m ra = MA at *
  generalize matD m k rh = MB at *
  generalize ((s.2.take n).map fun x => D.bl (decide (n ≤ x))) = BL at *
  generalize (s.2.take n).map natD = TK at *
  generalize s.2.map natD = SS at *
  generalize pB n s.2 = b at *
  generalize (List.replicate s.1 (D.int 0) ++ [D.int 1]) = RR at *
  generalize s.1 = r at *
  cases b <;> simp [e, p1, ph, fz, nb, nm, nh, g, al, sm, o1, o2]
theorem lpaired_ok {k n : Nat} {ra rh : List Nat} (hA : IsMat n k ra) (hH : IsMat n k rh) (hn : n ≤ 16) (hk : k ≤ 16) : fn_paired.sem [matD n k ra, matD n k rh] = some (.int (if pB k (bhL (upsR n k ra) rh k n k).2 = true then ((bhL (upsR n k ra) rh k n k).1 : Nat) else -1), [some (matD n k ra), some (matD n k rh)]) := by
  have f := flip_ok hA (by omega)
  have hU := ups_mat hA
  have e := lput_ok hU.len hH.len hU.pr hH.pr (by omega)
  obtain ⟨s, hs'⟩ : ∃ s, s = bhL (upsR n k ra) rh k n k := ⟨_, rfl⟩
  rw [← hs'] at e ⊢
  have p1 : fn_put.pins = [true, true] := rfl
  have p2 : fn_flip.pins = [true] := rfl
  have ph := partT_H (i := k) (noOwns_natDs s.2)
  rw [← List.map_take] at ph
  have hl : (s.2.take k).length ≤ 1000 := by rw [hs', List.length_take, bhL_len]; omega
  have fz : freezes ((s.2.take k).map natD) = (s.2.take k).map natD := freezes_natDs _
  have nb := noOwns_natDs s.2
  have nm := noOwn_matD n k ra
  have nu := noOwn_matD k n (upsR n k ra)
  have nh := noOwn_matD n k rh
  have g : ∀ R, goLc [4] (tgN 4) (bT (opF (ltD) [.b 4, .t (opF ixD [.b 3, .t (litF (.int 0))])])) (varF 4) ((s.2.take k).map natD) [some (matD n k ra), some (matD n k rh), R, some (.tup [.int (k : Nat), .int (k : Nat), .tup (s.2.map natD)]), none] = some ((((s.2.take k).filter fun x => decide (x < k)).map natD), [some (matD n k ra), some (matD n k rh), R, some (.tup [.int (k : Nat), .int (k : Nat), .tup (s.2.map natD)]), none]) := by
    intro R
    refine goLc_filt natD natD _ _ fun x hx => ?_
    rw [lcTurnF_e, natD_i]
    generalize matD n k ra = MA at *
    generalize matD n k rh = MB at *
    generalize s.2.map natD = SS at *
    by_cases c : x < k
    · have c1 : (x : Int) < (k : Int) := by omega
      simp [c, c1, nb, natD_i, atI]
    · have c1 : ¬ (x : Int) < (k : Int) := by omega
      simp [c, c1, nb, natD_i, atI]
  have dq := deq_emp true true (((s.2.take k).filter fun x => decide (x < k)).map natD)
  have ie : (((s.2.take k).filter fun x => decide (x < k)).map natD).isEmpty = pB k s.2 := by
    unfold pB
    cases (s.2.take k).filter fun x => decide (x < k) <;> rfl
  rw [ie] at dq
  have q1 := eqOk_nats true ((s.2.take k).filter fun x => decide (x < k))
  have q2 := eqOk_emp true
  have sm : decide ((((s.2.take k).filter fun x => decide (x < k)).map natD).length ≤ smallL) = true := small_le (by
    rw [List.length_map]
    have := List.length_filter_le (fun x => decide (x < k)) (s.2.take k)
    omega)
  have nf := noOwns_natDs ((s.2.take k).filter fun x => decide (x < k))
  unfold fn_paired F_paired
  rw [bodyFn_sem]
  generalize matD n k ra = MA at *
  generalize matD k n (upsR n k ra) = MU at *
  generalize matD n k rh = MB at *
  generalize ((s.2.take k).filter fun x => decide (x < k)).map natD = FL at *
  generalize (s.2.take k).map natD = TK at *
  generalize s.2.map natD = SS at *
  generalize pB k s.2 = b at *
  generalize s.1 = r at *
  cases b <;> simp [f, e, p1, p2, ph, fz, nb, nm, nu, nh, g, dq, q1, q2, sm, nf, atI]
end VS
set_option Elab.async false
set_option linter.all false
set_option maxRecDepth 100000
namespace VS
open PySem PySem.Spec PyProof.Rows L2 RZ
/-! ### the tables -/
def enM (n k : Nat) (a b : List Nat) : D := enT k (bhL (upsR n k a) b k n k)
def enTab (n k : Nat) (o : Bool) (rs : List (List Nat)) : List D := rs.map fun a => D.lst o (rs.map (enM n k a))
theorem own_enM (n k : Nat) (a b : List Nat) : noOwn (enM n k a b) = true := own_enT _ _
theorem own_row (n k : Nat) (a : List Nat) (rs : List (List Nat)) : noOwns (rs.map (enM n k a)) = true := noOwns_map (fun b => own_enM n k a b) rs
theorem own_mats (n k : Nat) (rs : List (List Nat)) : noOwns (rs.map (matD n k)) = true := noOwns_map (fun b => noOwn_matD n k b) rs
def bodyTi : FS := (seqF (asgF (callF fn_paired [.b 2, .b 4]) (tgN 5)) <|
  dropF (mutF 3 appD [.t (ifE (bT (opF (ltD) [.b 5, .t (litF (.int 0))])) (tupF []) (opF addD [.t (opF mulTD [.t (tupF [.t (litF (.int 0))]), .b 5]), .t (tupF [.t (litF (.int 1))])]))]))
def bodyTo : FS := (seqF (asgF (lstF []) (tgN 3)) <|
  seqF (forF (itSeq (varF 0)) (tgN 4) bodyTi) <|
  dropF (mutF 1 appD [.t (varF 3)]))
theorem F_table_of_e : F_table_of = (seqF (asgF (lstF []) (tgN 1)) <| seqF (forF (itSeq (varF 0)) (tgN 2) bodyTo) <| retF (movF 1)) := rfl
def bodyPt : FS := (seqF (asgF (callF fn_p_upside_down [.b 4]) (tgN 5)) <|
  dropF (mutF 3 appD [.t (lcF [6] (itSeq (varF 2)) (tgN 6) (yesF) (callF fn_p_paired [.b 5, .b 6]))]))
theorem F_pairing_table_e : F_p_pairing_table = (seqF (asgF (callF fn_p_half_mats [.b 0, .b 1]) (tgN 2)) <| seqF (asgF (lstF []) (tgN 3)) <| seqF (forF (itSeq (varF 2)) (tgN 4) bodyPt) <| retF (movF 3)) := rfl
theorem Ti_turn {n k : Nat} {a b : List Nat} (hA : IsMat n k a) (hB : IsMat n k b) (hn : n ≤ 16) (hk : k ≤ 16) {acc : List D} (hl : acc.length ≤ 1000) {H T X4 X5 : Option D} : ∃ B5, turn (tgN 4) bodyTi (matD n k b) [H, T, some (matD n k a), some (.lst true acc), X4, X5] = some (.nx [H, T, some (matD n k a), some (.lst true (acc ++ [enM n k a b])), some (matD n k b), B5]) := by
  have e := lpaired_ok hA hB hn hk
  have le := bhL_le (upsR n k a) b k n k
  obtain ⟨xs, o1, o2⟩ := ones_ex (r := (bhL (upsR n k a) b k n k).1) (by omega)
  have p1 : fn_paired.pins = [true, true] := rfl
  have nm := noOwn_matD n k a
  have nh := noOwn_matD n k b
  have ap := appD_e (xs := acc) (enM n k a b) (by omega)
  have oe := own_enM n k a b
  rw [turn_e]
  unfold bodyTi
  unfold enM enT at *
  generalize matD n k a = MA at *
  generalize matD n k b = MB at *
  generalize (bhL (upsR n k a) b k n k) = s at *
  generalize (List.replicate s.1 (D.int 0) ++ [D.int 1]) = RR at *
  generalize pB k s.2 = bb at *
  generalize s.1 = r at *
  cases bb
  · have h : (-1 : Int) < 0 := by omega
    rw [if_neg (by simp)] at ap oe ⊢
    rw [if_neg (by simp)] at e
    exact ⟨some (.int (-1)), by simp [e, p1, nm, nh, ap]⟩
  · have h : ¬ ((r : Nat) : Int) < 0 := by omega
    rw [if_pos rfl] at ap oe ⊢
    rw [if_pos rfl] at e
    exact ⟨some (.int (r : Nat)), by simp [e, p1, nm, nh, ap, h, o1, o2]⟩
theorem Ti_loop {n k : Nat} {a : List Nat} (hA : IsMat n k a) (hn : n ≤ 16) (hk : k ≤ 16) {H T : Option D} : ∀ (bs : List (List Nat)) (acc : List D) (X4 X5 : Option D), (∀ b ∈ bs, IsMat n k b) → acc.length + bs.length ≤ 1000 → ∃ B4 B5, goFor (tgN 4) bodyTi (bs.map (matD n k)) [H, T, some (matD n k a), some (.lst true acc), X4, X5] = some (.nx [H, T, some (matD n k a), some (.lst true (acc ++ bs.map (enM n k a))), B4, B5])
  | [], acc, X4, X5, _, _ => ⟨X4, X5, by rw [List.map_nil, List.map_nil, List.append_nil]; rfl⟩
  | b :: bs, acc, X4, X5, h, hl => by
    simp only [List.length_cons] at hl
    obtain ⟨B5, t⟩ := Ti_turn (H := H) (T := T) (X4 := X4) (X5 := X5) hA (h b (by simp)) hn hk (acc := acc) (by omega)
    obtain ⟨C4, C5, g⟩ := Ti_loop hA hn hk (H := H) (T := T) bs (acc ++ [enM n k a b]) (some (matD n k b)) B5 (fun x hx => h x (by simp [hx])) (by simp only [List.length_append, List.length_singleton]; omega)
    refine ⟨C4, C5, ?_⟩
    rw [List.map_cons, goFor_cons, t, bd_some, loopK_nx, g, List.map_cons, List.append_assoc]
    rfl
theorem To_turn {n k : Nat} {a : List Nat} {rs : List (List Nat)} (hr : ∀ b ∈ rs, IsMat n k b) (hA : IsMat n k a) (hn : n ≤ 16) (hk : k ≤ 16) (hl2 : rs.length ≤ 900) {acc : List D} (hl : acc.length ≤ 1000) {X2 X3 X4 X5 : Option D} : ∃ B3 B4 B5, turn (tgN 2) bodyTo (matD n k a) [some (.lst false (rs.map (matD n k))), some (.lst true acc), X2, X3, X4, X5] = some (.nx [some (.lst false (rs.map (matD n k))), some (.lst true (acc ++ [.lst false (rs.map (enM n k a))])), some (matD n k a), B3, B4, B5]) := by
  obtain ⟨B4, B5, g⟩ := Ti_loop hA hn hk (H := some (.lst false (rs.map (matD n k)))) (T := some (.lst true acc)) rs [] X4 X5 hr (by simp; omega)
  have no := own_mats n k rs
  have fz := freezes_of no
  have or := own_row n k a rs
  have fr := freezes_of or
  have ap := appD_e (xs := acc) (.lst false (rs.map (enM n k a))) (by omega)
  have sm : decide ((rs.map (matD n k)).length ≤ smallL) = true := small_le (by rw [List.length_map]; omega)
  refine ⟨some (.lst false (rs.map (enM n k a))), B4, B5, ?_⟩
  rw [List.nil_append] at g
  rw [turn_e]
  unfold bodyTo
  generalize matD n k a = MA at *
  generalize rs.map (matD n k) = RS at *
  generalize rs.map (enM n k a) = ES at *
  simp [g, no, fz, or, fr, ap, sm, small_le]
theorem To_loop {n k : Nat} {rs : List (List Nat)} (hr : ∀ b ∈ rs, IsMat n k b) (hn : n ≤ 16) (hk : k ≤ 16) (hl2 : rs.length ≤ 900) : ∀ (as : List (List Nat)) (acc : List D) (X2 X3 X4 X5 : Option D), (∀ b ∈ as, IsMat n k b) → acc.length + as.length ≤ 1000 → ∃ B2 B3 B4 B5, goFor (tgN 2) bodyTo (as.map (matD n k)) [some (.lst false (rs.map (matD n k))), some (.lst true acc), X2, X3, X4, X5] = some (.nx [some (.lst false (rs.map (matD n k))), some (.lst true (acc ++ as.map fun a => D.lst false (rs.map (enM n k a)))), B2, B3, B4, B5])
  | [], acc, X2, X3, X4, X5, _, _ => ⟨X2, X3, X4, X5, by rw [List.map_nil, List.map_nil, List.append_nil]; rfl⟩
  | a :: as, acc, X2, X3, X4, X5, h, hl => by
    simp only [List.length_cons] at hl
    obtain ⟨B3, B4, B5, t⟩ := To_turn (X2 := X2) (X3 := X3) (X4 := X4) (X5 := X5) hr (h a (by simp)) hn hk hl2 (acc := acc) (by omega)
    obtain ⟨C2, C3, C4, C5, g⟩ := To_loop hr hn hk hl2 as (acc ++ [D.lst false (rs.map (enM n k a))]) (some (matD n k a)) B3 B4 B5 (fun x hx => h x (by simp [hx])) (by simp only [List.length_append, List.length_singleton]; omega)
    refine ⟨C2, C3, C4, C5, ?_⟩
    rw [List.map_cons, goFor_cons, t, bd_some, loopK_nx, g, List.map_cons, List.append_assoc]
    rfl
theorem ltable_ok {n k : Nat} {rs : List (List Nat)} (hr : ∀ b ∈ rs, IsMat n k b) (hn : n ≤ 16) (hk : k ≤ 16) (hl : rs.length ≤ 900) (o : Bool) : fn_table_of.sem [.lst o (rs.map (matD n k))] = some (.lst true (enTab n k false rs), [some (.lst false (rs.map (matD n k)))]) := by
  obtain ⟨B2, B3, B4, B5, g⟩ := To_loop hr hn hk hl rs [] none none none none hr (by simp; omega)
  have no := own_mats n k rs
  have fz := freezes_of no
  have sm : decide ((rs.map (matD n k)).length ≤ smallL) = true := small_le (by rw [List.length_map]; omega)
  rw [List.nil_append] at g
  unfold fn_table_of enTab
  rw [bodyFn_sem, F_table_of_e]
  generalize (rs.map fun a => D.lst false (rs.map (enM n k a))) = ES at *
  generalize rs.map (matD n k) = RS at *
  cases o <;> simp [g, no, fz, sm]
/-! the program's -/
theorem Pt_turn {n k : Nat} {a : List Nat} {rs : List (List Nat)} (hr : ∀ b ∈ rs, IsMat n k b) (hA : IsMat n k a) (hn : n ≤ 16) (hk : k ≤ 16) (hl2 : rs.length ≤ 900) {acc : List D} (hl : acc.length ≤ 1000) {X0 X1 X4 X5 : Option D} : turn (tgN 4) bodyPt (matD n k a) [X0, X1, some (.lst false (rs.map (matD n k))), some (.lst true acc), X4, X5, none] = some (.nx [X0, X1, some (.lst false (rs.map (matD n k))), some (.lst true (acc ++ [.lst true (rs.map (enM n k a))])), some (matD n k a), some (matD k n (upsR n k a)), none]) := by
  have u := ups_ok hA (by omega)
  have hU := ups_mat hA
  have g : goLc [6] (tgN 6) yesF (callF fn_p_paired [.b 5, .b 6]) (rs.map (matD n k)) [X0, X1, some (.lst false (rs.map (matD n k))), some (.lst true acc), some (matD n k a), some (matD k n (upsR n k a)), none] = some (rs.map (enM n k a), [X0, X1, some (.lst false (rs.map (matD n k))), some (.lst true acc), some (matD n k a), some (matD k n (upsR n k a)), none]) := by
    generalize D.lst false (rs.map (matD n k)) = RS
    refine goLc_mapI (matD n k) (enM n k a) rs fun b hb => ?_
    have hB := hr b hb
    have e := ppaired_ok hU.len hB.len hU.pr hB.pr hn (by omega)
    have p1 : fn_p_paired.pins = [true, true] := rfl
    have nu := noOwn_matD k n (upsR n k a)
    have nb := noOwn_matD n k b
    have oe := own_enM n k a b
    rw [lcTurn_e]
    unfold enM at *
    generalize matD n k a = MA at *
    generalize matD k n (upsR n k a) = MU at *
    generalize matD n k b = MB at *
    generalize enT k (bhL (upsR n k a) b k n k) = E at *
    simp [e, p1, nu, nb, oe, putB_t1]
  have no := own_mats n k rs
  have fz := freezes_of no
  have or := own_row n k a rs
  have ap := appD_e (xs := acc) (.lst true (rs.map (enM n k a))) (by omega)
  have sm : decide ((rs.map (enM n k a)).length ≤ smallL) = true := small_le (by rw [List.length_map]; omega)
  have p1 : fn_p_upside_down.pins = [true] := rfl
  have nu := noOwn_matD k n (upsR n k a)
  have nm := noOwn_matD n k a
  rw [turn_e]
  unfold bodyPt
  generalize matD n k a = MA at *
  generalize matD k n (upsR n k a) = MU at *
  generalize rs.map (matD n k) = RS at *
  generalize rs.map (enM n k a) = ES at *
  simp [u, g, no, fz, or, ap, sm, p1, nu, nm]
theorem Pt_loop {n k : Nat} {rs : List (List Nat)} (hr : ∀ b ∈ rs, IsMat n k b) (hn : n ≤ 16) (hk : k ≤ 16) (hl2 : rs.length ≤ 900) {X0 X1 : Option D} : ∀ (as : List (List Nat)) (acc : List D) (X4 X5 : Option D), (∀ b ∈ as, IsMat n k b) → acc.length + as.length ≤ 1000 → ∃ B4 B5, goFor (tgN 4) bodyPt (as.map (matD n k)) [X0, X1, some (.lst false (rs.map (matD n k))), some (.lst true acc), X4, X5, none] = some (.nx [X0, X1, some (.lst false (rs.map (matD n k))), some (.lst true (acc ++ as.map fun a => D.lst true (rs.map (enM n k a)))), B4, B5, none])
  | [], acc, X4, X5, _, _ => ⟨X4, X5, by rw [List.map_nil, List.map_nil, List.append_nil]; rfl⟩
  | a :: as, acc, X4, X5, h, hl => by
    simp only [List.length_cons] at hl
    have t := Pt_turn (X0 := X0) (X1 := X1) (X4 := X4) (X5 := X5) hr (h a (by simp)) hn hk hl2 (acc := acc) (by omega)
    obtain ⟨C4, C5, g⟩ := Pt_loop hr hn hk hl2 (X0 := X0) (X1 := X1) as (acc ++ [D.lst true (rs.map (enM n k a))]) (some (matD n k a)) (some (matD k n (upsR n k a))) (fun x hx => h x (by simp [hx])) (by simp only [List.length_append, List.length_singleton]; omega)
    refine ⟨C4, C5, ?_⟩
    rw [List.map_cons, goFor_cons, t, bd_some, loopK_nx, g, List.map_cons, List.append_assoc]
    rfl
theorem ptable_ok {n k : Nat} {rs : List (List Nat)} (h : HvOk n k rs) (hn : n ≤ 16) (hk : k ≤ 16) : fn_p_pairing_table.sem [.int (n : Nat), .int (k : Nat)] = some (.lst true (enTab n k true rs), [some (.int (n : Nat)), some (.int (k : Nat))]) := by
  have hr := fun b hb => (h.mat b hb).1
  have hl := h.len
  obtain ⟨B4, B5, g⟩ := Pt_loop hr hn hk (by omega) (X0 := some (.int (n : Nat))) (X1 := some (.int (k : Nat))) rs [] none none hr (by simp; omega)
  have no := own_mats n k rs
  have fz := freezes_of no
  have sm : decide ((rs.map (matD n k)).length ≤ smallL) = true := small_le (by rw [List.length_map]; omega)
  have e := h.prog
  have p1 : fn_p_half_mats.pins = [true, true] := rfl
  rw [List.nil_append] at g
  unfold fn_p_pairing_table enTab
  rw [bodyFn_sem, F_pairing_table_e]
  generalize (rs.map fun a => D.lst true (rs.map (enM n k a))) = ES at *
  generalize rs.map (matD n k) = RS at *
  simp [e, g, no, fz, sm, p1]
end VS
set_option Elab.async false
set_option linter.all false
set_option maxRecDepth 100000
namespace VS
open PySem PySem.Spec PyProof.Rows L2 RZ
/-! ### pairing of two half mats -/
theorem pB_iff {k : Nat} {row : List Nat} (hl : row.length = k + k) : pB k row = true ↔ dnB k row := by
  unfold pB dnB
  rw [List.isEmpty_iff, List.filter_eq_nil_iff]
  constructor
  · intro h p hp
    have hm : rowF row p ∈ row.take k := by
      have : rowF row p = row[p]'(by omega) := by
        unfold rowF
        rw [List.getD_eq_getElem?_getD, List.getElem?_eq_getElem (by omega)]; rfl
      rw [this]
      exact List.mem_take_iff_getElem.mpr ⟨p, by omega, rfl⟩
    have := h _ hm
    simp at this
    exact this
  · intro h x hx
    obtain ⟨p, hp, rfl⟩ := List.mem_take_iff_getElem.mp hx
    have := h p (by omega)
    have e : rowF row p = row[p]'(by omega) := by
      unfold rowF
      rw [List.getD_eq_getElem?_getD, List.getElem?_eq_getElem (by omega)]; rfl
    rw [e] at this
    simp
    omega
theorem enM_symm {n k : Nat} {a b : List Nat} (hA : IsMat n k a) (hB : IsMat n k b) : enM n k a b = enM n k b a := by
  have uA := ups_mat hA
  have uB := ups_mat hB
  have aa : upsR k n (upsR n k a) = a := ups_ups hA.len hA.pr
  have e := bh_ups (n := k) (m := n) (k := k) uA.len hB.len uA.pr hB.pr uB.pr (by rw [aa]; exact hA.pr)
  rw [aa] at e
  have l1 : (bhL (upsR n k a) b k n k).2.length = k + k := bhL_len _ _
  have pr : Pr (k + k) (rowF (bhL (upsR n k a) b k n k).2) := bhL_pr uA.pr hB.pr
  obtain ⟨s, hs⟩ : ∃ s, s = bhL (upsR n k a) b k n k := ⟨_, rfl⟩
  unfold enM
  rw [e]
  rw [← hs] at l1 pr ⊢
  have l2 : (upsR k k s.2).length = k + k := ups_len l1
  have uu : upsR k k (upsR k k s.2) = s.2 := ups_ups l1 pr
  have e2 : pB k (upsR k k s.2) = pB k s.2 := by
    rw [Bool.eq_iff_iff, pB_iff l2, pB_iff l1]
    constructor
    · intro h
      have pr2 : Pr (k + k) (rowF (upsR k k s.2)) := by
        have b1 := bhL_pr (n := k) (m := n) (k := k) (ra := upsR n k b) (rh := a) uB.pr hA.pr
        rw [e, ← hs] at b1
        exact b1
      have := dn_ups l2 pr2 h
      rw [uu] at this
      exact this
    · exact dn_ups l1 pr
  unfold enT
  simp only [e2]
theorem through_ok {n k c : Nat} {row : List Nat} (hm : IsMat n k row) (hl : n + k ≤ 1000) (hc : ((row.take n).filter fun x => decide (n ≤ x)).length = c) : fn_p_through.sem [matD n k row] = some (.int (c : Nat), [some (matD n k row)]) := by
  have ck := checked_ok hm hl
  have p1 : fn_p_checked_mat.pins = [true] := rfl
  have no := noOwns_natDs row
  have ph := partT_H (i := n) no
  rw [← List.map_take] at ph
  have fz : freezes ((row.take n).map natD) = (row.take n).map natD := freezes_natDs _
  have nm := noOwn_matD n k row
  have g : ∀ M N, goLc [4] (tgN 4) (bT (opF (geD) [.b 4, .b 1])) (varF 4) ((row.take n).map natD) [M, some (.int (n : Nat)), N, some (.tup (row.map natD)), none] = some ((((row.take n).filter fun x => decide (n ≤ x)).map natD), [M, some (.int (n : Nat)), N, some (.tup (row.map natD)), none]) := by
    intro M N
    refine goLc_filt natD natD _ _ fun x hx => ?_
    rw [lcTurnF_e, natD_i]
    generalize row.map natD = SS at *
    by_cases c : n ≤ x
    · have c1 : (n : Int) ≤ (x : Int) := by omega
      simp [c, c1, natD_i]
    · have c1 : ¬ (n : Int) ≤ (x : Int) := by omega
      simp [c, c1, natD_i]
  have le := List.length_filter_le (fun x => decide (n ≤ x)) (row.take n)
  have lt : (row.take n).length ≤ n := by rw [List.length_take]; omega
  have sm : decide ((((row.take n).filter fun x => decide (n ≤ x)).map natD).length ≤ smallL) = true := small_le (by rw [List.length_map]; omega)
  have nf := noOwns_natDs ((row.take n).filter fun x => decide (n ≤ x))
  have ln : (((row.take n).filter fun x => decide (n ≤ x)).map natD).length = c := by rw [List.length_map, hc]
  have sc : decide (c ≤ smallL) = true := small_le (by omega)
  unfold fn_p_through F_p_through
  rw [bodyFn_sem]
  unfold matD at *
  generalize ((row.take n).filter fun x => decide (n ≤ x)).map natD = FL at *
  generalize (row.take n).map natD = TK at *
  generalize row.map natD = SS at *
  simp [ck, p1, no, ph, fz, nm, g, sm, nf, ln, sc]
theorem check_half_ok {n k : Nat} {row : List Nat} (hm : IsMat n k row) (hl : n + k ≤ 1000) (hc : ((row.take n).filter fun x => decide (n ≤ x)).length = k) : fn_p_check_half.sem [matD n k row] = some (.non, [some (matD n k row)]) := by
  have ck := checked_ok hm hl
  have th := through_ok hm hl hc
  have p1 : fn_p_checked_mat.pins = [true] := rfl
  have p2 : fn_p_through.pins = [true] := rfl
  have nm := noOwn_matD n k row
  have a1 := mat_1 n k row
  unfold fn_p_check_half F_p_check_half
  rw [bodyFn_sem]
  generalize matD n k row = MM at *
  simp [ck, th, p1, p2, nm, a1]
theorem pair_ok (k : Nat) : fn_p_check_pair.sem [.int (k : Nat), .int (k : Nat)] = some (.non, [some (.int (k : Nat)), some (.int (k : Nat))]) := by
  unfold fn_p_check_pair F_p_check_pair
  rw [bodyFn_sem]
  simp
theorem pairing_ok {n k : Nat} {a b : List Nat} (hA : IsMat n k a) (hB : IsMat n k b) (hn : n ≤ 16) (hk : k ≤ 16) (ta : ((a.take n).filter fun x => decide (n ≤ x)).length = k) (tb : ((b.take n).filter fun x => decide (n ≤ x)).length = k) : fn_p_pairing.sem [matD n k a, matD n k b] = some (enM n k a b, [some (matD n k a), some (matD n k b)]) := by
  have hU := ups_mat hA
  have e := ppaired_ok hU.len hB.len hU.pr hB.pr hn (by omega)
  have u := ups_ok hA (by omega)
  have c1 := check_half_ok hA (by omega) ta
  have c2 := check_half_ok hB (by omega) tb
  have q1 := pair_ok n
  have q2 := pair_ok k
  have p1 : fn_p_paired.pins = [true, true] := rfl
  have p2 : fn_p_upside_down.pins = [true] := rfl
  have p3 : fn_p_check_half.pins = [true] := rfl
  have p4 : fn_p_check_pair.pins = [true, true] := rfl
  have na := noOwn_matD n k a
  have nb := noOwn_matD n k b
  have nu := noOwn_matD k n (upsR n k a)
  have a0 := mat_0 n k a
  have a1 := mat_1 n k a
  have b0 := mat_0 n k b
  have b1 := mat_1 n k b
  have oe := own_enM n k a b
  unfold fn_p_pairing F_p_pairing
  rw [bodyFn_sem]
  unfold enM at *
  generalize matD n k a = MA at *
  generalize matD n k b = MB at *
  generalize matD k n (upsR n k a) = MU at *
  generalize enT k (bhL (upsR n k a) b k n k) = E at *
  simp [e, u, c1, c2, q1, q2, p1, p2, p3, p4, na, nb, nu, a0, a1, b0, b1, oe]
/-! ### alike -/
theorem plainB_enM (n k : Nat) (a b : List Nat) (hn : n ≤ 16) : PlainB 1 (enM n k a b) := by
  have le := bhL_le (upsR n k a) b k n k
  unfold enM enT
  split
  · refine .tup (by simp; omega) fun x hx => ?_
    rcases List.mem_append.mp hx with h | h
    · rw [List.mem_replicate] at h
      rw [h.2]; exact .int _
    · obtain rfl : x = .int 1 := by simpa using h
      exact .int _
  · exact .tup (by simp) fun x hx => by cases hx
theorem plainB_row (n k : Nat) (a : List Nat) (rs : List (List Nat)) (hn : n ≤ 16) (hl : rs.length ≤ 1000) : PlainB 2 (.lst false (rs.map (enM n k a))) := by
  refine .lst (by rw [List.length_map]; omega) fun x hx => ?_
  obtain ⟨b, _, rfl⟩ := List.mem_map.mp hx
  exact plainB_enM n k a b hn
theorem plainB_tab (n k : Nat) (rs : List (List Nat)) (hn : n ≤ 16) (hl : rs.length ≤ 1000) : PlainB 3 (.lst false (enTab n k false rs)) := by
  refine .lst (by unfold enTab; rw [List.length_map]; omega) fun x hx => ?_
  obtain ⟨b, _, rfl⟩ := List.mem_map.mp hx
  exact plainB_row n k b rs hn hl
end VS
set_option Elab.async false
set_option linter.all false
set_option maxRecDepth 100000
namespace VS
open PySem PySem.Spec PyProof.Rows L2 RZ
/-! ### a table changed by its owner -/
def bodyCh : FS := (ifF (lendB (andF (bT (opF (neD) [.b 4, .b 2])) (notF (tstF (.t (callF fn_same [.t (opF ixD [.b 0, .b 4]), .t (opF ixD [.b 1, .b 4])])))))) (retF (lendF (litF (.bl false)))) (passF))
theorem F_changed_e : F_changed = (seqF (asgF (litF .non) (tgElVF 0 (varF 2) (varF 3))) <| seqF (dropF (mutElF 0 (varF 2) appD (tupF []))) <| seqF (forF (itRg rng1D [.t (opF lenD [.b 1])]) (tgN 4) bodyCh) <| retF (lendF (litF (.bl true)))) := rfl
theorem Ch_turn {F DD : List D} {r j : Nat} {R : Option D} {X4 : Option D} (hR : R = some (.int (r : Nat))) (h : j ≠ r → ∃ d, atI (freezes F) (j : Int) = some d ∧ atI (freezes DD) (j : Int) = some d ∧ noOwn d = true ∧ fn_same.sem [d, d] = some (.bl true, [some d, some d])) {C : Option D} {o1 o2 : Bool} : turn (tgN 4) bodyCh (natD j) [some (.lst o1 F), some (.lst o2 DD), R, C, X4] = some (.nx [some (.lst o1 F), some (.lst o2 DD), R, C, some (natD j)]) := by
  subst hR
  have p1 : fn_same.pins = [true, true] := same_pins 20
  rw [turn_e]
  unfold bodyCh
  cases C with
  | none =>
    by_cases c : j = r
    · subst c
      simp [natD_i]
    · obtain ⟨d, h1, h2, h3, h4⟩ := h c
      have c1 : ¬ (j : Int) = (r : Int) := by omega
      simp [natD_i, c, c1, h1, h2, h3, h4, p1]
  | some x =>
    by_cases c : j = r
    · subst c
      simp [natD_i]
    · obtain ⟨d, h1, h2, h3, h4⟩ := h c
      have c1 : ¬ (j : Int) = (r : Int) := by omega
      simp [natD_i, c, c1, h1, h2, h3, h4, p1]
theorem Ch_loop {F DD : List D} {r : Nat} {C : Option D} {o1 o2 : Bool} : ∀ (js : List Nat) (X4 : Option D), (∀ j ∈ js, j ≠ r → ∃ d, atI (freezes F) (j : Int) = some d ∧ atI (freezes DD) (j : Int) = some d ∧ noOwn d = true ∧ fn_same.sem [d, d] = some (.bl true, [some d, some d])) → ∃ B4, goFor (tgN 4) bodyCh (js.map natD) [some (.lst o1 F), some (.lst o2 DD), some (.int (r : Nat)), C, X4] = some (.nx [some (.lst o1 F), some (.lst o2 DD), some (.int (r : Nat)), C, B4])
  | [], X4, _ => ⟨X4, rfl⟩
  | j :: js, X4, h => by
    have t := Ch_turn (F := F) (DD := DD) (r := r) (j := j) (X4 := X4) (C := C) (o1 := o1) (o2 := o2) rfl (h j (by simp))
    obtain ⟨B4, g⟩ := Ch_loop (C := C) (o1 := o1) (o2 := o2) js (some (natD j)) fun x hx => h x (by simp [hx])
    exact ⟨B4, by rw [List.map_cons, goFor_cons, t, bd_some, loopK_nx, g]⟩
theorem freezes_tab (n k : Nat) (o : Bool) (rs : List (List Nat)) : freezes (enTab n k o rs) = enTab n k false rs := by
  rw [freezes_eq]
  unfold enTab
  rw [List.map_map]
  refine List.map_congr_left fun a _ => ?_
  show freeze (D.lst o _) = _
  rw [freeze_lst, freezes_of (own_row n k a rs)]
theorem changed_ok {n k r c : Nat} {rs : List (List Nat)} (hn : n ≤ 16) (hl : rs.length ≤ 900) (hr : r < rs.length) (hc : c < rs.length) : ∃ F, fn_changed.sem [.lst true (enTab n k true rs), .lst true (enTab n k false rs), .int (r : Nat), .int (c : Nat)] = some (.bl true, [some (.lst true F), some (.lst true (enTab n k false rs)), some (.int (r : Nat)), some (.int (c : Nat))]) ∧ F.length = rs.length := by
  obtain ⟨a, ha⟩ : ∃ a, a = rs[r] := ⟨_, rfl⟩
  have lE : (enTab n k true rs).length = rs.length := by unfold enTab; rw [List.length_map]
  have lD : (enTab n k false rs).length = rs.length := by unfold enTab; rw [List.length_map]
  have gE : (enTab n k true rs)[r]? = some (.lst true (rs.map (enM n k a))) := by
    unfold enTab
    rw [List.getElem?_map, List.getElem?_eq_getElem hr, ← ha]; rfl
  have i1 : ixN (enTab n k true rs).length ((r : Nat) : Int) = some r := ixN_nat (by omega)
  have oR := own_row n k a rs
  have lR : (rs.map (enM n k a)).length = rs.length := by rw [List.length_map]
  have i2 : ixN (rs.map (enM n k a)).length ((c : Nat) : Int) = some c := ixN_nat (by omega)
  have s1 : ∀ X4, tgElVF 0 (varF 2) (varF 3) .non [some (.lst true (enTab n k true rs)), some (.lst true (enTab n k false rs)), some (.int (r : Nat)), some (.int (c : Nat)), X4] = some [some (.lst true ((enTab n k true rs).set r (.lst true ((rs.map (enM n k a)).set c .non)))), some (.lst true (enTab n k false rs)), some (.int (r : Nat)), some (.int (c : Nat)), X4] := by
    intro X4
    exact tgElVF_e (xs := enTab n k true rs) (ys := rs.map (enM n k a)) (j := (r : Nat)) (l := (c : Nat)) (k := r) (n := c) (ρi := lendE [some (.lst true (enTab n k true rs)), some (.lst true (enTab n k false rs)), some (.int (r : Nat)), some (.int (c : Nat)), X4]) (ρj := lendE [some (.lst true (enTab n k true rs)), some (.lst true (enTab n k false rs)), some (.int (r : Nat)), some (.int (c : Nat)), X4]) (d := .non) rfl (by simp) i1 gE (by simp) i2 oR rfl
  obtain ⟨E1, hE1⟩ : ∃ E1, E1 = (enTab n k true rs).set r (.lst true ((rs.map (enM n k a)).set c .non)) := ⟨_, rfl⟩
  have lE1 : E1.length = rs.length := by rw [hE1, List.length_set, lE]
  have gE1 : E1[r]? = some (.lst true ((rs.map (enM n k a)).set c .non)) := by
    rw [hE1, List.getElem?_set_self (by omega)]
  have i3 : ixN E1.length ((r : Nat) : Int) = some r := ixN_nat (by omega)
  have ap := appD_e (xs := (rs.map (enM n k a)).set c .non) (.tup []) (by rw [List.length_set, lR]; omega)
  obtain ⟨E2, hE2⟩ : ∃ E2, E2 = E1.set r (.lst true ((rs.map (enM n k a)).set c .non ++ [.tup []])) := ⟨_, rfl⟩
  have s2 : ∀ X4, mutElF 0 (varF 2) appD (tupF []) [some (.lst true E1), some (.lst true (enTab n k false rs)), some (.int (r : Nat)), some (.int (c : Nat)), X4] = some (.non, [some (.lst true E2), some (.lst true (enTab n k false rs)), some (.int (r : Nat)), some (.int (c : Nat)), X4]) := by
    intro X4
    rw [hE2]
    exact mutElF_e (xs := E1) (ys := (rs.map (enM n k a)).set c .non) (j := (r : Nat)) (k := r) (ρi := lendE [some (.lst true E1), some (.lst true (enTab n k false rs)), some (.int (r : Nat)), some (.int (c : Nat)), X4]) (ρa := lendE [some (.lst true E1), some (.lst true (enTab n k false rs)), some (.int (r : Nat)), some (.int (c : Nat)), X4]) (a := .tup []) rfl (by simp) i3 gE1 (by simp) rfl ap
  have lE2 : E2.length = rs.length := by rw [hE2, List.length_set, lE1]
  refine ⟨E2, ?_, lE2⟩
  have fD : freezes (enTab n k false rs) = enTab n k false rs := freezes_tab n k false rs
  obtain ⟨B4, g⟩ := Ch_loop (F := E2) (DD := enTab n k false rs) (r := r) (C := some (.int (c : Nat))) (o1 := true) (o2 := true) (List.range rs.length) none (fun j hj hjr => by
    have hj := List.mem_range.mp hj
    obtain ⟨b, hb⟩ : ∃ b, b = rs[j] := ⟨_, rfl⟩
    have q1 : (enTab n k false rs)[j]? = some (.lst false (rs.map (enM n k b))) := by
      unfold enTab
      rw [List.getElem?_map, List.getElem?_eq_getElem hj, ← hb]; rfl
    have q2 : (freezes E2)[j]? = some (.lst false (rs.map (enM n k b))) := by
      rw [freezes_eq, List.getElem?_map, hE2, List.getElem?_set_ne (by omega), hE1, List.getElem?_set_ne (by omega)]
      unfold enTab
      rw [List.getElem?_map, List.getElem?_eq_getElem hj, ← hb]
      show some (freeze (.lst true _)) = _
      rw [freeze_lst, freezes_of (own_row n k b rs)]
    have pl := plainB_row n k b rs hn (by omega)
    exact ⟨_, atI_nat q2, by rw [fD]; exact atI_nat q1, pl.own, same_ok19 pl (by omega)⟩)
  have r1 := rng1_nat (u := rs.length) (by omega)
  unfold fn_changed
  rw [bodyFn_sem, F_changed_e]
  rw [← hE1] at s1
  generalize (List.range rs.length).map natD = RG at *
  generalize enTab n k true rs = ET at *
  generalize enTab n k false rs = EF at *
  simp [s1, s2, g, r1, lD]
end VS
set_option Elab.async false
set_option linter.all false
set_option maxRecDepth 100000
namespace VS
open PySem PySem.Spec PyProof.Rows L2 RZ
def rA (C : FS) : FS := seqF (asgF (opF addD [.t (opF modD [.t (opF intD [.b 1]), .t (litF (.int 2))]), .t (opF mulD [.t (litF (.int 2)), .t (callF fn_draw [.b 0, .t (opF addD [.t (opF fdivD [.b 1, .t (litF (.int 2))]), .t (litF (.int 1))])])])]) (tgN 3)) <|
  seqF (asgF (callF fn_halves [.b 1, .b 3]) (tgN 4)) <|
  seqF (parF [5, 6] [.t (callF fn_table_of [.b 4]), .t (opF lenD [.b 4])]) <|
  seqF (asgF (ifE (tstF (.b 2)) (callKF fn_p_pairing_table [1, 0] [.b 3, .b 1]) (callF fn_p_pairing_table [.b 1, .b 3])) (tgN 7)) C
def rB (C : FS) : FS := seqF (ifF (lendB (orF (notF (tstF (.t (callF fn_same [.b 7, .b 5])))) (notF (tstF (.t (callF fn_same [.t (callF fn_p_how_many_halves [.b 1, .b 3]), .b 6])))))) (retF (lendF (litF (.bl false)))) (passF)) <|
  seqF (parF [8, 9] [.t (callF fn_draw [.b 0, .b 6]), .t (callF fn_draw [.b 0, .b 6])]) C
def rC (C : FS) : FS := seqF (ifF (lendB (notF (tstF (.t (callF fn_same [.t (callF fn_p_pairing [.t (opF ixD [.b 4, .b 8]), .t (opF ixD [.b 4, .b 9])]), .t (opF ixD [.t (opF ixD [.b 5, .b 8]), .b 9])]))))) (retF (lendF (litF (.bl false)))) (passF)) <|
  seqF (asgF (callKF fn_p_half_mats [0, 1] [.b 1, .b 3]) (tgN 10)) <|
  seqF (ifF (lendB (notF (tstF (.t (callF fn_same [.t (callF fn_p_pairing [.t (opF ixD [.b 10, .b 9]), .t (opF ixD [.b 10, .b 8])]), .t (opF ixD [.t (opF ixD [.b 7, .b 8]), .b 9])]))))) (retF (lendF (litF (.bl false)))) (passF)) C
def rD : FS := seqF (ifF (notF (tstF (.t (callF fn_changed [.b 7, .b 5, .b 8, .b 9])))) (retF (lendF (litF (.bl false)))) (passF)) <|
  seqF (dropF (mutF 7 popAtD [.t (callF fn_draw [.b 0, .b 6])])) <|
  retF (lendF (orV (opF (gtD) [.b 1, .t (litF (.int 6))]) (callF fn_same [.t (frzF (callF fn_p_pairing_table [.b 1, .b 3])), .b 5])))
theorem F_right_e : F_right = rA (rB (rC rD)) := rfl
structure RtOk (w w' : D) (n k : Nat) (rs : List (List Nat)) : Prop where
  a : ∀ (C : FS) (b : Bool), rA C [some w, some (.int (n : Nat)), some (.bl b), none, none, none, none, none, none, none, none] = C [some w', some (.int (n : Nat)), some (.bl b), some (.int (k : Nat)), some (.lst false (rs.map (matD n k))), some (.lst true (enTab n k false rs)), some (.int (rs.length : Nat)), some (.lst true (enTab n k true rs)), none, none, none]
theorem rA_ok {N n : Nat} {w : D} (hw : Wok (N + 1) w) (h0 : 1 ≤ n) (h8 : n ≤ 8) : ∃ w' k rs, RtOk w w' n k rs ∧ Wok N w' ∧ HvOk n k rs ∧ k ≤ 8 := by
  obtain ⟨v, w', e, a, b, kw⟩ := draw_ok (N := N) (lim := ((n / 2 + 1 : Nat) : Int)) hw (by omega) (by
    have : (6 : Int) < 2 ^ 1000 := by decide
    omega)
  obtain ⟨j, rfl⟩ : ∃ j : Nat, v = (j : Int) := ⟨v.toNat, by omega⟩
  obtain ⟨rs, hv⟩ := hv_all (n := n) (j := j) h0 h8 (by omega)
  refine ⟨w', n % 2 + 2 * j, rs, ⟨fun C bb => ?_⟩, kw, hv, by omega⟩
  have hk : ((n % 2 + 2 * j : Nat) : Int) = (n : Int) % 2 + 2 * (j : Int) := by omega
  have hd : ((n / 2 + 1 : Nat) : Int) = (n : Int).fdiv 2 + 1 := by
    rw [Int.fdiv_eq_ediv_of_nonneg _ (by omega)]; omega
  have hmd : (n : Int).fmod 2 = (n : Int) % 2 := Int.fmod_eq_emod_of_nonneg _ (by omega)
  rw [hd] at e
  obtain ⟨k, hK⟩ : ∃ k, k = n % 2 + 2 * j := ⟨_, rfl⟩
  rw [← hK] at hv hk ⊢
  have hkk : (n : Int).fmod 2 + 2 * (j : Int) = (k : Int) := by rw [hmd]; omega
  have hr := fun b hb => (hv.mat b hb).1
  have hl := hv.len
  have lt := ltable_ok (n := n) (k := k) (rs := rs) hr (by omega) (by omega) (by omega) true
  have pt := ptable_ok hv (by omega) (by omega)
  have lm := hv.law
  have o0 := hw.own
  have o1 := kw.own
  have p1 : fn_draw.pins = [true, true] := rfl
  have p2 : fn_halves.pins = [true, true] := rfl
  have p3 : fn_table_of.pins = [true] := rfl
  have p4 : fn_p_pairing_table.pins = [true, true] := rfl
  have mo : ∀ x, mulOk 2 x = true := fun x => mulOk_l (by omega) (by omega)
  have no := own_mats n k rs
  have ll : (rs.map (matD n k)).length = rs.length := by rw [List.length_map]
  have fd : fdivOk 2 = true := fdivOk_s (by omega) (by omega) (by omega)
  unfold rA
  generalize enTab n k false rs = EF at *
  generalize enTab n k true rs = ET at *
  generalize rs.map (matD n k) = RS at *
  cases bb <;> simp [e, hkk, lt, pt, lm, o0, o1, p1, p2, p3, p4, mo, no, ll, fd]
end VS
set_option Elab.async false
set_option linter.all false
set_option maxRecDepth 100000
namespace VS
open PySem PySem.Spec PyProof.Rows L2 RZ
theorem rB_ok {N n k : Nat} {w : D} {rs : List (List Nat)} {X2 X4 : Option D} (hX4 : ∃ d, X4 = some d ∧ noOwn d = true) (hw : Wok (N + 2) w) (hv : HvOk n k rs) (hn : n ≤ 8) : ∃ w' r c, r < rs.length ∧ c < rs.length ∧ Wok N w' ∧ ∀ (C : FS), rB C [some w, some (.int (n : Nat)), X2, some (.int (k : Nat)), X4, some (.lst true (enTab n k false rs)), some (.int (rs.length : Nat)), some (.lst true (enTab n k true rs)), none, none, none] = C [some w', some (.int (n : Nat)), X2, some (.int (k : Nat)), X4, some (.lst true (enTab n k false rs)), some (.int (rs.length : Nat)), some (.lst true (enTab n k true rs)), some (.int (r : Nat)), some (.int (c : Nat)), none] := by
  obtain ⟨d4, rfl, o4⟩ := hX4
  have hl := hv.len
  have hp := hv.pos
  have b9 : ((rs.length : Nat) : Int) < 2 ^ 1000 := by
    have : (29 : Int) < 2 ^ 1000 := by decide
    omega
  obtain ⟨v, w1, e1, a1, b1, k1⟩ := draw_ok (N := N + 1) (lim := ((rs.length : Nat) : Int)) hw (by omega) b9
  obtain ⟨r, rfl⟩ : ∃ j : Nat, v = (j : Int) := ⟨v.toNat, by omega⟩
  obtain ⟨v, w2, e2, a2, b2, k2⟩ := draw_ok (N := N) (lim := ((rs.length : Nat) : Int)) k1 (by omega) b9
  obtain ⟨c, rfl⟩ : ∃ j : Nat, v = (j : Int) := ⟨v.toNat, by omega⟩
  refine ⟨w2, r, c, by omega, by omega, k2, fun C => ?_⟩
  have pt := plainB_tab n k rs (by omega) (by omega)
  have s1 := same_ok19 pt (by omega)
  have s2 := same_int ((rs.length : Nat) : Int)
  have hm := hv.many
  have o0 := hw.own
  have o1 := k1.own
  have o2 := k2.own
  have p1 : fn_draw.pins = [true, true] := rfl
  have p2 : fn_p_how_many_halves.pins = [true, true] := rfl
  have p3 : fn_same.pins = [true, true] := same_pins 20
  have f1 := freezes_tab n k true rs
  have f2 := freezes_tab n k false rs
  have no : noOwns (enTab n k false rs) = true := by
    have := pt.own
    simpa using this
  have fz := freeze_of o4
  unfold rB
  generalize enTab n k false rs = EF at *
  generalize enTab n k true rs = ET at *
  cases X2 <;> simp [e1, e2, s1, s2, hm, o0, o1, o2, p1, p2, p3, f1, f2, no, fz, o4]
theorem rC_ok {n k r c : Nat} {w : D} {rs : List (List Nat)} {X2 : Option D} (hv : HvOk n k rs) (hn : n ≤ 8) (hk : k ≤ 8) (hr : r < rs.length) (hc : c < rs.length) (C : FS) : ∃ d10, rC C [some w, some (.int (n : Nat)), X2, some (.int (k : Nat)), some (.lst false (rs.map (matD n k))), some (.lst true (enTab n k false rs)), some (.int (rs.length : Nat)), some (.lst true (enTab n k true rs)), some (.int (r : Nat)), some (.int (c : Nat)), none] = C [some w, some (.int (n : Nat)), X2, some (.int (k : Nat)), some (.lst false (rs.map (matD n k))), some (.lst true (enTab n k false rs)), some (.int (rs.length : Nat)), some (.lst true (enTab n k true rs)), some (.int (r : Nat)), some (.int (c : Nat)), some d10] := by
  obtain ⟨a, ha⟩ : ∃ a, a = rs[r] := ⟨_, rfl⟩
  obtain ⟨b, hb⟩ : ∃ b, b = rs[c] := ⟨_, rfl⟩
  obtain ⟨mA, tA⟩ := hv.mat a (ha ▸ List.getElem_mem hr)
  obtain ⟨mB, tB⟩ := hv.mat b (hb ▸ List.getElem_mem hc)
  have q1 := pairing_ok mA mB (by omega) (by omega) tA tB
  have q2 := pairing_ok mB mA (by omega) (by omega) tB tA
  rw [enM_symm mB mA] at q2
  have x1 : atI (rs.map (matD n k)) ((r : Nat) : Int) = some (matD n k a) := atI_nat (by rw [List.getElem?_map, List.getElem?_eq_getElem hr, ← ha]; rfl)
  have x2 : atI (rs.map (matD n k)) ((c : Nat) : Int) = some (matD n k b) := atI_nat (by rw [List.getElem?_map, List.getElem?_eq_getElem hc, ← hb]; rfl)
  have y1 : atI (enTab n k false rs) ((r : Nat) : Int) = some (.lst false (rs.map (enM n k a))) := atI_nat (by unfold enTab; rw [List.getElem?_map, List.getElem?_eq_getElem hr, ← ha]; rfl)
  have y2 : atI (rs.map (enM n k a)) ((c : Nat) : Int) = some (enM n k a b) := atI_nat (by rw [List.getElem?_map, List.getElem?_eq_getElem hc, ← hb]; rfl)
  have oR := own_row n k a rs
  have oE := own_enM n k a b
  have sm := same_ok19 (plainB_enM n k a b (by omega)) (by omega)
  have nA := noOwn_matD n k a
  have nB := noOwn_matD n k b
  have p1 : fn_p_pairing.pins = [true, true] := rfl
  have p2 : fn_p_half_mats.pins = [true, true] := rfl
  have p3 : fn_same.pins = [true, true] := same_pins 20
  have f1 := freezes_tab n k true rs
  have f2 := freezes_tab n k false rs
  have om := own_mats n k rs
  have fm := freezes_of om
  have no : noOwns (enTab n k false rs) = true := by
    have := (plainB_tab n k rs (by omega) (by have := hv.len; omega)).own
    simpa using this
  have hp := hv.prog
  refine ⟨.lst true (rs.map (matD n k)), ?_⟩
  unfold rC
  generalize enTab n k false rs = EF at *
  generalize enTab n k true rs = ET at *
  generalize rs.map (enM n k a) = ER at *
  generalize rs.map (matD n k) = RS at *
  generalize enM n k a b = E at *
  generalize matD n k a = MA at *
  generalize matD n k b = MB at *
  cases X2 <;> simp [q1, q2, x1, x2, y1, y2, oR, oE, sm, nA, nB, p1, p2, p3, f1, f2, om, fm, no, hp, putB_t1]
theorem rD_ok {N n k r c : Nat} {w : D} {rs : List (List Nat)} {X2 X4 Y10 : Option D} (h4 : ∃ d, X4 = some d ∧ noOwn d = true) (h10 : ∃ d, Y10 = some d) (h2 : ∃ b : Bool, X2 = some (.bl b)) (hw : Wok (N + 1) w) (hv : HvOk n k rs) (hn : n ≤ 8) (hk : k ≤ 8) (hr : r < rs.length) (hc : c < rs.length) : ∃ w', Wok N w' ∧ bd (rD [some w, some (.int (n : Nat)), X2, some (.int (k : Nat)), X4, some (.lst true (enTab n k false rs)), some (.int (rs.length : Nat)), some (.lst true (enTab n k true rs)), some (.int (r : Nat)), some (.int (c : Nat)), Y10]) (finK [true, true, true]) = some (.bl true, [some w', some (.int (n : Nat)), X2]) := by
  obtain ⟨d4, rfl, o4⟩ := h4
  obtain ⟨d10, rfl⟩ := h10
  obtain ⟨bb, rfl⟩ := h2
  have hl := hv.len
  have hp := hv.pos
  obtain ⟨F, ch, lF⟩ := changed_ok (n := n) (k := k) (r := r) (c := c) (rs := rs) (by omega) (by omega) hr hc
  obtain ⟨v, w1, e1, a1, b1, k1⟩ := draw_ok (N := N) (lim := ((rs.length : Nat) : Int)) hw (by omega) (by
    have : (29 : Int) < 2 ^ 1000 := by decide
    omega)
  obtain ⟨t, rfl⟩ : ∃ j : Nat, v = (j : Int) := ⟨v.toNat, by omega⟩
  have ht : t < F.length := by omega
  have pp := popAtD_e (xs := F) (i := (t : Nat)) (d := F[t]) (by omega) (by omega) (by rw [Int.toNat_natCast]; exact List.getElem?_eq_getElem ht)
  rw [Int.toNat_natCast] at pp
  refine ⟨w1, k1, ?_⟩
  have ptb := plainB_tab n k rs (by omega) (by omega)
  have s1 := same_ok19 ptb (by omega)
  have pt := ptable_ok hv (by omega) (by omega)
  have o0 := hw.own
  have o1 := k1.own
  have p1 : fn_draw.pins = [true, true] := rfl
  have p2 : fn_p_pairing_table.pins = [true, true] := rfl
  have p3 : fn_same.pins = [true, true] := same_pins 20
  have p4 : fn_changed.pins = [true, true, true, true] := rfl
  have f1 := freezes_tab n k true rs
  have f2 := freezes_tab n k false rs
  have no : noOwns (enTab n k false rs) = true := by
    have := ptb.own
    simpa using this
  have fz := freeze_of o4
  unfold rD
  generalize F[t] = ft at *
  generalize enTab n k false rs = EF at *
  generalize enTab n k true rs = ET at *
  by_cases c6 : (n : Int) > 6
  · have c7 : 6 < n := by omega
    simp [ch, e1, pp, o0, o1, p1, p3, p4, f1, f2, no, fz, o4, c6, c7]
  · have c7 : ¬ 6 < n := by omega
    simp [ch, e1, pp, s1, pt, o0, o1, p1, p2, p3, p4, f1, f2, no, fz, o4, c6, c7]
end VS
set_option Elab.async false
set_option linter.all false
set_option maxRecDepth 100000
namespace VS
open PySem PySem.Spec PyProof.Rows L2 RZ
theorem right_ok {N n : Nat} {w : D} (hw : Wok (N + 4) w) (h0 : 1 ≤ n) (h8 : n ≤ 8) (b : Bool) : ∃ w', fn_right.sem [w, .int (n : Nat), .bl b] = some (.bl true, [some w', some (.int (n : Nat)), some (.bl b)]) ∧ Wok N w' := by
  obtain ⟨w1, k, rs, ha, k1, hv, hk⟩ := rA_ok (N := N + 3) hw h0 h8
  have om : noOwn (.lst false (rs.map (matD n k))) = true := by
    have := own_mats n k rs
    simpa using this
  obtain ⟨w2, r, c, hr, hc, k2, hb⟩ := rB_ok (N := N + 1) (X2 := some (.bl b)) (X4 := some (.lst false (rs.map (matD n k)))) ⟨_, rfl, om⟩ k1 hv h8
  obtain ⟨d10, hC⟩ := rC_ok (w := w2) (X2 := some (.bl b)) hv h8 hk hr hc rD
  obtain ⟨w3, k3, hD⟩ := rD_ok (X2 := some (.bl b)) (X4 := some (.lst false (rs.map (matD n k)))) (Y10 := some d10) ⟨_, rfl, om⟩ ⟨d10, rfl⟩ ⟨b, rfl⟩ k2 hv h8 hk hr hc
  refine ⟨w3, ?_, k3⟩
  unfold fn_right
  rw [bodyFn_sem, F_right_e]
  have e0 : (List.map some [w, D.int (n : Nat), D.bl b] ++ List.replicate (11 - 3) none) = [some w, some (.int (n : Nat)), some (.bl b), none, none, none, none, none, none, none, none] := rfl
  rw [e0, ha.a, hb, hC]
  exact hD
def bodyLw : FS := (seqF (asgF (opF addD [.t (litF (.int 1)), .t (opF ixD [.t (lstF [.t (callF fn_draw [.b 1, .t (litF (.int 6))]), .t (callF fn_draw [.b 1, .t (litF (.int 6))]), .t (callF fn_draw [.b 1, .t (opF ixD [.t (lstF [.t (litF (.int 8)), .t (litF (.int 6)), .t (litF (.int 6))]), .b 2])])]), .t (opF fdivD [.t (callF fn_draw [.b 1, .t (litF (.int 6))]), .t (litF (.int 2))])])]) (tgN 3)) <|
  ifF (notF (tstF (.t (callF fn_right [.b 1, .b 3, .t (opF (eqD) [.t (callF fn_draw [.b 1, .t (litF (.int 2))]), .t (litF (.int 1))])])))) (retF (litF (.bl false))) (passF))
theorem F_law_e : F_law = (seqF (asgF (callF fn_well [.b 0]) (tgN 1)) <| seqF (forF (itRg rng1D [.t (litF (.int 3))]) (tgN 2) bodyLw) <| retF (litF (.bl true))) := rfl
theorem law_turn {N t : Nat} {w : D} {S X2 X3 : Option D} (ht : t < 3) (hw : Wok (N + 9) w) : ∃ w' B3, turn (tgN 2) bodyLw (natD t) [S, some w, X2, X3] = some (.nx [S, some w', some (natD t), B3]) ∧ Wok N w' := by
  have big : (100 : Int) < 2 ^ 1000 := by decide
  obtain ⟨v1, w1, e1, a1, b1, k1⟩ := draw_ok (N := N + 8) (lim := 6) hw (by omega) (by omega)
  obtain ⟨v2, w2, e2, a2, b2, k2⟩ := draw_ok (N := N + 7) (lim := 6) k1 (by omega) (by omega)
  obtain ⟨L, hL, lx⟩ : ∃ L : Int, (L = 8 ∨ L = 6) ∧ ∀ ρ : List D, atI [D.int 8, .int 6, .int 6] (t : Int) = some (.int L) := by
    rcases (by omega : t = 0 ∨ t = 1 ∨ t = 2) with rfl | rfl | rfl
    · exact ⟨8, .inl rfl, fun _ => rfl⟩
    · exact ⟨6, .inr rfl, fun _ => rfl⟩
    · exact ⟨6, .inr rfl, fun _ => rfl⟩
  obtain ⟨v3, w3, e3, a3, b3, k3⟩ := draw_ok (N := N + 6) (lim := L) k2 (by omega) (by omega)
  obtain ⟨v4, w4, e4, a4, b4, k4⟩ := draw_ok (N := N + 5) (lim := 6) k3 (by omega) (by omega)
  obtain ⟨v5, w5, e5, a5, b5, k5⟩ := draw_ok (N := N + 4) (lim := 2) k4 (by omega) (by omega)
  obtain ⟨n, hn, h0, h8⟩ : ∃ n : Nat, (∃ z, atI [D.int v1, .int v2, .int v3] (v4.fdiv 2) = some (.int z) ∧ 1 + z = (n : Int)) ∧ 1 ≤ n ∧ n ≤ 8 := by
    have : v4.fdiv 2 = 0 ∨ v4.fdiv 2 = 1 ∨ v4.fdiv 2 = 2 := by
      rw [Int.fdiv_eq_ediv_of_nonneg _ (by omega)]; omega
    rcases this with h | h | h
    · rw [h]; exact ⟨(1 + v1).toNat, ⟨v1, rfl, by omega⟩, by omega, by omega⟩
    · rw [h]; exact ⟨(1 + v2).toNat, ⟨v2, rfl, by omega⟩, by omega, by omega⟩
    · rw [h]; exact ⟨(1 + v3).toNat, ⟨v3, rfl, by omega⟩, by omega, by omega⟩
  obtain ⟨z, hz, hzn⟩ := hn
  obtain ⟨w6, er, k6⟩ := right_ok (N := N) (n := n) k5 h0 h8 (decide (v5 = 1))
  refine ⟨w6, some (.int (n : Nat)), ?_, k6⟩
  have o0 := hw.own
  have o1 := k1.own
  have o2 := k2.own
  have o3 := k3.own
  have o4 := k4.own
  have o5 := k5.own
  have o6 := k6.own
  have p1 : fn_draw.pins = [true, true] := rfl
  have p2 : fn_right.pins = [true, true, true] := rfl
  have lx := lx []
  have fd : fdivOk 2 = true := fdivOk_s (by omega) (by omega) (by omega)
  rw [turn_e, natD_i]
  unfold bodyLw
  by_cases c : v5 = 1
  · rw [decide_eq_true c] at er
    cases S <;> simp [e1, e2, lx, e3, e4, e5, hz, hzn, c, er, o0, o1, o2, o3, o4, o5, o6, p1, p2, fd, small_le]
  · rw [decide_eq_false c] at er
    cases S <;> simp [e1, e2, lx, e3, e4, e5, hz, hzn, c, er, o0, o1, o2, o3, o4, o5, o6, p1, p2, fd, small_le]
theorem law_holds : ∀ ns : List Int, ns.length ≤ 63 → ∃ os, fn_law.sem [.scr ns] = some (.bl true, os) := by
  intro ns hns
  obtain ⟨w, e, kw⟩ := well_ok hns
  obtain ⟨w1, B1, t1, k1⟩ := law_turn (N := 1000 + 18) (t := 0) (S := some (.scr ns)) (X2 := none) (X3 := none) (by omega) (kw.le (by omega))
  obtain ⟨w2, B2, t2, k2⟩ := law_turn (N := 1000 + 9) (t := 1) (S := some (.scr ns)) (X2 := some (natD 0)) (X3 := B1) (by omega) k1
  obtain ⟨w3, B3, t3, k3⟩ := law_turn (N := 1000) (t := 2) (S := some (.scr ns)) (X2 := some (natD 1)) (X3 := B2) (by omega) k2
  have r1 : rng1D [.int 3] = some [natD 0, natD 1, natD 2] := rng1_nat (u := 3) (by omega)
  have p1 : fn_well.pins = [true] := rfl
  have o0 := kw.own
  refine ⟨[some (.scr ns)], ?_⟩
  unfold fn_law
  rw [bodyFn_sem, F_law_e]
  generalize natD 0 = d0 at *
  generalize natD 1 = d1 at *
  generalize natD 2 = d2 at *
  simp [e, r1, p1, o0, goFor_cons, t1, t2, t3]
end VS
set_option Elab.async false
set_option linter.all false
set_option maxRecDepth 100000
set_option maxHeartbeats 0
namespace VS
open PySem PySem.Spec PyProof.Rows L2 RZ
/-! what the top has written -/
structure Tx (K : PySem.W.Frag) (mg : Str → Option Value) where
  f_draw : Addr
  fd_draw : FuncData
  F_draw : Fun K "_law_draw" "_law_draw" s_draw f_draw fd_draw
  b_draw : Binds K fd_draw ["_law_well_here", "_law_limit"] []
  g_draw : mg "_law_draw" = some (.ref f_draw)
  f_same : Addr
  fd_same : FuncData
  F_same : Fun K "_law_same" "_law_same" s_same f_same fd_same
  b_same : Binds K fd_same ["_law_found", "_law_due"] []
  g_same : mg "_law_same" = some (.ref f_same)
  f_changed : Addr
  fd_changed : FuncData
  F_changed : Fun K "_law_changed" "_law_changed" s_changed f_changed fd_changed
  b_changed : Binds K fd_changed ["_law_found", "_law_due", "_law_row", "_law_column"] []
  g_changed : mg "_law_changed" = some (.ref f_changed)
  f_half : Addr
  fd_half : FuncData
  F_half : Fun K "_law_half" "_law_half" s_half f_half fd_half
  b_half : Binds K fd_half ["_law_signs_here"] []
  g_half : mg "_law_half" = some (.ref f_half)
  f_signs : Addr
  fd_signs : FuncData
  F_signs : Fun K "_law_signs" "_law_signs" s_signs f_signs fd_signs
  b_signs : Binds K fd_signs ["_law_many", "_law_goal"] []
  g_signs : mg "_law_signs" = some (.ref f_signs)
  f_halves : Addr
  fd_halves : FuncData
  F_halves : Fun K "_law_halves" "_law_halves" s_halves f_halves fd_halves
  b_halves : Binds K fd_halves ["_law_n", "_law_k"] []
  g_halves : mg "_law_halves" = some (.ref f_halves)
  f_flip : Addr
  fd_flip : FuncData
  F_flip : Fun K "_law_flip" "_law_flip" s_flip f_flip fd_flip
  b_flip : Binds K fd_flip ["_law_mesh"] []
  g_flip : mg "_law_flip" = some (.ref f_flip)
  f_put : Addr
  fd_put : FuncData
  F_put : Fun K "_law_put" "_law_put" s_put f_put fd_put
  b_put : Binds K fd_put ["_law_one", "_law_other"] []
  g_put : mg "_law_put" = some (.ref f_put)
  f_paired : Addr
  fd_paired : FuncData
  F_paired : Fun K "_law_paired" "_law_paired" s_paired f_paired fd_paired
  b_paired : Binds K fd_paired ["_law_one", "_law_other"] []
  g_paired : mg "_law_paired" = some (.ref f_paired)
  f_table_of : Addr
  fd_table_of : FuncData
  F_table_of : Fun K "_law_table_of" "_law_table_of" s_table_of f_table_of fd_table_of
  b_table_of : Binds K fd_table_of ["_law_halves_here"] []
  g_table_of : mg "_law_table_of" = some (.ref f_table_of)
  f_p_check_size : Addr
  fd_p_check_size : FuncData
  F_p_check_size : Fun K "check_size" "check_size" s_p_check_size f_p_check_size fd_p_check_size
  b_p_check_size : Binds K fd_p_check_size ["n"] []
  g_p_check_size : mg "check_size" = some (.ref f_p_check_size)
  f_p_check_halves : Addr
  fd_p_check_halves : FuncData
  F_p_check_halves : Fun K "check_halves" "check_halves" s_p_check_halves f_p_check_halves fd_p_check_halves
  b_p_check_halves : Binds K fd_p_check_halves ["n", "k"] []
  g_p_check_halves : mg "check_halves" = some (.ref f_p_check_halves)
  f_p_half_of_signs : Addr
  fd_p_half_of_signs : FuncData
  F_p_half_of_signs : Fun K "half_of_signs" "half_of_signs" s_p_half_of_signs f_p_half_of_signs fd_p_half_of_signs
  b_p_half_of_signs : Binds K fd_p_half_of_signs ["row"] []
  g_p_half_of_signs : mg "half_of_signs" = some (.ref f_p_half_of_signs)
  f_p_rows_of_signs : Addr
  fd_p_rows_of_signs : FuncData
  F_p_rows_of_signs : Fun K "rows_of_signs" "rows_of_signs" s_p_rows_of_signs f_p_rows_of_signs fd_p_rows_of_signs
  b_p_rows_of_signs : Binds K fd_p_rows_of_signs ["n", "k"] []
  g_p_rows_of_signs : mg "rows_of_signs" = some (.ref f_p_rows_of_signs)
  f_p_half_mats : Addr
  fd_p_half_mats : FuncData
  F_p_half_mats : Fun K "half_mats" "half_mats" s_p_half_mats f_p_half_mats fd_p_half_mats
  b_p_half_mats : Binds K fd_p_half_mats ["n", "k"] []
  g_p_half_mats : mg "half_mats" = some (.ref f_p_half_mats)
  f_p_how_many_halves : Addr
  fd_p_how_many_halves : FuncData
  F_p_how_many_halves : Fun K "how_many_halves" "how_many_halves" s_p_how_many_halves f_p_how_many_halves fd_p_how_many_halves
  b_p_how_many_halves : Binds K fd_p_how_many_halves ["n", "k"] []
  g_p_how_many_halves : mg "how_many_halves" = some (.ref f_p_how_many_halves)
  f_p_round_of : Addr
  fd_p_round_of : FuncData
  F_p_round_of : Fun K "round_of" "round_of" s_p_round_of f_p_round_of fd_p_round_of
  b_p_round_of : Binds K fd_p_round_of ["n", "m"] []
  g_p_round_of : mg "round_of" = some (.ref f_p_round_of)
  f_p_is_mat : Addr
  fd_p_is_mat : FuncData
  F_p_is_mat : Fun K "is_mat" "is_mat" s_p_is_mat f_p_is_mat fd_p_is_mat
  b_p_is_mat : Binds K fd_p_is_mat ["told"] []
  g_p_is_mat : mg "is_mat" = some (.ref f_p_is_mat)
  f_p_checked_mat : Addr
  fd_p_checked_mat : FuncData
  F_p_checked_mat : Fun K "checked_mat" "checked_mat" s_p_checked_mat f_p_checked_mat fd_p_checked_mat
  b_p_checked_mat : Binds K fd_p_checked_mat ["mat"] []
  g_p_checked_mat : mg "checked_mat" = some (.ref f_p_checked_mat)
  f_p_through : Addr
  fd_p_through : FuncData
  F_p_through : Fun K "through" "through" s_p_through f_p_through fd_p_through
  b_p_through : Binds K fd_p_through ["mat"] []
  g_p_through : mg "through" = some (.ref f_p_through)
  f_p_check_half : Addr
  fd_p_check_half : FuncData
  F_p_check_half : Fun K "check_half" "check_half" s_p_check_half f_p_check_half fd_p_check_half
  b_p_check_half : Binds K fd_p_check_half ["mat"] []
  g_p_check_half : mg "check_half" = some (.ref f_p_check_half)
  f_p_check_pair : Addr
  fd_p_check_pair : FuncData
  F_p_check_pair : Fun K "check_pair" "check_pair" s_p_check_pair f_p_check_pair fd_p_check_pair
  b_p_check_pair : Binds K fd_p_check_pair ["above", "below"] []
  g_p_check_pair : mg "check_pair" = some (.ref f_p_check_pair)
  f_p_far_end : Addr
  fd_p_far_end : FuncData
  F_p_far_end : Fun K "far_end" "far_end" s_p_far_end f_p_far_end fd_p_far_end
  b_p_far_end : Binds K fd_p_far_end ["one", "other", "peg", "passed"] []
  g_p_far_end : mg "far_end" = some (.ref f_p_far_end)
  f_p_loose_rings : Addr
  fd_p_loose_rings : FuncData
  F_p_loose_rings : Fun K "loose_rings" "loose_rings" s_p_loose_rings f_p_loose_rings fd_p_loose_rings
  b_p_loose_rings : Binds K fd_p_loose_rings ["one", "other", "passed"] []
  g_p_loose_rings : mg "loose_rings" = some (.ref f_p_loose_rings)
  f_p_put_behind : Addr
  fd_p_put_behind : FuncData
  F_p_put_behind : Fun K "put_behind" "put_behind" s_p_put_behind f_p_put_behind fd_p_put_behind
  b_p_put_behind : Binds K fd_p_put_behind ["one", "other"] []
  g_p_put_behind : mg "put_behind" = some (.ref f_p_put_behind)
  f_p_paired : Addr
  fd_p_paired : FuncData
  F_p_paired : Fun K "paired" "paired" s_p_paired f_p_paired fd_p_paired
  b_p_paired : Binds K fd_p_paired ["ahead", "other"] []
  g_p_paired : mg "paired" = some (.ref f_p_paired)
  f_p_remade : Addr
  fd_p_remade : FuncData
  F_p_remade : Fun K "remade" "remade" s_p_remade f_p_remade fd_p_remade
  b_p_remade : Binds K fd_p_remade ["n", "m", "mates", "place"] []
  g_p_remade : mg "remade" = some (.ref f_p_remade)
  f_p_upside_down : Addr
  fd_p_upside_down : FuncData
  F_p_upside_down : Fun K "upside_down" "upside_down" s_p_upside_down f_p_upside_down fd_p_upside_down
  b_p_upside_down : Binds K fd_p_upside_down ["mat"] []
  g_p_upside_down : mg "upside_down" = some (.ref f_p_upside_down)
  f_p_pairing : Addr
  fd_p_pairing : FuncData
  F_p_pairing : Fun K "pairing" "pairing" s_p_pairing f_p_pairing fd_p_pairing
  b_p_pairing : Binds K fd_p_pairing ["one", "other"] []
  g_p_pairing : mg "pairing" = some (.ref f_p_pairing)
  f_p_pairing_table : Addr
  fd_p_pairing_table : FuncData
  F_p_pairing_table : Fun K "pairing_table" "pairing_table" s_p_pairing_table f_p_pairing_table fd_p_pairing_table
  b_p_pairing_table : Binds K fd_p_pairing_table ["n", "k"] []
  g_p_pairing_table : mg "pairing_table" = some (.ref f_p_pairing_table)
  f_right : Addr
  fd_right : FuncData
  F_right : Fun K "_law_right" "_law_right" s_right f_right fd_right
  b_right : Binds K fd_right ["_law_well_here", "_law_n", "_law_named"] []
  g_right : mg "_law_right" = some (.ref f_right)
  f_well : Addr
  fd_well : FuncData
  F_well : Fun K "_law_well" "_law_well" s_well f_well fd_well
  b_well : Binds K fd_well ["_law_script"] []
  g_well : mg "_law_well" = some (.ref f_well)
  f_law : Addr
  fd_law : FuncData
  F_law : Fun K "law" "law" s_law f_law fd_law
  b_law : Binds K fd_law ["_law_script"] []
  g_law : mg "law" = some (.ref f_law)
  kb0_p_pairing_table : KB K fd_p_pairing_table ["n", "k"] 0 ["k", "n"] [1, 0]
  kb1_p_half_mats : KB K fd_p_half_mats ["n", "k"] 0 ["n", "k"] [0, 1]
  z_abs : mg "abs" = none
  z_all : mg "all" = none
  z_enumerate : mg "enumerate" = none
  z_int : mg "int" = none
  z_isinstance : mg "isinstance" = none
  z_len : mg "len" = none
  z_list : mg "list" = none
  z_range : mg "range" = none
  z_sorted : mg "sorted" = none
  z_str : mg "str" = none
  z_tuple : mg "tuple" = none
  gm_comb : mg "comb" = some (.builtin "math.comb")
section
variable {P : Program} {w : World} {K : PySem.W.Frag} {mg : Str → Option Value} {base : Heap}
theorem ok_draw (T : Tx K mg) : FnOk P w K mg base CX0 1 T.f_draw T.fd_draw ["_law_well_here", "_law_limit"] (spOf K fn_draw) := by
  unfold fn_draw
  refine fn_ok (k := 0) (x := "_law_draw") (qual := "_law_draw") (st := s_draw) (N := ["_law_well_here", "_law_limit", "_law_found", "_law_mixed"]) (ps := ["_law_well_here", "_law_limit"]) (pins := [true, true]) (fb := F_draw) T.F_draw sc_draw rfl (by decide) ?_
  intro cdv A outer s H E hr
  unfold F_draw
  exact psf_cons (f := ifF (andF (bT (opF (eqD) [.t (opF ixD [.b 0, .t (litF (.int 1))]), .t (litF (.int 0))])) (bT (neElF 0 0))) (asgF (popElF 0 0) (tgSub 0 (.t (litF (.int 1))))) (passF)) (psf_if (fc := andF (bT (opF (eqD) [.t (opF ixD [.b 0, .t (litF (.int 1))]), .t (litF (.int 0))])) (bT (neElF 0 0))) ((pwf_and (pt_cmpf (op_eqD hr.units) vok_eq (po_t (pf_ix ix_seq vok_ix (po_b (pv 0)) (po_t (pf_int)) (fun _ _ => rfl))) (po_t (pf_int)) (nomark _)) (pwf_and1 (pt_neEl (i := 0) (j := 0) hr.units (pe_ix ix_seq (pv 0) pe_int (fun _ _ => rfl))))).pt) (psf_one (psf_asg (f := popElF 0 0) (g := tgSub 0 (.t (litF (.int 1)))) (pf_popEl (i := 0) (j := 0) (pe_ix ix_seq (pv 0) pe_int (fun _ _ => rfl))) (pgf_sub (k := 0) (oi := .t (litF (.int 1))) (pv 0) (po_t (pf_int))))) (psf_nil))
      (psf_cons (f := ifF (bT (opF (gtD) [.t (opF ixD [.b 0, .t (litF (.int 1))]), .t (litF (.int 0))])) (seqF (asgF (opF modD [.t (opF intD [.t (opF ixD [.b 0, .t (litF (.int 1))])]), .b 1]) (tgN 2)) <|
      seqF (asgF (opF fdivD [.t (opF ixD [.b 0, .t (litF (.int 1))]), .b 1]) (tgSub 0 (.t (litF (.int 1))))) <|
      retF (movF 2)) (passF)) (psf_if (fc := bT (opF (gtD) [.t (opF ixD [.b 0, .t (litF (.int 1))]), .t (litF (.int 0))])) (pt_cmpf op_gt vok_gt (po_t (pf_ix ix_seq vok_ix (po_b (pv 0)) (po_t (pf_int)) (fun _ _ => rfl))) (po_t (pf_int)) (nomark _)) (psf_cons (f := asgF (opF modD [.t (opF intD [.t (opF ixD [.b 0, .t (litF (.int 1))])]), .b 1]) (tgN 2)) (psf_set (i := 2) sc_draw.nd rfl (by first | exact .inl rfl | exact .inr rfl) (by decide) (pf_bin op_modN vok_mod (po_t (pf_callTy call_int1 vok_int (by rfl) T.z_int boot_int (paf_cons (o := .t (opF ixD [.b 0, .t (litF (.int 1))])) (po_t (pf_ix ix_seq vok_ix (po_b (pv 0)) (po_t (pf_int)) (fun _ _ => rfl))) paf_nil))) (po_b (pv 1))))
      (psf_cons (f := asgF (opF fdivD [.t (opF ixD [.b 0, .t (litF (.int 1))]), .b 1]) (tgSub 0 (.t (litF (.int 1))))) (psf_asg (f := opF fdivD [.t (opF ixD [.b 0, .t (litF (.int 1))]), .b 1]) (g := tgSub 0 (.t (litF (.int 1)))) (pf_bin op_fdivA vok_fdiv (po_t (pf_ix ix_seq vok_ix (po_b (pv 0)) (po_t (pf_int)) (fun _ _ => rfl))) (po_b (pv 1))) (pgf_sub (k := 0) (oi := .t (litF (.int 1))) (pv 0) (po_t (pf_int))))
      (psf_one (psf_ret (pf_mov (pv 2)))))) (psf_nil))
      (psf_cons (f := asgF (opF addD [.t (opF ixD [.b 0, .t (litF (.int 3))]), .t (litF (.int 1))]) (tgSub 0 (.t (litF (.int 3))))) (psf_asg (f := opF addD [.t (opF ixD [.b 0, .t (litF (.int 3))]), .t (litF (.int 1))]) (g := tgSub 0 (.t (litF (.int 3)))) (pf_bin op_addA vok_add (po_t (pf_ix ix_seq vok_ix (po_b (pv 0)) (po_t (pf_int)) (fun _ _ => rfl))) (po_t (pf_int))) (pgf_sub (k := 0) (oi := .t (litF (.int 3))) (pv 0) (po_t (pf_int))))
      (psf_cons (f := asgF (opF modD [.t (opF intD [.t (opF powD [.t (opF addD [.t (opF addD [.t (opF ixD [.b 0, .t (litF (.int 2))]), .t (opF mulD [.t (opF mulD [.t (litF (.int 104729)), .t (opF ixD [.b 0, .t (litF (.int 3))])]), .t (opF ixD [.b 0, .t (litF (.int 3))])])]), .t (opF ixD [.b 0, .t (litF (.int 3))])]), .t (litF (.int 2))])]), .t (litF (.int 162259276829213363391578010288127))]) (tgN 3)) (psf_set (i := 3) sc_draw.nd rfl (by first | exact .inl rfl | exact .inr rfl) (by decide) (pf_bin op_modN vok_mod (po_t (pf_callTy call_int1 vok_int (by rfl) T.z_int boot_int (paf_cons (o := .t (opF powD [.t (opF addD [.t (opF addD [.t (opF ixD [.b 0, .t (litF (.int 2))]), .t (opF mulD [.t (opF mulD [.t (litF (.int 104729)), .t (opF ixD [.b 0, .t (litF (.int 3))])]), .t (opF ixD [.b 0, .t (litF (.int 3))])])]), .t (opF ixD [.b 0, .t (litF (.int 3))])]), .t (litF (.int 2))])) (po_t (pf_bin op_powA vok_pow (po_t (pf_bin op_addA vok_add (po_t (pf_bin op_addA vok_add (po_t (pf_ix ix_seq vok_ix (po_b (pv 0)) (po_t (pf_int)) (fun _ _ => rfl))) (po_t (pf_bin op_mulA vok_mul (po_t (pf_bin op_mulA vok_mul (po_t (pf_int)) (po_t (pf_ix ix_seq vok_ix (po_b (pv 0)) (po_t (pf_int)) (fun _ _ => rfl))))) (po_t (pf_ix ix_seq vok_ix (po_b (pv 0)) (po_t (pf_int)) (fun _ _ => rfl))))))) (po_t (pf_ix ix_seq vok_ix (po_b (pv 0)) (po_t (pf_int)) (fun _ _ => rfl))))) (po_t (pf_int)))) paf_nil))) (po_t (pf_int))))
      (psf_one (psf_ret (pf_bin op_modN vok_mod (po_t (pf_bin op_fdivA vok_fdiv (po_t (pf_bin op_modN vok_mod (po_t (pf_callTy call_int1 vok_int (by rfl) T.z_int boot_int (paf_cons (o := .t (opF mulD [.b 3, .t (opF addD [.b 3, .t (litF (.int 59))])])) (po_t (pf_bin op_mulA vok_mul (po_b (pv 3)) (po_t (pf_bin op_addA vok_add (po_b (pv 3)) (po_t (pf_int)))))) paf_nil))) (po_t (pf_int)))) (po_t (pf_int)))) (po_b (pv 1))))))))
theorem ok_same_at (T : Tx K mg) : ∀ n : Nat, FnOk P w K mg base CX0 (n + 1) T.f_same T.fd_same ["_law_found", "_law_due"] (spOf K (fn_same_at n))
  | 0 => (stuck_ok (k := 0) T.F_same sc_same).mono (by omega)
  | n + 1 => by
    have IH := ok_same_at T n
    refine FnOk.mono (k := n + 1 + 1) (fn_ok (k := n + 1) (x := "_law_same") (qual := "_law_same") (st := s_same) (N := ["_law_found", "_law_due", "_law_k"]) (ps := ["_law_found", "_law_due"]) (pins := [true, true]) (fb := F_same (fn_same_at n)) T.F_same sc_same rfl (by decide) ?_) (by omega)
    intro cdv A outer s H E hr
    unfold F_same
    exact psf_cons (f := ifF (tstF (.t (opF (isiTD ["tuple", "list"]) [.b 1]))) (seqF (ifF (orF (bT (opF (neD) [.t (opF (isiD "tuple") [.b 0]), .t (opF (isiD "tuple") [.b 1])])) (bT (opF (neD) [.t (opF (isiD "list") [.b 0]), .t (opF (isiD "list") [.b 1])]))) (retF (litF (.bl false))) (passF)) <|
      seqF (ifF (bT (opF (neD) [.t (opF lenD [.b 0]), .t (opF lenD [.b 1])])) (retF (litF (.bl false))) (passF)) <|
      retF (opF allD [.t (lcF [2] (itRg rng1D [.t (opF lenD [.b 1])]) (tgN 2) (yesF) (callF (fn_same_at n) [.t (opF ixD [.b 0, .b 2]), .t (opF ixD [.b 1, .b 2])]))])) (passF)) (psf_if (fc := tstF (.t (opF (isiTD ["tuple", "list"]) [.b 1]))) (pt_tst (o := .t (opF (isiTD ["tuple", "list"]) [.b 1])) (po_t (pf_isiT2 (o := .b 1) (by rfl) T.z_isinstance (po_b (pv 1)) (pe_tyn (by rfl) T.z_tuple boot_tuple) (pe_tyn (by rfl) T.z_list boot_list)))) (psf_cons (f := ifF (orF (bT (opF (neD) [.t (opF (isiD "tuple") [.b 0]), .t (opF (isiD "tuple") [.b 1])])) (bT (opF (neD) [.t (opF (isiD "list") [.b 0]), .t (opF (isiD "list") [.b 1])]))) (retF (litF (.bl false))) (passF)) (psf_if (fc := orF (bT (opF (neD) [.t (opF (isiD "tuple") [.b 0]), .t (opF (isiD "tuple") [.b 1])])) (bT (opF (neD) [.t (opF (isiD "list") [.b 0]), .t (opF (isiD "list") [.b 1])]))) ((pwf_or (pt_cmpf (op_neD hr.units) vok_ne (po_t (pf_isi (o := .b 0) (by rfl) T.z_isinstance (po_b (pv 0)) (pe_tyn (by rfl) T.z_tuple boot_tuple))) (po_t (pf_isi (o := .b 1) (by rfl) T.z_isinstance (po_b (pv 1)) (pe_tyn (by rfl) T.z_tuple boot_tuple))) (nomark _)) (pwf_or1 (pt_cmpf (op_neD hr.units) vok_ne (po_t (pf_isi (o := .b 0) (by rfl) T.z_isinstance (po_b (pv 0)) (pe_tyn (by rfl) T.z_list boot_list))) (po_t (pf_isi (o := .b 1) (by rfl) T.z_isinstance (po_b (pv 1)) (pe_tyn (by rfl) T.z_list boot_list))) (nomark _)))).pt) (psf_one (psf_ret (pf_bl))) (psf_nil))
      (psf_cons (f := ifF (bT (opF (neD) [.t (opF lenD [.b 0]), .t (opF lenD [.b 1])])) (retF (litF (.bl false))) (passF)) (psf_if (fc := bT (opF (neD) [.t (opF lenD [.b 0]), .t (opF lenD [.b 1])])) (pt_cmpf (op_neD hr.units) vok_ne (po_t (pf_callB call_len_seq vok_len (by rfl) T.z_len PySem.boot_len (paf_cons (o := .b 0) (po_b (pv 0)) paf_nil))) (po_t (pf_callB call_len_seq vok_len (by rfl) T.z_len PySem.boot_len (paf_cons (o := .b 1) (po_b (pv 1)) paf_nil))) (nomark _)) (psf_one (psf_ret (pf_bl))) (psf_nil))
      (psf_one (psf_ret (pf_callB (cr_all rfl) vok_all (by rfl) T.z_all (by decide +kernel) (paf_cons (o := .t (lcF [2] (itRg rng1D [.t (opF lenD [.b 1])]) (tgN 2) (yesF) (callF (fn_same_at n) [.t (opF ixD [.b 0, .b 2]), .t (opF ixD [.b 1, .b 2])]))) (po_t (pf_lc (own := [("_law_k", 2)]) (fi := itRg rng1D [.t (opF lenD [.b 1])]) (fg := tgN 2) (ft := yesF) (fe := callF (fn_same_at n) [.t (opF ixD [.b 0, .b 2]), .t (opF ixD [.b 1, .b 2])]) rfl sc_same.nd (pif_rng1 (by rfl) T.z_range (paf_cons (o := .t (opF lenD [.b 1])) (po_t (pf_callB call_len_seq vok_len (by rfl) T.z_len PySem.boot_len (paf_cons (o := .b 1) (po_b (pv 1)) paf_nil))) paf_nil)) (blkOk_by (own := [("_law_k", 2)]) (by rfl)) (fun _ _ _ _ _ => pgf_name (i := 2) sc_same.nd rfl (by first | exact .inl rfl | exact .inr rfl) (by decide)) (fun _ _ _ _ _ => ptsf_nil) (fun _ _ _ _ _ => pf_call (IH) hr (by rfl) T.g_same T.F_same.kp T.b_same (paf_cons (o := .t (opF ixD [.b 0, .b 2])) (po_t (pf_ix ix_seq vok_ix (po_b (pv 0)) (po_b (pv 2)) (fun _ _ => rfl))) (paf_cons (o := .t (opF ixD [.b 1, .b 2])) (po_t (pf_ix ix_seq vok_ix (po_b (pv 1)) (po_b (pv 2)) (fun _ _ => rfl))) paf_nil))))) paf_nil)))))) (psf_nil))
      (psf_cons (f := ifF (orF (bT (opF (isNonD) [.b 1, .t (litF .non)])) (orF (bT (opF (isBvD) [.b 1, .t (litF (.bl true))])) (bT (opF (isBvD) [.b 1, .t (litF (.bl false))])))) (retF (orV (andV (opF (isNonD) [.b 1, .t (litF .non)]) (opF (isNonD) [.b 0, .t (litF .non)])) (orV (andV (opF (isBvD) [.b 1, .t (litF (.bl true))]) (opF (isBvD) [.b 0, .t (litF (.bl true))])) (andV (opF (isBvD) [.b 1, .t (litF (.bl false))]) (opF (isBvD) [.b 0, .t (litF (.bl false))]))))) (passF)) (psf_if (fc := orF (bT (opF (isNonD) [.b 1, .t (litF .non)])) (orF (bT (opF (isBvD) [.b 1, .t (litF (.bl true))])) (bT (opF (isBvD) [.b 1, .t (litF (.bl false))])))) ((pwf_or (pt_cmpf op_isN vok_isNon (po_b (pv 1)) (po_t (pf_non)) (nomark _)) (pwf_or (pt_cmpf op_isBv vok_isBv (po_b (pv 1)) (po_t (pf_bl)) (nomark _)) (pwf_or1 (pt_cmpf op_isBv vok_isBv (po_b (pv 1)) (po_t (pf_bl)) (nomark _))))).pt) (psf_one (psf_ret (pf_or (pf_and (pf_cmp op_isN vok_isNon (po_b (pv 1)) (po_t (pf_non)) (nomark _)) (pf_one (pf_cmp op_isN vok_isNon (po_b (pv 0)) (po_t (pf_non)) (nomark _)))) (pf_or (pf_and (pf_cmp op_isBv vok_isBv (po_b (pv 1)) (po_t (pf_bl)) (nomark _)) (pf_one (pf_cmp op_isBv vok_isBv (po_b (pv 0)) (po_t (pf_bl)) (nomark _)))) (pf_one (pf_and (pf_cmp op_isBv vok_isBv (po_b (pv 1)) (po_t (pf_bl)) (nomark _)) (pf_one (pf_cmp op_isBv vok_isBv (po_b (pv 0)) (po_t (pf_bl)) (nomark _))))))))) (psf_nil))
      (psf_cons (f := ifF (tstF (.t (opF (isiD "str") [.b 1]))) (retF (andV (opF (isiD "str") [.b 0]) (opF (eqD) [.b 0, .b 1]))) (passF)) (psf_if (fc := tstF (.t (opF (isiD "str") [.b 1]))) (pt_tst (o := .t (opF (isiD "str") [.b 1])) (po_t (pf_isi (o := .b 1) (by rfl) T.z_isinstance (po_b (pv 1)) (pe_tyn (by rfl) T.z_str boot_str)))) (psf_one (psf_ret (pf_and (pf_isi (o := .b 0) (by rfl) T.z_isinstance (po_b (pv 0)) (pe_tyn (by rfl) T.z_str boot_str)) (pf_one (pf_cmp (op_eqD hr.units) vok_eq (po_b (pv 0)) (po_b (pv 1)) (nomark _)))))) (psf_nil))
      (psf_one (psf_ret (pf_and (pf_isi (o := .b 0) (by rfl) T.z_isinstance (po_b (pv 0)) (pe_tyn (by rfl) T.z_int boot_int)) (pf_and (pf_cmp op_notBv vok_notBv (po_b (pv 0)) (po_t (pf_bl)) (nomark _)) (pf_and (pf_cmp op_notBv vok_notBv (po_b (pv 0)) (po_t (pf_bl)) (nomark _)) (pf_one (pf_cmp (op_eqD hr.units) vok_eq (po_b (pv 0)) (po_b (pv 1)) (nomark _))))))))))
theorem ok_same (T : Tx K mg) : FnOk P w K mg base CX0 21 T.f_same T.fd_same ["_law_found", "_law_due"] (spOf K fn_same) := (ok_same_at T 20).mono (by decide)
theorem ok_changed (T : Tx K mg) : FnOk P w K mg base CX0 22 T.f_changed T.fd_changed ["_law_found", "_law_due", "_law_row", "_law_column"] (spOf K fn_changed) := by
  unfold fn_changed
  refine fn_ok (k := 21) (x := "_law_changed") (qual := "_law_changed") (st := s_changed) (N := ["_law_found", "_law_due", "_law_row", "_law_column", "_law_k"]) (ps := ["_law_found", "_law_due", "_law_row", "_law_column"]) (pins := [true, true, true, true]) (fb := F_changed) T.F_changed sc_changed rfl (by decide) ?_
  intro cdv A outer s H E hr
  unfold F_changed
  exact psf_cons (f := asgF (litF .non) (tgElVF 0 (varF 2) (varF 3))) (psf_asg (f := litF .non) (g := tgElVF 0 (varF 2) (varF 3)) (pf_non) (pgf_elV (pv 0) (pf_var (pv 2)) (pf_var (pv 3)) (fun _ _ => rfl)))
      (psf_cons (f := dropF (mutElF 0 (varF 2) appD (tupF []))) (psf_expr (pf_appEl (pv 0) (pf_var (pv 2)) (pf_tup paf_nil) (fun _ _ => rfl)))
      (psf_cons (f := forF (itRg rng1D [.t (opF lenD [.b 1])]) (tgN 4) (ifF (lendB (andF (bT (opF (neD) [.b 4, .b 2])) (notF (tstF (.t (callF fn_same [.t (opF ixD [.b 0, .b 4]), .t (opF ixD [.b 1, .b 4])])))))) (retF (lendF (litF (.bl false)))) (passF))) (psf_for (fi := itRg rng1D [.t (opF lenD [.b 1])]) (g := tgN 4) PassesOwn.never rfl (pif_rng1 (by rfl) T.z_range (paf_cons (o := .t (opF lenD [.b 1])) (po_t (pf_callB call_len_seq vok_len (by rfl) T.z_len PySem.boot_len (paf_cons (o := .b 1) (po_b (pv 1)) paf_nil))) paf_nil)) (pgf_name (i := 4) sc_changed.nd rfl (by first | exact .inl rfl | exact .inr rfl) (by decide)) (psf_one (psf_if (fc := lendB (andF (bT (opF (neD) [.b 4, .b 2])) (notF (tstF (.t (callF fn_same [.t (opF ixD [.b 0, .b 4]), .t (opF ixD [.b 1, .b 4])])))))) (pt_lend ((pwf_and (pt_cmpf (op_neD hr.units) vok_ne (po_b (pv 4)) (po_b (pv 2)) (nomark _)) (pwf_and1 (ptf_not (pt_tst (o := .t (callF fn_same [.t (opF ixD [.b 0, .b 4]), .t (opF ixD [.b 1, .b 4])])) (po_t (pf_call (ok_same T) (hr.mono (by decide)) (by rfl) T.g_same T.F_same.kp T.b_same (paf_cons (o := .t (opF ixD [.b 0, .b 4])) (po_t (pf_ix ix_seq vok_ix (po_b (pv 0)) (po_b (pv 4)) (fun _ _ => rfl))) (paf_cons (o := .t (opF ixD [.b 1, .b 4])) (po_t (pf_ix ix_seq vok_ix (po_b (pv 1)) (po_b (pv 4)) (fun _ _ => rfl))) paf_nil)))))))).pt)) (psf_one (psf_ret (pf_lend (pf_bl)))) (psf_nil))))
      (psf_one (psf_ret (pf_lend (pf_bl))))))
theorem ok_half (T : Tx K mg) : FnOk P w K mg base CX0 1 T.f_half T.fd_half ["_law_signs_here"] (spOf K fn_half) := by
  unfold fn_half
  refine fn_ok (k := 0) (x := "_law_half") (qual := "_law_half") (st := s_half) (N := ["_law_signs_here", "_law_n", "_law_begun", "_law_mates", "_law_peg", "_law_mate", "_law_below"]) (ps := ["_law_signs_here"]) (pins := [true]) (fb := F_half) T.F_half sc_half rfl (by decide) ?_
  intro cdv A outer s H E hr
  unfold F_half
  exact psf_cons (f := parF [1, 2, 3] [.t (opF lenD [.b 0]), .t (lstF []), .t (opF mulD [.t (lstF [.t (litF (.int 0))]), .t (opF lenD [.b 0])])]) (psf_par3 (i := 1) (j := 2) (l := 3) rfl sc_half.nd rfl rfl rfl  (by decide) (by decide) (by decide)  (by decide) rfl rfl rfl  (paf_cons (o := .t (opF lenD [.b 0])) (po_t (pf_callB call_len_seq vok_len (by rfl) T.z_len PySem.boot_len (paf_cons (o := .b 0) (po_b (pv 0)) paf_nil))) (paf_cons (o := .t (lstF [])) (po_t (pf_lst paf_nil)) (paf_cons (o := .t (opF mulD [.t (lstF [.t (litF (.int 0))]), .t (opF lenD [.b 0])])) (po_t (pf_bin op_mulA vok_mul (po_t (pf_lst (paf_cons (o := .t (litF (.int 0))) (po_t (pf_int)) paf_nil))) (po_t (pf_callB call_len_seq vok_len (by rfl) T.z_len PySem.boot_len (paf_cons (o := .b 0) (po_b (pv 0)) paf_nil))))) paf_nil))) rfl)
      (psf_cons (f := forF (itRg rng1D [.b 1]) (tgN 4) (ifF (bT (opF (eqD) [.t (opF ixD [.b 0, .b 4]), .t (litF (.int 1))])) (dropF (mutF 2 appD [.t (varF 4)])) (seqF (asgF (mutF 2 popD []) (tgN 5)) <|
      asgF (tupF [.t (varF 5), .t (varF 4)]) (tgT 2 (tgCons (tgSub 3 (.b 4)) (tgCons (tgSub 3 (.b 5)) (tgNil))))))) (psf_for (fi := itRg rng1D [.b 1]) (g := tgN 4) PassesOwn.never rfl (pif_rng1 (by rfl) T.z_range (paf_cons (o := .b 1) (po_b (pv 1)) paf_nil)) (pgf_name (i := 4) sc_half.nd rfl (by first | exact .inl rfl | exact .inr rfl) (by decide)) (psf_one (psf_if (fc := bT (opF (eqD) [.t (opF ixD [.b 0, .b 4]), .t (litF (.int 1))])) (pt_cmpf (op_eqD hr.units) vok_eq (po_t (pf_ix ix_seq vok_ix (po_b (pv 0)) (po_b (pv 4)) (fun _ _ => rfl))) (po_t (pf_int)) (nomark _)) (psf_one (psf_expr (pf_append (i := 2) (pv 2) (paf_cons (o := .t (varF 4)) (po_t (pf_var (pv 4))) paf_nil)))) (psf_cons (f := asgF (mutF 2 popD []) (tgN 5)) (psf_set (i := 5) sc_half.nd rfl (by first | exact .inl rfl | exact .inr rfl) (by decide) (pf_pop (i := 2) (pv 2)))
      (psf_one (psf_asg (f := tupF [.t (varF 5), .t (varF 4)]) (g := tgT 2 (tgCons (tgSub 3 (.b 4)) (tgCons (tgSub 3 (.b 5)) (tgNil)))) (pf_tup (paf_cons (o := .t (varF 5)) (po_t (pf_var (pv 5))) (paf_cons (o := .t (varF 4)) (po_t (pf_var (pv 4))) paf_nil))) (pgf_tup rfl (pgsf_cons (pgf_sub (k := 3) (oi := .b 4) (pv 3) (po_b (pv 4))) (pgsf_cons (pgf_sub (k := 3) (oi := .b 5) (pv 3) (po_b (pv 5))) (pgsf_nil))))))))))
      (psf_cons (f := forF (itRg rng1D [.t (opF lenD [.b 2])]) (tgN 6) (asgF (opF addD [.b 1, .b 6]) (tgSub 3 (.t (opF ixD [.b 2, .b 6]))))) (psf_for (fi := itRg rng1D [.t (opF lenD [.b 2])]) (g := tgN 6) PassesOwn.never rfl (pif_rng1 (by rfl) T.z_range (paf_cons (o := .t (opF lenD [.b 2])) (po_t (pf_callB call_len_seq vok_len (by rfl) T.z_len PySem.boot_len (paf_cons (o := .b 2) (po_b (pv 2)) paf_nil))) paf_nil)) (pgf_name (i := 6) sc_half.nd rfl (by first | exact .inl rfl | exact .inr rfl) (by decide)) (psf_one (psf_asg (f := opF addD [.b 1, .b 6]) (g := tgSub 3 (.t (opF ixD [.b 2, .b 6]))) (pf_bin op_addA vok_add (po_b (pv 1)) (po_b (pv 6))) (pgf_sub (k := 3) (oi := .t (opF ixD [.b 2, .b 6])) (pv 3) (po_t (pf_ix ix_seq vok_ix (po_b (pv 2)) (po_b (pv 6)) (fun _ _ => rfl)))))))
      (psf_one (psf_ret (pf_tup (paf_cons (o := .t (movF 1)) (po_t (pf_mov (pv 1))) (paf_cons (o := .t (opF lenD [.b 2])) (po_t (pf_callB call_len_seq vok_len (by rfl) T.z_len PySem.boot_len (paf_cons (o := .b 2) (po_b (pv 2)) paf_nil))) (paf_cons (o := .t (opF tupleD [.t (opF addD [.b 3, .b 2])])) (po_t (pf_callTy call_tuple_of vok_tuple (by rfl) T.z_tuple boot_tuple (paf_cons (o := .t (opF addD [.b 3, .b 2])) (po_t (pf_bin op_addA vok_add (po_b (pv 3)) (po_b (pv 2)))) paf_nil))) paf_nil))))))))
theorem ok_signs (T : Tx K mg) : FnOk P w K mg base CX0 1 T.f_signs T.fd_signs ["_law_many", "_law_goal"] (spOf K fn_signs) := by
  unfold fn_signs
  refine fn_ok (k := 0) (x := "_law_signs") (qual := "_law_signs") (st := s_signs) (N := ["_law_many", "_law_goal", "_law_rows", "_law_k", "_law_longer", "_law_row", "_law_high"]) (ps := ["_law_many", "_law_goal"]) (pins := [true, true]) (fb := F_signs) T.F_signs sc_signs rfl (by decide) ?_
  intro cdv A outer s H E hr
  unfold F_signs
  exact psf_cons (f := asgF (lstF [.t (tupF [.t (tupF []), .t (litF (.int 0))])]) (tgN 2)) (psf_set (i := 2) sc_signs.nd rfl (by first | exact .inl rfl | exact .inr rfl) (by decide) (pf_lst (paf_cons (o := .t (tupF [.t (tupF []), .t (litF (.int 0))])) (po_t (pf_tup (paf_cons (o := .t (tupF [])) (po_t (pf_tup paf_nil)) (paf_cons (o := .t (litF (.int 0))) (po_t (pf_int)) paf_nil)))) paf_nil)))
      (psf_cons (f := forF (itRg rng1D [.b 0]) (tgN 3) (seqF (asgF (lcF [5, 6] (itSeq (varF 2)) (tgT 2 (tgCons (tgN 5) (tgCons (tgN 6) (tgNil)))) (yesF) (tupF [.t (opF addD [.b 5, .t (tupF [.t (litF (.int 1))])]), .t (opF addD [.b 6, .t (litF (.int 1))])])) (tgN 4)) <|
      asgF (opF addD [.b 4, .t (lcF [5, 6] (itSeq (varF 2)) (tgT 2 (tgCons (tgN 5) (tgCons (tgN 6) (tgNil)))) (bT (opF (gtD) [.b 6, .t (litF (.int 0))])) (tupF [.t (opF addD [.b 5, .t (tupF [.t (opF negD [.t (litF (.int 1))])])]), .t (opF subD [.b 6, .t (litF (.int 1))])]))]) (tgN 2))) (psf_for (fi := itRg rng1D [.b 0]) (g := tgN 3) PassesOwn.never rfl (pif_rng1 (by rfl) T.z_range (paf_cons (o := .b 0) (po_b (pv 0)) paf_nil)) (pgf_name (i := 3) sc_signs.nd rfl (by first | exact .inl rfl | exact .inr rfl) (by decide)) (psf_cons (f := asgF (lcF [5, 6] (itSeq (varF 2)) (tgT 2 (tgCons (tgN 5) (tgCons (tgN 6) (tgNil)))) (yesF) (tupF [.t (opF addD [.b 5, .t (tupF [.t (litF (.int 1))])]), .t (opF addD [.b 6, .t (litF (.int 1))])])) (tgN 4)) (psf_setLc (own := [("_law_row", 5), ("_law_high", 6)]) (fi := itSeq (varF 2)) (fg := tgT 2 (tgCons (tgN 5) (tgCons (tgN 6) (tgNil)))) (ft := yesF) (fe := tupF [.t (opF addD [.b 5, .t (tupF [.t (litF (.int 1))])]), .t (opF addD [.b 6, .t (litF (.int 1))])]) (i := 4) (by decide) rfl sc_signs.nd rfl rfl (sw_true rfl rfl rfl (by decide +kernel)) (pif_seq (pf_var (pv 2))) (blkOk_by (own := [("_law_row", 5), ("_law_high", 6)]) (by rfl)) (fun _ _ _ _ _ => pgf_tup rfl (pgsf_cons (pgf_name (i := 5) sc_signs.nd rfl (by first | exact .inl rfl | exact .inr rfl) (by decide)) (pgsf_cons (pgf_name (i := 6) sc_signs.nd rfl (by first | exact .inl rfl | exact .inr rfl) (by decide)) (pgsf_nil)))) (fun _ _ _ _ _ => ptsf_nil) (fun _ _ _ _ _ => pf_tup (paf_cons (o := .t (opF addD [.b 5, .t (tupF [.t (litF (.int 1))])])) (po_t (pf_bin op_addA vok_add (po_b (pv 5)) (po_t (pf_tup (paf_cons (o := .t (litF (.int 1))) (po_t (pf_int)) paf_nil))))) (paf_cons (o := .t (opF addD [.b 6, .t (litF (.int 1))])) (po_t (pf_bin op_addA vok_add (po_b (pv 6)) (po_t (pf_int)))) paf_nil))))
      (psf_one (psf_set (i := 2) sc_signs.nd rfl (by first | exact .inl rfl | exact .inr rfl) (by decide) (pf_bin op_addA vok_add (po_b (pv 4)) (po_t (pf_lc (own := [("_law_row", 5), ("_law_high", 6)]) (fi := itSeq (varF 2)) (fg := tgT 2 (tgCons (tgN 5) (tgCons (tgN 6) (tgNil)))) (ft := bT (opF (gtD) [.b 6, .t (litF (.int 0))])) (fe := tupF [.t (opF addD [.b 5, .t (tupF [.t (opF negD [.t (litF (.int 1))])])]), .t (opF subD [.b 6, .t (litF (.int 1))])]) rfl sc_signs.nd (pif_seq (pf_var (pv 2))) (blkOk_by (own := [("_law_row", 5), ("_law_high", 6)]) (by rfl)) (fun _ _ _ _ _ => pgf_tup rfl (pgsf_cons (pgf_name (i := 5) sc_signs.nd rfl (by first | exact .inl rfl | exact .inr rfl) (by decide)) (pgsf_cons (pgf_name (i := 6) sc_signs.nd rfl (by first | exact .inl rfl | exact .inr rfl) (by decide)) (pgsf_nil)))) (fun _ _ _ _ _ => ptsf_one (pt_cmpf op_gt vok_gt (po_b (pv 6)) (po_t (pf_int)) (nomark _))) (fun _ _ _ _ _ => pf_tup (paf_cons (o := .t (opF addD [.b 5, .t (tupF [.t (opF negD [.t (litF (.int 1))])])])) (po_t (pf_bin op_addA vok_add (po_b (pv 5)) (po_t (pf_tup (paf_cons (o := .t (opF negD [.t (litF (.int 1))])) (po_t (pf_un un_neg vok_neg (po_t (pf_int)))) paf_nil))))) (paf_cons (o := .t (opF subD [.b 6, .t (litF (.int 1))])) (po_t (pf_bin op_sub vok_sub (po_b (pv 6)) (po_t (pf_int)))) paf_nil))))))))))
      (psf_one (psf_ret (pf_lc (own := [("_law_row", 5), ("_law_high", 6)]) (fi := itSeq (varF 2)) (fg := tgT 2 (tgCons (tgN 5) (tgCons (tgN 6) (tgNil)))) (ft := bT (opF (eqD) [.b 6, .b 1])) (fe := varF 5) rfl sc_signs.nd (pif_seq (pf_var (pv 2))) (blkOk_by (own := [("_law_row", 5), ("_law_high", 6)]) (by rfl)) (fun _ _ _ _ _ => pgf_tup rfl (pgsf_cons (pgf_name (i := 5) sc_signs.nd rfl (by first | exact .inl rfl | exact .inr rfl) (by decide)) (pgsf_cons (pgf_name (i := 6) sc_signs.nd rfl (by first | exact .inl rfl | exact .inr rfl) (by decide)) (pgsf_nil)))) (fun _ _ _ _ _ => ptsf_one (pt_cmpf (op_eqD hr.units) vok_eq (po_b (pv 6)) (po_b (pv 1)) (nomark _))) (fun _ _ _ _ _ => pf_var (pv 5))))))
theorem ok_halves (T : Tx K mg) : FnOk P w K mg base CX0 2 T.f_halves T.fd_halves ["_law_n", "_law_k"] (spOf K fn_halves) := by
  unfold fn_halves
  refine fn_ok (k := 1) (x := "_law_halves") (qual := "_law_halves") (st := s_halves) (N := ["_law_n", "_law_k", "_law_signs_here"]) (ps := ["_law_n", "_law_k"]) (pins := [true, true]) (fb := F_halves) T.F_halves sc_halves rfl (by decide) ?_
  intro cdv A outer s H E hr
  unfold F_halves
  exact psf_one (psf_ret (pf_callB (cr_sortedM (units65 hr)) vok_sortedM (by rfl) T.z_sorted (by decide +kernel) (paf_cons (o := .t (lcF [2] (itSeq (callF fn_signs [.b 0, .b 1])) (tgN 2) (yesF) (callF fn_half [.b 2]))) (po_t (pf_lc (own := [("_law_signs_here", 2)]) (fi := itSeq (callF fn_signs [.b 0, .b 1])) (fg := tgN 2) (ft := yesF) (fe := callF fn_half [.b 2]) rfl sc_halves.nd (pif_seq (pf_call (ok_signs T) (hr.mono (by decide)) (by rfl) T.g_signs T.F_signs.kp T.b_signs (paf_cons (o := .b 0) (po_b (pv 0)) (paf_cons (o := .b 1) (po_b (pv 1)) paf_nil)))) (blkOk_by (own := [("_law_signs_here", 2)]) (by rfl)) (fun _ _ _ _ _ => pgf_name (i := 2) sc_halves.nd rfl (by first | exact .inl rfl | exact .inr rfl) (by decide)) (fun _ _ _ _ _ => ptsf_nil) (fun _ _ _ _ _ => pf_call (ok_half T) (hr.mono (by decide)) (by rfl) T.g_half T.F_half.kp T.b_half (paf_cons (o := .b 2) (po_b (pv 2)) paf_nil)))) paf_nil)))
theorem ok_flip (T : Tx K mg) : FnOk P w K mg base CX0 1 T.f_flip T.fd_flip ["_law_mesh"] (spOf K fn_flip) := by
  unfold fn_flip
  refine fn_ok (k := 0) (x := "_law_flip") (qual := "_law_flip") (st := s_flip) (N := ["_law_mesh", "_law_n", "_law_m", "_law_mates", "_law_row", "_law_p", "_law_mate"]) (ps := ["_law_mesh"]) (pins := [true]) (fb := F_flip) T.F_flip sc_flip rfl (by decide) ?_
  intro cdv A outer s H E hr
  unfold F_flip
  exact psf_cons (f := asgF (varF 0) (tgT 3 (tgCons (tgN 1) (tgCons (tgN 2) (tgCons (tgN 3) (tgNil)))))) (psf_asg (f := varF 0) (g := tgT 3 (tgCons (tgN 1) (tgCons (tgN 2) (tgCons (tgN 3) (tgNil))))) (pf_var (pv 0)) (pgf_tup rfl (pgsf_cons (pgf_name (i := 1) sc_flip.nd rfl (by first | exact .inl rfl | exact .inr rfl) (by decide)) (pgsf_cons (pgf_name (i := 2) sc_flip.nd rfl (by first | exact .inl rfl | exact .inr rfl) (by decide)) (pgsf_cons (pgf_name (i := 3) sc_flip.nd rfl (by first | exact .inl rfl | exact .inr rfl) (by decide)) (pgsf_nil))))))
      (psf_cons (f := asgF (opF addD [.t (lcF [5] (itRg rng1D [.b 2]) (tgN 5) (yesF) (opF ixD [.b 3, .t (opF addD [.b 1, .b 5])])), .t (lcF [5] (itRg rng1D [.b 1]) (tgN 5) (yesF) (opF ixD [.b 3, .b 5]))]) (tgN 4)) (psf_set (i := 4) sc_flip.nd rfl (by first | exact .inl rfl | exact .inr rfl) (by decide) (pf_bin op_addA vok_add (po_t (pf_lc (own := [("_law_p", 5)]) (fi := itRg rng1D [.b 2]) (fg := tgN 5) (ft := yesF) (fe := opF ixD [.b 3, .t (opF addD [.b 1, .b 5])]) rfl sc_flip.nd (pif_rng1 (by rfl) T.z_range (paf_cons (o := .b 2) (po_b (pv 2)) paf_nil)) (blkOk_by (own := [("_law_p", 5)]) (by rfl)) (fun _ _ _ _ _ => pgf_name (i := 5) sc_flip.nd rfl (by first | exact .inl rfl | exact .inr rfl) (by decide)) (fun _ _ _ _ _ => ptsf_nil) (fun _ _ _ _ _ => pf_ix ix_seq vok_ix (po_b (pv 3)) (po_t (pf_bin op_addA vok_add (po_b (pv 1)) (po_b (pv 5)))) (fun _ _ => rfl)))) (po_t (pf_lc (own := [("_law_p", 5)]) (fi := itRg rng1D [.b 1]) (fg := tgN 5) (ft := yesF) (fe := opF ixD [.b 3, .b 5]) rfl sc_flip.nd (pif_rng1 (by rfl) T.z_range (paf_cons (o := .b 1) (po_b (pv 1)) paf_nil)) (blkOk_by (own := [("_law_p", 5)]) (by rfl)) (fun _ _ _ _ _ => pgf_name (i := 5) sc_flip.nd rfl (by first | exact .inl rfl | exact .inr rfl) (by decide)) (fun _ _ _ _ _ => ptsf_nil) (fun _ _ _ _ _ => pf_ix ix_seq vok_ix (po_b (pv 3)) (po_b (pv 5)) (fun _ _ => rfl))))))
      (psf_one (psf_ret (pf_tup (paf_cons (o := .t (varF 2)) (po_t (pf_var (pv 2))) (paf_cons (o := .t (varF 1)) (po_t (pf_var (pv 1))) (paf_cons (o := .t (opF tupleD [.t (lcF [6] (itSeq (varF 4)) (tgN 6) (yesF) (ifE (bT (opF (ltD) [.b 6, .b 1])) (opF addD [.b 6, .b 2]) (opF subD [.b 6, .b 1])))])) (po_t (pf_callTy call_tuple_of vok_tuple (by rfl) T.z_tuple boot_tuple (paf_cons (o := .t (lcF [6] (itSeq (varF 4)) (tgN 6) (yesF) (ifE (bT (opF (ltD) [.b 6, .b 1])) (opF addD [.b 6, .b 2]) (opF subD [.b 6, .b 1])))) (po_t (pf_lc (own := [("_law_mate", 6)]) (fi := itSeq (varF 4)) (fg := tgN 6) (ft := yesF) (fe := ifE (bT (opF (ltD) [.b 6, .b 1])) (opF addD [.b 6, .b 2]) (opF subD [.b 6, .b 1])) rfl sc_flip.nd (pif_seq (pf_var (pv 4))) (blkOk_by (own := [("_law_mate", 6)]) (by rfl)) (fun _ _ _ _ _ => pgf_name (i := 6) sc_flip.nd rfl (by first | exact .inl rfl | exact .inr rfl) (by decide)) (fun _ _ _ _ _ => ptsf_nil) (fun _ _ _ _ _ => pf_if (pt_cmpf op_lt vok_lt (po_b (pv 6)) (po_b (pv 1)) (nomark _)) (pf_bin op_addA vok_add (po_b (pv 6)) (po_b (pv 2))) (pf_bin op_sub vok_sub (po_b (pv 6)) (po_b (pv 1)))))) paf_nil))) paf_nil)))))))
theorem ok_put (T : Tx K mg) : FnOk P w K mg base CX0 1 T.f_put T.fd_put ["_law_one", "_law_other"] (spOf K fn_put) := by
  unfold fn_put
  refine fn_ok (k := 0) (x := "_law_put") (qual := "_law_put") (st := s_put) (N := ["_law_one", "_law_other", "_law_n", "_law_m", "_law_k", "_law_links", "_law_met", "_law_mates", "_law_rings", "_law_start", "_law_side", "_law_spot", "_law_step", "_law_mate"]) (ps := ["_law_one", "_law_other"]) (pins := [true, true]) (fb := F_put) T.F_put sc_put rfl (by decide) ?_
  intro cdv A outer s H E hr
  unfold F_put
  exact psf_cons (f := asgF (tupF [.t (opF ixD [.b 0, .t (litF (.int 0))]), .t (opF ixD [.b 0, .t (litF (.int 1))]), .t (opF ixD [.b 1, .t (litF (.int 1))])]) (tgT 3 (tgCons (tgN 2) (tgCons (tgN 3) (tgCons (tgN 4) (tgNil)))))) (psf_asg (f := tupF [.t (opF ixD [.b 0, .t (litF (.int 0))]), .t (opF ixD [.b 0, .t (litF (.int 1))]), .t (opF ixD [.b 1, .t (litF (.int 1))])]) (g := tgT 3 (tgCons (tgN 2) (tgCons (tgN 3) (tgCons (tgN 4) (tgNil))))) (pf_tup (paf_cons (o := .t (opF ixD [.b 0, .t (litF (.int 0))])) (po_t (pf_ix ix_seq vok_ix (po_b (pv 0)) (po_t (pf_int)) (fun _ _ => rfl))) (paf_cons (o := .t (opF ixD [.b 0, .t (litF (.int 1))])) (po_t (pf_ix ix_seq vok_ix (po_b (pv 0)) (po_t (pf_int)) (fun _ _ => rfl))) (paf_cons (o := .t (opF ixD [.b 1, .t (litF (.int 1))])) (po_t (pf_ix ix_seq vok_ix (po_b (pv 1)) (po_t (pf_int)) (fun _ _ => rfl))) paf_nil)))) (pgf_tup rfl (pgsf_cons (pgf_name (i := 2) sc_put.nd rfl (by first | exact .inl rfl | exact .inr rfl) (by decide)) (pgsf_cons (pgf_name (i := 3) sc_put.nd rfl (by first | exact .inl rfl | exact .inr rfl) (by decide)) (pgsf_cons (pgf_name (i := 4) sc_put.nd rfl (by first | exact .inl rfl | exact .inr rfl) (by decide)) (pgsf_nil))))))
      (psf_cons (f := parF [5, 6] [.t (lstF [.t (frzF (opF listD [.t (opF ixD [.b 0, .t (litF (.int 2))])])), .t (frzF (lcF [13] (itSeq (opF ixD [.b 1, .t (litF (.int 2))])) (tgN 13) (yesF) (opF addD [.b 2, .b 13])))]), .t (opF mulD [.t (lstF [.t (litF (.bl false))]), .t (opF addD [.b 2, .b 3])])]) (psf_par2 (i := 5) (j := 6) rfl sc_put.nd rfl rfl  (by decide)  (by decide) rfl rfl  (paf_cons (o := .t (lstF [.t (frzF (opF listD [.t (opF ixD [.b 0, .t (litF (.int 2))])])), .t (frzF (lcF [13] (itSeq (opF ixD [.b 1, .t (litF (.int 2))])) (tgN 13) (yesF) (opF addD [.b 2, .b 13])))])) (po_t (pf_lst (paf_cons (o := .t (frzF (opF listD [.t (opF ixD [.b 0, .t (litF (.int 2))])]))) (po_t (pf_frz (pf_callTy call_list_of vok_list (by rfl) T.z_list boot_list (paf_cons (o := .t (opF ixD [.b 0, .t (litF (.int 2))])) (po_t (pf_ix ix_seq vok_ix (po_b (pv 0)) (po_t (pf_int)) (fun _ _ => rfl))) paf_nil)))) (paf_cons (o := .t (frzF (lcF [13] (itSeq (opF ixD [.b 1, .t (litF (.int 2))])) (tgN 13) (yesF) (opF addD [.b 2, .b 13])))) (po_t (pf_frz (pf_lc (own := [("_law_mate", 13)]) (fi := itSeq (opF ixD [.b 1, .t (litF (.int 2))])) (fg := tgN 13) (ft := yesF) (fe := opF addD [.b 2, .b 13]) rfl sc_put.nd (pif_seq (pf_ix ix_seq vok_ix (po_b (pv 1)) (po_t (pf_int)) (fun _ _ => rfl))) (blkOk_by (own := [("_law_mate", 13)]) (by rfl)) (fun _ _ _ _ _ => pgf_name (i := 13) sc_put.nd rfl (by first | exact .inl rfl | exact .inr rfl) (by decide)) (fun _ _ _ _ _ => ptsf_nil) (fun _ _ _ _ _ => pf_bin op_addA vok_add (po_b (pv 2)) (po_b (pv 13)))))) paf_nil)))) (paf_cons (o := .t (opF mulD [.t (lstF [.t (litF (.bl false))]), .t (opF addD [.b 2, .b 3])])) (po_t (pf_bin op_mulA vok_mul (po_t (pf_lst (paf_cons (o := .t (litF (.bl false))) (po_t (pf_bl)) paf_nil))) (po_t (pf_bin op_addA vok_add (po_b (pv 2)) (po_b (pv 3)))))) paf_nil)) rfl)
      (psf_cons (f := parF [7, 8] [.t (lstF []), .t (litF (.int 0))]) (psf_par2 (i := 7) (j := 8) rfl sc_put.nd rfl rfl  (by decide)  (by decide) rfl rfl  (paf_cons (o := .t (lstF [])) (po_t (pf_lst paf_nil)) (paf_cons (o := .t (litF (.int 0))) (po_t (pf_int)) paf_nil)) rfl)
      (psf_cons (f := forF (itSeq (opF addD [.t (opF (lrgD rng1D) [.b 2]), .t (opF (lrgD rng2D) [.t (opF addD [.b 2, .b 3]), .t (opF addD [.t (opF addD [.b 2, .b 3]), .b 4])])])) (tgN 9) (seqF (parF [10, 11] [.t (opF intD [.t (opF (geD) [.b 9, .t (opF addD [.b 2, .b 3])])]), .t (varF 9)]) <|
      seqF (forF (itRg rng1D [.t (opF addD [.t (opF mulD [.t (litF (.int 2)), .b 3]), .t (litF (.int 2))])]) (tgN 12) (seqF (asgF (opF ixD [.t (opF ixD [.b 5, .b 10]), .t (opF subD [.b 11, .t (opF mulD [.b 2, .b 10])])]) (tgN 11)) <|
      seqF (ifF (orF (bT (opF (ltD) [.b 11, .b 2])) (bT (opF (geD) [.b 11, .t (opF addD [.b 2, .b 3])]))) (brkF) (passF)) <|
      seqF (asgF (litF (.bl true)) (tgSub 6 (.b 11))) <|
      asgF (opF subD [.t (litF (.int 1)), .b 10]) (tgN 10))) <|
      dropF (mutF 7 appD [.t (ifE (bT (opF (ltD) [.b 11, .b 2])) (varF 11) (opF subD [.b 11, .b 3]))]))) (psf_for (fi := itSeq (opF addD [.t (opF (lrgD rng1D) [.b 2]), .t (opF (lrgD rng2D) [.t (opF addD [.b 2, .b 3]), .t (opF addD [.t (opF addD [.b 2, .b 3]), .b 4])])])) (g := tgN 9) PassesOwn.never rfl (pif_seq (pf_bin op_addA vok_add (po_t (pf_lrg1 rfl (by rfl) T.z_list (by rfl) T.z_range (paf_cons (o := .b 2) (po_b (pv 2)) paf_nil))) (po_t (pf_lrg2 rfl (by rfl) T.z_list (by rfl) T.z_range (paf_cons (o := .t (opF addD [.b 2, .b 3])) (po_t (pf_bin op_addA vok_add (po_b (pv 2)) (po_b (pv 3)))) (paf_cons (o := .t (opF addD [.t (opF addD [.b 2, .b 3]), .b 4])) (po_t (pf_bin op_addA vok_add (po_t (pf_bin op_addA vok_add (po_b (pv 2)) (po_b (pv 3)))) (po_b (pv 4)))) paf_nil)))))) (pgf_name (i := 9) sc_put.nd rfl (by first | exact .inl rfl | exact .inr rfl) (by decide)) (psf_cons (f := parF [10, 11] [.t (opF intD [.t (opF (geD) [.b 9, .t (opF addD [.b 2, .b 3])])]), .t (varF 9)]) (psf_par2 (i := 10) (j := 11) rfl sc_put.nd rfl rfl  (by decide)  (by decide) rfl rfl  (paf_cons (o := .t (opF intD [.t (opF (geD) [.b 9, .t (opF addD [.b 2, .b 3])])])) (po_t (pf_callTy call_int1 vok_int (by rfl) T.z_int boot_int (paf_cons (o := .t (opF (geD) [.b 9, .t (opF addD [.b 2, .b 3])])) (po_t (pf_cmp op_ge vok_ge (po_b (pv 9)) (po_t (pf_bin op_addA vok_add (po_b (pv 2)) (po_b (pv 3)))) (nomark _))) paf_nil))) (paf_cons (o := .t (varF 9)) (po_t (pf_var (pv 9))) paf_nil)) rfl)
      (psf_cons (f := forF (itRg rng1D [.t (opF addD [.t (opF mulD [.t (litF (.int 2)), .b 3]), .t (litF (.int 2))])]) (tgN 12) (seqF (asgF (opF ixD [.t (opF ixD [.b 5, .b 10]), .t (opF subD [.b 11, .t (opF mulD [.b 2, .b 10])])]) (tgN 11)) <|
      seqF (ifF (orF (bT (opF (ltD) [.b 11, .b 2])) (bT (opF (geD) [.b 11, .t (opF addD [.b 2, .b 3])]))) (brkF) (passF)) <|
      seqF (asgF (litF (.bl true)) (tgSub 6 (.b 11))) <|
      asgF (opF subD [.t (litF (.int 1)), .b 10]) (tgN 10))) (psf_for (fi := itRg rng1D [.t (opF addD [.t (opF mulD [.t (litF (.int 2)), .b 3]), .t (litF (.int 2))])]) (g := tgN 12) PassesOwn.never rfl (pif_rng1 (by rfl) T.z_range (paf_cons (o := .t (opF addD [.t (opF mulD [.t (litF (.int 2)), .b 3]), .t (litF (.int 2))])) (po_t (pf_bin op_addA vok_add (po_t (pf_bin op_mulA vok_mul (po_t (pf_int)) (po_b (pv 3)))) (po_t (pf_int)))) paf_nil)) (pgf_name (i := 12) sc_put.nd rfl (by first | exact .inl rfl | exact .inr rfl) (by decide)) (psf_cons (f := asgF (opF ixD [.t (opF ixD [.b 5, .b 10]), .t (opF subD [.b 11, .t (opF mulD [.b 2, .b 10])])]) (tgN 11)) (psf_set (i := 11) sc_put.nd rfl (by first | exact .inl rfl | exact .inr rfl) (by decide) (pf_ix ix_seq vok_ix (po_t (pf_ix ix_seq vok_ix (po_b (pv 5)) (po_b (pv 10)) (fun _ _ => rfl))) (po_t (pf_bin op_sub vok_sub (po_b (pv 11)) (po_t (pf_bin op_mulA vok_mul (po_b (pv 2)) (po_b (pv 10)))))) (fun _ _ => rfl)))
      (psf_cons (f := ifF (orF (bT (opF (ltD) [.b 11, .b 2])) (bT (opF (geD) [.b 11, .t (opF addD [.b 2, .b 3])]))) (brkF) (passF)) (psf_if (fc := orF (bT (opF (ltD) [.b 11, .b 2])) (bT (opF (geD) [.b 11, .t (opF addD [.b 2, .b 3])]))) ((pwf_or (pt_cmpf op_lt vok_lt (po_b (pv 11)) (po_b (pv 2)) (nomark _)) (pwf_or1 (pt_cmpf op_ge vok_ge (po_b (pv 11)) (po_t (pf_bin op_addA vok_add (po_b (pv 2)) (po_b (pv 3)))) (nomark _)))).pt) (psf_one (psf_brk)) (psf_nil))
      (psf_cons (f := asgF (litF (.bl true)) (tgSub 6 (.b 11))) (psf_asg (f := litF (.bl true)) (g := tgSub 6 (.b 11)) (pf_bl) (pgf_sub (k := 6) (oi := .b 11) (pv 6) (po_b (pv 11))))
      (psf_one (psf_set (i := 10) sc_put.nd rfl (by first | exact .inl rfl | exact .inr rfl) (by decide) (pf_bin op_sub vok_sub (po_t (pf_int)) (po_b (pv 10)))))))))
      (psf_one (psf_expr (pf_append (i := 7) (pv 7) (paf_cons (o := .t (ifE (bT (opF (ltD) [.b 11, .b 2])) (varF 11) (opF subD [.b 11, .b 3]))) (po_t (pf_if (pt_cmpf op_lt vok_lt (po_b (pv 11)) (po_b (pv 2)) (nomark _)) (pf_var (pv 11)) (pf_bin op_sub vok_sub (po_b (pv 11)) (po_b (pv 3))))) paf_nil)))))))
      (psf_cons (f := forF (itRg rng2D [.b 2, .t (opF addD [.b 2, .b 3])]) (tgN 9) (seqF (asgF (opF addD [.b 8, .t (opF intD [.t (notV (opF ixD [.b 6, .b 9]))])]) (tgN 8)) <|
      seqF (asgF (varF 9) (tgN 11)) <|
      forF (itRg rng1D [.b 3]) (tgN 12) (ifF (notF (tstF (.t (opF ixD [.b 6, .b 11])))) (seqF (asgF (litF (.bl true)) (tgSub 6 (.b 11))) <|
      seqF (asgF (opF ixD [.t (opF ixD [.b 5, .t (litF (.int 0))]), .b 11]) (tgN 11)) <|
      seqF (asgF (litF (.bl true)) (tgSub 6 (.b 11))) <|
      asgF (opF ixD [.t (opF ixD [.b 5, .t (litF (.int 1))]), .t (opF subD [.b 11, .b 2])]) (tgN 11)) (passF)))) (psf_for (fi := itRg rng2D [.b 2, .t (opF addD [.b 2, .b 3])]) (g := tgN 9) PassesOwn.never rfl (pif_rng2 (by rfl) T.z_range (paf_cons (o := .b 2) (po_b (pv 2)) (paf_cons (o := .t (opF addD [.b 2, .b 3])) (po_t (pf_bin op_addA vok_add (po_b (pv 2)) (po_b (pv 3)))) paf_nil))) (pgf_name (i := 9) sc_put.nd rfl (by first | exact .inl rfl | exact .inr rfl) (by decide)) (psf_cons (f := asgF (opF addD [.b 8, .t (opF intD [.t (notV (opF ixD [.b 6, .b 9]))])]) (tgN 8)) (psf_set (i := 8) sc_put.nd rfl (by first | exact .inl rfl | exact .inr rfl) (by decide) (pf_bin op_addA vok_add (po_b (pv 8)) (po_t (pf_callTy call_int1 vok_int (by rfl) T.z_int boot_int (paf_cons (o := .t (notV (opF ixD [.b 6, .b 9]))) (po_t (pf_not (pf_ix ix_seq vok_ix (po_b (pv 6)) (po_b (pv 9)) (fun _ _ => rfl)))) paf_nil)))))
      (psf_cons (f := asgF (varF 9) (tgN 11)) (psf_set (i := 11) sc_put.nd rfl (by first | exact .inl rfl | exact .inr rfl) (by decide) (pf_var (pv 9)))
      (psf_one (psf_for (fi := itRg rng1D [.b 3]) (g := tgN 12) PassesOwn.never rfl (pif_rng1 (by rfl) T.z_range (paf_cons (o := .b 3) (po_b (pv 3)) paf_nil)) (pgf_name (i := 12) sc_put.nd rfl (by first | exact .inl rfl | exact .inr rfl) (by decide)) (psf_one (psf_if (fc := notF (tstF (.t (opF ixD [.b 6, .b 11])))) (ptf_not (pt_tst (o := .t (opF ixD [.b 6, .b 11])) (po_t (pf_ix ix_seq vok_ix (po_b (pv 6)) (po_b (pv 11)) (fun _ _ => rfl))))) (psf_cons (f := asgF (litF (.bl true)) (tgSub 6 (.b 11))) (psf_asg (f := litF (.bl true)) (g := tgSub 6 (.b 11)) (pf_bl) (pgf_sub (k := 6) (oi := .b 11) (pv 6) (po_b (pv 11))))
      (psf_cons (f := asgF (opF ixD [.t (opF ixD [.b 5, .t (litF (.int 0))]), .b 11]) (tgN 11)) (psf_set (i := 11) sc_put.nd rfl (by first | exact .inl rfl | exact .inr rfl) (by decide) (pf_ix ix_seq vok_ix (po_t (pf_ix ix_seq vok_ix (po_b (pv 5)) (po_t (pf_int)) (fun _ _ => rfl))) (po_b (pv 11)) (fun _ _ => rfl)))
      (psf_cons (f := asgF (litF (.bl true)) (tgSub 6 (.b 11))) (psf_asg (f := litF (.bl true)) (g := tgSub 6 (.b 11)) (pf_bl) (pgf_sub (k := 6) (oi := .b 11) (pv 6) (po_b (pv 11))))
      (psf_one (psf_set (i := 11) sc_put.nd rfl (by first | exact .inl rfl | exact .inr rfl) (by decide) (pf_ix ix_seq vok_ix (po_t (pf_ix ix_seq vok_ix (po_b (pv 5)) (po_t (pf_int)) (fun _ _ => rfl))) (po_t (pf_bin op_sub vok_sub (po_b (pv 11)) (po_b (pv 2)))) (fun _ _ => rfl))))))) (psf_nil))))))))
      (psf_one (psf_ret (pf_tup (paf_cons (o := .t (movF 8)) (po_t (pf_mov (pv 8))) (paf_cons (o := .t (tupF [.t (movF 2), .t (movF 4), .t (opF tupleD [.b 7])])) (po_t (pf_tup (paf_cons (o := .t (movF 2)) (po_t (pf_mov (pv 2))) (paf_cons (o := .t (movF 4)) (po_t (pf_mov (pv 4))) (paf_cons (o := .t (opF tupleD [.b 7])) (po_t (pf_callTy call_tuple_of vok_tuple (by rfl) T.z_tuple boot_tuple (paf_cons (o := .b 7) (po_b (pv 7)) paf_nil))) paf_nil))))) paf_nil)))))))))
theorem ok_paired (T : Tx K mg) : FnOk P w K mg base CX0 2 T.f_paired T.fd_paired ["_law_one", "_law_other"] (spOf K fn_paired) := by
  unfold fn_paired
  refine fn_ok (k := 1) (x := "_law_paired") (qual := "_law_paired") (st := s_paired) (N := ["_law_one", "_law_other", "_law_rings", "_law_made", "_law_mate"]) (ps := ["_law_one", "_law_other"]) (pins := [true, true]) (fb := F_paired) T.F_paired sc_paired rfl (by decide) ?_
  intro cdv A outer s H E hr
  unfold F_paired
  exact psf_cons (f := asgF (callF fn_put [.t (callF fn_flip [.b 0]), .b 1]) (tgT 2 (tgCons (tgN 2) (tgCons (tgN 3) (tgNil))))) (psf_asg (f := callF fn_put [.t (callF fn_flip [.b 0]), .b 1]) (g := tgT 2 (tgCons (tgN 2) (tgCons (tgN 3) (tgNil)))) (pf_call (ok_put T) (hr.mono (by decide)) (by rfl) T.g_put T.F_put.kp T.b_put (paf_cons (o := .t (callF fn_flip [.b 0])) (po_t (pf_call (ok_flip T) (hr.mono (by decide)) (by rfl) T.g_flip T.F_flip.kp T.b_flip (paf_cons (o := .b 0) (po_b (pv 0)) paf_nil))) (paf_cons (o := .b 1) (po_b (pv 1)) paf_nil))) (pgf_tup rfl (pgsf_cons (pgf_name (i := 2) sc_paired.nd rfl (by first | exact .inl rfl | exact .inr rfl) (by decide)) (pgsf_cons (pgf_name (i := 3) sc_paired.nd rfl (by first | exact .inl rfl | exact .inr rfl) (by decide)) (pgsf_nil)))))
      (psf_cons (f := ifF (bT (opF (neD) [.t (lcF [4] (itSeq (opF (partD false true) [.t (opF ixD [.b 3, .t (litF (.int 2))]), .t (opF ixD [.b 3, .t (litF (.int 0))])])) (tgN 4) (bT (opF (ltD) [.b 4, .t (opF ixD [.b 3, .t (litF (.int 0))])])) (varF 4)), .t (lstF [])])) (retF (opF negD [.t (litF (.int 1))])) (passF)) (psf_if (fc := bT (opF (neD) [.t (lcF [4] (itSeq (opF (partD false true) [.t (opF ixD [.b 3, .t (litF (.int 2))]), .t (opF ixD [.b 3, .t (litF (.int 0))])])) (tgN 4) (bT (opF (ltD) [.b 4, .t (opF ixD [.b 3, .t (litF (.int 0))])])) (varF 4)), .t (lstF [])])) (pt_cmpf (op_neD hr.units) vok_ne (po_t (pf_lc (own := [("_law_mate", 4)]) (fi := itSeq (opF (partD false true) [.t (opF ixD [.b 3, .t (litF (.int 2))]), .t (opF ixD [.b 3, .t (litF (.int 0))])])) (fg := tgN 4) (ft := bT (opF (ltD) [.b 4, .t (opF ixD [.b 3, .t (litF (.int 0))])])) (fe := varF 4) rfl sc_paired.nd (pif_seq (pf_slH (po_t (pf_ix ix_seq vok_ix (po_b (pv 3)) (po_t (pf_int)) (fun _ _ => rfl))) (po_t (pf_ix ix_seq vok_ix (po_b (pv 3)) (po_t (pf_int)) (fun _ _ => rfl))))) (blkOk_by (own := [("_law_mate", 4)]) (by rfl)) (fun _ _ _ _ _ => pgf_name (i := 4) sc_paired.nd rfl (by first | exact .inl rfl | exact .inr rfl) (by decide)) (fun _ _ _ _ _ => ptsf_one (pt_cmpf op_lt vok_lt (po_b (pv 4)) (po_t (pf_ix ix_seq vok_ix (po_b (pv 3)) (po_t (pf_int)) (fun _ _ => rfl))) (nomark _))) (fun _ _ _ _ _ => pf_var (pv 4)))) (po_t (pf_lst paf_nil)) (nomark _)) (psf_one (psf_ret (pf_un un_neg vok_neg (po_t (pf_int))))) (psf_nil))
      (psf_one (psf_ret (pf_mov (pv 2)))))
theorem ok_table_of (T : Tx K mg) : FnOk P w K mg base CX0 3 T.f_table_of T.fd_table_of ["_law_halves_here"] (spOf K fn_table_of) := by
  unfold fn_table_of
  refine fn_ok (k := 2) (x := "_law_table_of") (qual := "_law_table_of") (st := s_table_of) (N := ["_law_halves_here", "_law_table", "_law_one", "_law_row", "_law_other", "_law_rings"]) (ps := ["_law_halves_here"]) (pins := [true]) (fb := F_table_of) T.F_table_of sc_table_of rfl (by decide) ?_
  intro cdv A outer s H E hr
  unfold F_table_of
  exact psf_cons (f := asgF (lstF []) (tgN 1)) (psf_set (i := 1) sc_table_of.nd rfl (by first | exact .inl rfl | exact .inr rfl) (by decide) (pf_lst paf_nil))
      (psf_cons (f := forF (itSeq (varF 0)) (tgN 2) (seqF (asgF (lstF []) (tgN 3)) <|
      seqF (forF (itSeq (varF 0)) (tgN 4) (seqF (asgF (callF fn_paired [.b 2, .b 4]) (tgN 5)) <|
      dropF (mutF 3 appD [.t (ifE (bT (opF (ltD) [.b 5, .t (litF (.int 0))])) (tupF []) (opF addD [.t (opF mulTD [.t (tupF [.t (litF (.int 0))]), .b 5]), .t (tupF [.t (litF (.int 1))])]))]))) <|
      dropF (mutF 1 appD [.t (varF 3)]))) (psf_for (fi := itSeq (varF 0)) (g := tgN 2) PassesOwn.never rfl (pif_seq (pf_var (pv 0))) (pgf_name (i := 2) sc_table_of.nd rfl (by first | exact .inl rfl | exact .inr rfl) (by decide)) (psf_cons (f := asgF (lstF []) (tgN 3)) (psf_set (i := 3) sc_table_of.nd rfl (by first | exact .inl rfl | exact .inr rfl) (by decide) (pf_lst paf_nil))
      (psf_cons (f := forF (itSeq (varF 0)) (tgN 4) (seqF (asgF (callF fn_paired [.b 2, .b 4]) (tgN 5)) <|
      dropF (mutF 3 appD [.t (ifE (bT (opF (ltD) [.b 5, .t (litF (.int 0))])) (tupF []) (opF addD [.t (opF mulTD [.t (tupF [.t (litF (.int 0))]), .b 5]), .t (tupF [.t (litF (.int 1))])]))]))) (psf_for (fi := itSeq (varF 0)) (g := tgN 4) PassesOwn.never rfl (pif_seq (pf_var (pv 0))) (pgf_name (i := 4) sc_table_of.nd rfl (by first | exact .inl rfl | exact .inr rfl) (by decide)) (psf_cons (f := asgF (callF fn_paired [.b 2, .b 4]) (tgN 5)) (psf_set (i := 5) sc_table_of.nd rfl (by first | exact .inl rfl | exact .inr rfl) (by decide) (pf_call (ok_paired T) (hr.mono (by decide)) (by rfl) T.g_paired T.F_paired.kp T.b_paired (paf_cons (o := .b 2) (po_b (pv 2)) (paf_cons (o := .b 4) (po_b (pv 4)) paf_nil))))
      (psf_one (psf_expr (pf_append (i := 3) (pv 3) (paf_cons (o := .t (ifE (bT (opF (ltD) [.b 5, .t (litF (.int 0))])) (tupF []) (opF addD [.t (opF mulTD [.t (tupF [.t (litF (.int 0))]), .b 5]), .t (tupF [.t (litF (.int 1))])]))) (po_t (pf_if (pt_cmpf op_lt vok_lt (po_b (pv 5)) (po_t (pf_int)) (nomark _)) (pf_tup paf_nil) (pf_bin op_addA vok_add (po_t (pf_bin op_mulT vok_mulT (po_t (pf_tup (paf_cons (o := .t (litF (.int 0))) (po_t (pf_int)) paf_nil))) (po_b (pv 5)))) (po_t (pf_tup (paf_cons (o := .t (litF (.int 1))) (po_t (pf_int)) paf_nil)))))) paf_nil))))))
      (psf_one (psf_expr (pf_append (i := 1) (pv 1) (paf_cons (o := .t (varF 3)) (po_t (pf_var (pv 3))) paf_nil)))))))
      (psf_one (psf_ret (pf_mov (pv 1)))))
theorem ok_p_check_size (T : Tx K mg) : FnOk P w K mg base CX0 1 T.f_p_check_size T.fd_p_check_size ["n"] (spOf K fn_p_check_size) := by
  unfold fn_p_check_size
  refine fn_ok (k := 0) (x := "check_size") (qual := "check_size") (st := s_p_check_size) (N := ["n"]) (ps := ["n"]) (pins := [true]) (fb := F_p_check_size) T.F_p_check_size sc_p_check_size rfl (by decide) ?_
  intro cdv A outer s H E hr
  unfold F_p_check_size
  exact psf_one (psf_if (fc := bT (opF (ltD) [.b 0, .t (litF (.int 1))])) (pt_cmpf op_lt vok_lt (po_b (pv 0)) (po_t (pf_int)) (nomark _)) (psf_one (psf_never)) (psf_nil))
theorem ok_p_check_halves (T : Tx K mg) : FnOk P w K mg base CX0 2 T.f_p_check_halves T.fd_p_check_halves ["n", "k"] (spOf K fn_p_check_halves) := by
  unfold fn_p_check_halves
  refine fn_ok (k := 1) (x := "check_halves") (qual := "check_halves") (st := s_p_check_halves) (N := ["n", "k"]) (ps := ["n", "k"]) (pins := [true, true]) (fb := F_p_check_halves) T.F_p_check_halves sc_p_check_halves rfl (by decide) ?_
  intro cdv A outer s H E hr
  unfold F_p_check_halves
  exact psf_cons (f := dropF (callF fn_p_check_size [.b 0])) (psf_expr (pf_call (ok_p_check_size T) (hr.mono (by decide)) (by rfl) T.g_p_check_size T.F_p_check_size.kp T.b_p_check_size (paf_cons (o := .b 0) (po_b (pv 0)) paf_nil)))
      (psf_one (psf_if (fc := orF (bT (opF (ltD) [.b 1, .t (litF (.int 0))])) (orF (bT (opF (gtD) [.b 1, .b 0])) (bT (opF (neD) [.t (opF modD [.t (opF subD [.b 0, .b 1]), .t (litF (.int 2))]), .t (litF (.int 0))])))) ((pwf_or (pt_cmpf op_lt vok_lt (po_b (pv 1)) (po_t (pf_int)) (nomark _)) (pwf_or (pt_cmpf op_gt vok_gt (po_b (pv 1)) (po_b (pv 0)) (nomark _)) (pwf_or1 (pt_cmpf (op_neD hr.units) vok_ne (po_t (pf_bin op_modN vok_mod (po_t (pf_bin op_sub vok_sub (po_b (pv 0)) (po_b (pv 1)))) (po_t (pf_int)))) (po_t (pf_int)) (nomark _))))).pt) (psf_one (psf_never)) (psf_nil)))
theorem ok_p_half_of_signs (T : Tx K mg) : FnOk P w K mg base CX0 1 T.f_p_half_of_signs T.fd_p_half_of_signs ["row"] (spOf K fn_p_half_of_signs) := by
  unfold fn_p_half_of_signs
  refine fn_ok (k := 0) (x := "half_of_signs") (qual := "half_of_signs") (st := s_p_half_of_signs) (N := ["row", "waiting", "mates", "peg", "sign", "below"]) (ps := ["row"]) (pins := [true]) (fb := F_p_half_of_signs) T.F_p_half_of_signs sc_p_half_of_signs rfl (by decide) ?_
  intro cdv A outer s H E hr
  unfold F_p_half_of_signs
  exact psf_cons (f := parF [1, 2] [.t (lstF []), .t (opF mulD [.t (lstF [.t (litF (.int 0))]), .t (opF lenD [.b 0])])]) (psf_par2 (i := 1) (j := 2) rfl sc_p_half_of_signs.nd rfl rfl  (by decide)  (by decide) rfl rfl  (paf_cons (o := .t (lstF [])) (po_t (pf_lst paf_nil)) (paf_cons (o := .t (opF mulD [.t (lstF [.t (litF (.int 0))]), .t (opF lenD [.b 0])])) (po_t (pf_bin op_mulA vok_mul (po_t (pf_lst (paf_cons (o := .t (litF (.int 0))) (po_t (pf_int)) paf_nil))) (po_t (pf_callB call_len_seq vok_len (by rfl) T.z_len PySem.boot_len (paf_cons (o := .b 0) (po_b (pv 0)) paf_nil))))) paf_nil)) rfl)
      (psf_cons (f := forF (itEnum (varF 0)) (tgT 2 (tgCons (tgN 3) (tgCons (tgN 4) (tgNil)))) (ifF (bT (opF (gtD) [.b 4, .t (litF (.int 0))])) (dropF (mutF 1 appD [.t (varF 3)])) (seqF (asgF (mutF 1 popD []) (tgSub 2 (.b 3))) <|
      asgF (varF 3) (tgSub 2 (.t (opF ixD [.b 2, .b 3])))))) (psf_for (fi := itEnum (varF 0)) (g := tgT 2 (tgCons (tgN 3) (tgCons (tgN 4) (tgNil)))) PassesOwn.never rfl (pif_enum (by rfl) T.z_enumerate (pf_var (pv 0))) (pgf_tup rfl (pgsf_cons (pgf_name (i := 3) sc_p_half_of_signs.nd rfl (by first | exact .inl rfl | exact .inr rfl) (by decide)) (pgsf_cons (pgf_name (i := 4) sc_p_half_of_signs.nd rfl (by first | exact .inl rfl | exact .inr rfl) (by decide)) (pgsf_nil)))) (psf_one (psf_if (fc := bT (opF (gtD) [.b 4, .t (litF (.int 0))])) (pt_cmpf op_gt vok_gt (po_b (pv 4)) (po_t (pf_int)) (nomark _)) (psf_one (psf_expr (pf_append (i := 1) (pv 1) (paf_cons (o := .t (varF 3)) (po_t (pf_var (pv 3))) paf_nil)))) (psf_cons (f := asgF (mutF 1 popD []) (tgSub 2 (.b 3))) (psf_asg (f := mutF 1 popD []) (g := tgSub 2 (.b 3)) (pf_pop (i := 1) (pv 1)) (pgf_sub (k := 2) (oi := .b 3) (pv 2) (po_b (pv 3))))
      (psf_one (psf_asg (f := varF 3) (g := tgSub 2 (.t (opF ixD [.b 2, .b 3]))) (pf_var (pv 3)) (pgf_sub (k := 2) (oi := .t (opF ixD [.b 2, .b 3])) (pv 2) (po_t (pf_ix ix_seq vok_ix (po_b (pv 2)) (po_b (pv 3)) (fun _ _ => rfl))))))))))
      (psf_cons (f := forF (itEnum (varF 1)) (tgT 2 (tgCons (tgN 5) (tgCons (tgN 3) (tgNil)))) (asgF (opF addD [.t (opF lenD [.b 0]), .b 5]) (tgSub 2 (.b 3)))) (psf_for (fi := itEnum (varF 1)) (g := tgT 2 (tgCons (tgN 5) (tgCons (tgN 3) (tgNil)))) PassesOwn.never rfl (pif_enum (by rfl) T.z_enumerate (pf_var (pv 1))) (pgf_tup rfl (pgsf_cons (pgf_name (i := 5) sc_p_half_of_signs.nd rfl (by first | exact .inl rfl | exact .inr rfl) (by decide)) (pgsf_cons (pgf_name (i := 3) sc_p_half_of_signs.nd rfl (by first | exact .inl rfl | exact .inr rfl) (by decide)) (pgsf_nil)))) (psf_one (psf_asg (f := opF addD [.t (opF lenD [.b 0]), .b 5]) (g := tgSub 2 (.b 3)) (pf_bin op_addA vok_add (po_t (pf_callB call_len_seq vok_len (by rfl) T.z_len PySem.boot_len (paf_cons (o := .b 0) (po_b (pv 0)) paf_nil))) (po_b (pv 5))) (pgf_sub (k := 2) (oi := .b 3) (pv 2) (po_b (pv 3))))))
      (psf_one (psf_ret (pf_tup (paf_cons (o := .t (opF lenD [.b 0])) (po_t (pf_callB call_len_seq vok_len (by rfl) T.z_len PySem.boot_len (paf_cons (o := .b 0) (po_b (pv 0)) paf_nil))) (paf_cons (o := .t (opF lenD [.b 1])) (po_t (pf_callB call_len_seq vok_len (by rfl) T.z_len PySem.boot_len (paf_cons (o := .b 1) (po_b (pv 1)) paf_nil))) (paf_cons (o := .t (opF tupleD [.t (opF addD [.b 2, .b 1])])) (po_t (pf_callTy call_tuple_of vok_tuple (by rfl) T.z_tuple boot_tuple (paf_cons (o := .t (opF addD [.b 2, .b 1])) (po_t (pf_bin op_addA vok_add (po_b (pv 2)) (po_b (pv 1)))) paf_nil))) paf_nil))))))))
theorem ok_p_rows_of_signs (T : Tx K mg) : FnOk P w K mg base CX0 1 T.f_p_rows_of_signs T.fd_p_rows_of_signs ["n", "k"] (spOf K fn_p_rows_of_signs) := by
  unfold fn_p_rows_of_signs
  refine fn_ok (k := 0) (x := "rows_of_signs") (qual := "rows_of_signs") (st := s_p_rows_of_signs) (N := ["n", "k", "rows", "left", "longer", "row", "height", "sign", "_"]) (ps := ["n", "k"]) (pins := [true, true]) (fb := F_p_rows_of_signs) T.F_p_rows_of_signs sc_p_rows_of_signs rfl (by decide) ?_
  intro cdv A outer s H E hr
  unfold F_p_rows_of_signs
  exact psf_cons (f := asgF (lstF [.t (tupF [.t (tupF []), .t (litF (.int 0))])]) (tgN 2)) (psf_set (i := 2) sc_p_rows_of_signs.nd rfl (by first | exact .inl rfl | exact .inr rfl) (by decide) (pf_lst (paf_cons (o := .t (tupF [.t (tupF []), .t (litF (.int 0))])) (po_t (pf_tup (paf_cons (o := .t (tupF [])) (po_t (pf_tup paf_nil)) (paf_cons (o := .t (litF (.int 0))) (po_t (pf_int)) paf_nil)))) paf_nil)))
      (psf_cons (f := forF (itRg rng3D [.t (opF subD [.b 0, .t (litF (.int 1))]), .t (opF negD [.t (litF (.int 1))]), .t (opF negD [.t (litF (.int 1))])]) (tgN 3) (seqF (asgF (lstF []) (tgN 4)) <|
      seqF (forF (itSeq (varF 2)) (tgT 2 (tgCons (tgN 5) (tgCons (tgN 6) (tgNil)))) (forF (itSeq (tupF [.t (litF (.int 1)), .t (opF negD [.t (litF (.int 1))])])) (tgN 7) (ifF (andF (bT (opF (geD) [.t (opF addD [.b 6, .b 7]), .t (litF (.int 0))])) (bT (opF (leD) [.t (opF absD [.t (opF subD [.t (opF addD [.b 6, .b 7]), .b 1])]), .b 3]))) (dropF (mutF 4 appD [.t (tupF [.t (opF addD [.b 5, .t (tupF [.t (varF 7)])]), .t (opF addD [.b 6, .b 7])])])) (passF)))) <|
      asgF (varF 4) (tgN 2))) (psf_for (fi := itRg rng3D [.t (opF subD [.b 0, .t (litF (.int 1))]), .t (opF negD [.t (litF (.int 1))]), .t (opF negD [.t (litF (.int 1))])]) (g := tgN 3) PassesOwn.never rfl (pif_rng3 (by rfl) T.z_range (paf_cons (o := .t (opF subD [.b 0, .t (litF (.int 1))])) (po_t (pf_bin op_sub vok_sub (po_b (pv 0)) (po_t (pf_int)))) (paf_cons (o := .t (opF negD [.t (litF (.int 1))])) (po_t (pf_un un_neg vok_neg (po_t (pf_int)))) (paf_cons (o := .t (opF negD [.t (litF (.int 1))])) (po_t (pf_un un_neg vok_neg (po_t (pf_int)))) paf_nil)))) (pgf_name (i := 3) sc_p_rows_of_signs.nd rfl (by first | exact .inl rfl | exact .inr rfl) (by decide)) (psf_cons (f := asgF (lstF []) (tgN 4)) (psf_set (i := 4) sc_p_rows_of_signs.nd rfl (by first | exact .inl rfl | exact .inr rfl) (by decide) (pf_lst paf_nil))
      (psf_cons (f := forF (itSeq (varF 2)) (tgT 2 (tgCons (tgN 5) (tgCons (tgN 6) (tgNil)))) (forF (itSeq (tupF [.t (litF (.int 1)), .t (opF negD [.t (litF (.int 1))])])) (tgN 7) (ifF (andF (bT (opF (geD) [.t (opF addD [.b 6, .b 7]), .t (litF (.int 0))])) (bT (opF (leD) [.t (opF absD [.t (opF subD [.t (opF addD [.b 6, .b 7]), .b 1])]), .b 3]))) (dropF (mutF 4 appD [.t (tupF [.t (opF addD [.b 5, .t (tupF [.t (varF 7)])]), .t (opF addD [.b 6, .b 7])])])) (passF)))) (psf_for (fi := itSeq (varF 2)) (g := tgT 2 (tgCons (tgN 5) (tgCons (tgN 6) (tgNil)))) PassesOwn.never rfl (pif_seq (pf_var (pv 2))) (pgf_tup rfl (pgsf_cons (pgf_name (i := 5) sc_p_rows_of_signs.nd rfl (by first | exact .inl rfl | exact .inr rfl) (by decide)) (pgsf_cons (pgf_name (i := 6) sc_p_rows_of_signs.nd rfl (by first | exact .inl rfl | exact .inr rfl) (by decide)) (pgsf_nil)))) (psf_one (psf_for (fi := itSeq (tupF [.t (litF (.int 1)), .t (opF negD [.t (litF (.int 1))])])) (g := tgN 7) PassesOwn.never rfl (pif_seq (pf_tup (paf_cons (o := .t (litF (.int 1))) (po_t (pf_int)) (paf_cons (o := .t (opF negD [.t (litF (.int 1))])) (po_t (pf_un un_neg vok_neg (po_t (pf_int)))) paf_nil)))) (pgf_name (i := 7) sc_p_rows_of_signs.nd rfl (by first | exact .inl rfl | exact .inr rfl) (by decide)) (psf_one (psf_if (fc := andF (bT (opF (geD) [.t (opF addD [.b 6, .b 7]), .t (litF (.int 0))])) (bT (opF (leD) [.t (opF absD [.t (opF subD [.t (opF addD [.b 6, .b 7]), .b 1])]), .b 3]))) ((pwf_and (pt_cmpf op_ge vok_ge (po_t (pf_bin op_addA vok_add (po_b (pv 6)) (po_b (pv 7)))) (po_t (pf_int)) (nomark _)) (pwf_and1 (pt_cmpf op_le vok_le (po_t (pf_callB call_abs vok_abs (by rfl) T.z_abs boot_abs (paf_cons (o := .t (opF subD [.t (opF addD [.b 6, .b 7]), .b 1])) (po_t (pf_bin op_sub vok_sub (po_t (pf_bin op_addA vok_add (po_b (pv 6)) (po_b (pv 7)))) (po_b (pv 1)))) paf_nil))) (po_b (pv 3)) (nomark _)))).pt) (psf_one (psf_expr (pf_append (i := 4) (pv 4) (paf_cons (o := .t (tupF [.t (opF addD [.b 5, .t (tupF [.t (varF 7)])]), .t (opF addD [.b 6, .b 7])])) (po_t (pf_tup (paf_cons (o := .t (opF addD [.b 5, .t (tupF [.t (varF 7)])])) (po_t (pf_bin op_addA vok_add (po_b (pv 5)) (po_t (pf_tup (paf_cons (o := .t (varF 7)) (po_t (pf_var (pv 7))) paf_nil))))) (paf_cons (o := .t (opF addD [.b 6, .b 7])) (po_t (pf_bin op_addA vok_add (po_b (pv 6)) (po_b (pv 7)))) paf_nil)))) paf_nil)))) (psf_nil))))))
      (psf_one (psf_set (i := 2) sc_p_rows_of_signs.nd rfl (by first | exact .inl rfl | exact .inr rfl) (by decide) (pf_var (pv 4)))))))
      (psf_one (psf_ret (pf_lc (own := [("row", 5), ("_", 8)]) (fi := itSeq (varF 2)) (fg := tgT 2 (tgCons (tgN 5) (tgCons (tgN 8) (tgNil)))) (ft := yesF) (fe := varF 5) rfl sc_p_rows_of_signs.nd (pif_seq (pf_var (pv 2))) (blkOk_by (own := [("row", 5), ("_", 8)]) (by rfl)) (fun _ _ _ _ _ => pgf_tup rfl (pgsf_cons (pgf_name (i := 5) sc_p_rows_of_signs.nd rfl (by first | exact .inl rfl | exact .inr rfl) (by decide)) (pgsf_cons (pgf_name (i := 8) sc_p_rows_of_signs.nd rfl (by first | exact .inl rfl | exact .inr rfl) (by decide)) (pgsf_nil)))) (fun _ _ _ _ _ => ptsf_nil) (fun _ _ _ _ _ => pf_var (pv 5))))))
theorem ok_p_half_mats (T : Tx K mg) : FnOk P w K mg base CX0 3 T.f_p_half_mats T.fd_p_half_mats ["n", "k"] (spOf K fn_p_half_mats) := by
  unfold fn_p_half_mats
  refine fn_ok (k := 2) (x := "half_mats") (qual := "half_mats") (st := s_p_half_mats) (N := ["n", "k", "row"]) (ps := ["n", "k"]) (pins := [true, true]) (fb := F_p_half_mats) T.F_p_half_mats sc_p_half_mats rfl (by decide) ?_
  intro cdv A outer s H E hr
  unfold F_p_half_mats
  exact psf_cons (f := dropF (callF fn_p_check_halves [.b 0, .b 1])) (psf_expr (pf_call (ok_p_check_halves T) (hr.mono (by decide)) (by rfl) T.g_p_check_halves T.F_p_check_halves.kp T.b_p_check_halves (paf_cons (o := .b 0) (po_b (pv 0)) (paf_cons (o := .b 1) (po_b (pv 1)) paf_nil))))
      (psf_one (psf_ret (pf_callB (cr_sortedM (units65 hr)) vok_sortedM (by rfl) T.z_sorted (by decide +kernel) (paf_cons (o := .t (lcF [2] (itSeq (callF fn_p_rows_of_signs [.b 0, .b 1])) (tgN 2) (yesF) (callF fn_p_half_of_signs [.b 2]))) (po_t (pf_lc (own := [("row", 2)]) (fi := itSeq (callF fn_p_rows_of_signs [.b 0, .b 1])) (fg := tgN 2) (ft := yesF) (fe := callF fn_p_half_of_signs [.b 2]) rfl sc_p_half_mats.nd (pif_seq (pf_call (ok_p_rows_of_signs T) (hr.mono (by decide)) (by rfl) T.g_p_rows_of_signs T.F_p_rows_of_signs.kp T.b_p_rows_of_signs (paf_cons (o := .b 0) (po_b (pv 0)) (paf_cons (o := .b 1) (po_b (pv 1)) paf_nil)))) (blkOk_by (own := [("row", 2)]) (by rfl)) (fun _ _ _ _ _ => pgf_name (i := 2) sc_p_half_mats.nd rfl (by first | exact .inl rfl | exact .inr rfl) (by decide)) (fun _ _ _ _ _ => ptsf_nil) (fun _ _ _ _ _ => pf_call (ok_p_half_of_signs T) (hr.mono (by decide)) (by rfl) T.g_p_half_of_signs T.F_p_half_of_signs.kp T.b_p_half_of_signs (paf_cons (o := .b 2) (po_b (pv 2)) paf_nil)))) paf_nil))))
theorem ok_p_how_many_halves (T : Tx K mg) : FnOk P w K mg base CX0 3 T.f_p_how_many_halves T.fd_p_how_many_halves ["n", "k"] (spOf K fn_p_how_many_halves) := by
  unfold fn_p_how_many_halves
  refine fn_ok (k := 2) (x := "how_many_halves") (qual := "how_many_halves") (st := s_p_how_many_halves) (N := ["n", "k", "falls", "found"]) (ps := ["n", "k"]) (pins := [true, true]) (fb := F_p_how_many_halves) T.F_p_how_many_halves sc_p_how_many_halves rfl (by decide) ?_
  intro cdv A outer s H E hr
  unfold F_p_how_many_halves
  exact psf_cons (f := dropF (callF fn_p_check_halves [.b 0, .b 1])) (psf_expr (pf_call (ok_p_check_halves T) (hr.mono (by decide)) (by rfl) T.g_p_check_halves T.F_p_check_halves.kp T.b_p_check_halves (paf_cons (o := .b 0) (po_b (pv 0)) (paf_cons (o := .b 1) (po_b (pv 1)) paf_nil))))
      (psf_cons (f := asgF (opF fdivD [.t (opF subD [.b 0, .b 1]), .t (litF (.int 2))]) (tgN 2)) (psf_set (i := 2) sc_p_how_many_halves.nd rfl (by first | exact .inl rfl | exact .inr rfl) (by decide) (pf_bin op_fdivA vok_fdiv (po_t (pf_bin op_sub vok_sub (po_b (pv 0)) (po_b (pv 1)))) (po_t (pf_int))))
      (psf_cons (f := asgF (opF combD [.b 0, .b 2]) (tgN 3)) (psf_set (i := 3) sc_p_how_many_halves.nd rfl (by first | exact .inl rfl | exact .inr rfl) (by decide) (pf_comb (by rfl) T.gm_comb (paf_cons (o := .b 0) (po_b (pv 0)) (paf_cons (o := .b 2) (po_b (pv 2)) paf_nil))))
      (psf_cons (f := ifF (bT (opF (gtD) [.b 2, .t (litF (.int 0))])) (augF 3 isubD (.t (opF combD [.b 0, .t (opF subD [.b 2, .t (litF (.int 1))])]))) (passF)) (psf_if (fc := bT (opF (gtD) [.b 2, .t (litF (.int 0))])) (pt_cmpf op_gt vok_gt (po_b (pv 2)) (po_t (pf_int)) (nomark _)) (psf_one (psf_aug (i := 3) (o := .t (opF combD [.b 0, .t (opF subD [.b 2, .t (litF (.int 1))])])) sc_p_how_many_halves.nd rfl (by first | exact .inl rfl | exact .inr rfl) (by decide) (po_t (pf_comb (by rfl) T.gm_comb (paf_cons (o := .b 0) (po_b (pv 0)) (paf_cons (o := .t (opF subD [.b 2, .t (litF (.int 1))])) (po_t (pf_bin op_sub vok_sub (po_b (pv 2)) (po_t (pf_int)))) paf_nil)))) ip_sub vok_isub)) (psf_nil))
      (psf_one (psf_ret (pf_mov (pv 3)))))))
theorem ok_p_round_of (T : Tx K mg) : FnOk P w K mg base CX0 1 T.f_p_round_of T.fd_p_round_of ["n", "m"] (spOf K fn_p_round_of) := by
  unfold fn_p_round_of
  refine fn_ok (k := 0) (x := "round_of") (qual := "round_of") (st := s_p_round_of) (N := ["n", "m"]) (ps := ["n", "m"]) (pins := [true, true]) (fb := F_p_round_of) T.F_p_round_of sc_p_round_of rfl (by decide) ?_
  intro cdv A outer s H E hr
  unfold F_p_round_of
  exact psf_one (psf_ret (pf_bin op_addA vok_add (po_t (pf_lrg1 rfl (by rfl) T.z_list (by rfl) T.z_range (paf_cons (o := .b 0) (po_b (pv 0)) paf_nil))) (po_t (pf_lrg3 rfl (by rfl) T.z_list (by rfl) T.z_range (paf_cons (o := .t (opF subD [.t (opF addD [.b 0, .b 1]), .t (litF (.int 1))])) (po_t (pf_bin op_sub vok_sub (po_t (pf_bin op_addA vok_add (po_b (pv 0)) (po_b (pv 1)))) (po_t (pf_int)))) (paf_cons (o := .t (opF subD [.b 0, .t (litF (.int 1))])) (po_t (pf_bin op_sub vok_sub (po_b (pv 0)) (po_t (pf_int)))) (paf_cons (o := .t (opF negD [.t (litF (.int 1))])) (po_t (pf_un un_neg vok_neg (po_t (pf_int)))) paf_nil)))))))
theorem ok_p_is_mat (T : Tx K mg) : FnOk P w K mg base CX0 2 T.f_p_is_mat T.fd_p_is_mat ["told"] (spOf K fn_p_is_mat) := by
  unfold fn_p_is_mat
  refine fn_ok (k := 1) (x := "is_mat") (qual := "is_mat") (st := s_p_is_mat) (N := ["told", "n", "m", "mates", "many", "peg", "mate", "waiting"]) (ps := ["told"]) (pins := [true]) (fb := F_p_is_mat) T.F_p_is_mat sc_p_is_mat rfl (by decide) ?_
  intro cdv A outer s H E hr
  unfold F_p_is_mat
  exact psf_cons (f := asgF (varF 0) (tgT 3 (tgCons (tgN 1) (tgCons (tgN 2) (tgCons (tgN 3) (tgNil)))))) (psf_asg (f := varF 0) (g := tgT 3 (tgCons (tgN 1) (tgCons (tgN 2) (tgCons (tgN 3) (tgNil))))) (pf_var (pv 0)) (pgf_tup rfl (pgsf_cons (pgf_name (i := 1) sc_p_is_mat.nd rfl (by first | exact .inl rfl | exact .inr rfl) (by decide)) (pgsf_cons (pgf_name (i := 2) sc_p_is_mat.nd rfl (by first | exact .inl rfl | exact .inr rfl) (by decide)) (pgsf_cons (pgf_name (i := 3) sc_p_is_mat.nd rfl (by first | exact .inl rfl | exact .inr rfl) (by decide)) (pgsf_nil))))))
      (psf_cons (f := asgF (opF lenD [.b 3]) (tgN 4)) (psf_set (i := 4) sc_p_is_mat.nd rfl (by first | exact .inl rfl | exact .inr rfl) (by decide) (pf_callB call_len_seq vok_len (by rfl) T.z_len PySem.boot_len (paf_cons (o := .b 3) (po_b (pv 3)) paf_nil)))
      (psf_cons (f := ifF (orF (bT (opF (ltD) [.b 1, .t (litF (.int 0))])) (orF (bT (opF (ltD) [.b 2, .t (litF (.int 0))])) (orF (bT (opF (neD) [.t (opF addD [.b 1, .b 2]), .b 4])) (bT (opF (eqD) [.b 4, .t (litF (.int 0))]))))) (retF (litF (.bl false))) (passF)) (psf_if (fc := orF (bT (opF (ltD) [.b 1, .t (litF (.int 0))])) (orF (bT (opF (ltD) [.b 2, .t (litF (.int 0))])) (orF (bT (opF (neD) [.t (opF addD [.b 1, .b 2]), .b 4])) (bT (opF (eqD) [.b 4, .t (litF (.int 0))]))))) ((pwf_or (pt_cmpf op_lt vok_lt (po_b (pv 1)) (po_t (pf_int)) (nomark _)) (pwf_or (pt_cmpf op_lt vok_lt (po_b (pv 2)) (po_t (pf_int)) (nomark _)) (pwf_or (pt_cmpf (op_neD hr.units) vok_ne (po_t (pf_bin op_addA vok_add (po_b (pv 1)) (po_b (pv 2)))) (po_b (pv 4)) (nomark _)) (pwf_or1 (pt_cmpf (op_eqD hr.units) vok_eq (po_b (pv 4)) (po_t (pf_int)) (nomark _)))))).pt) (psf_one (psf_ret (pf_bl))) (psf_nil))
      (psf_cons (f := forF (itEnum (varF 3)) (tgT 2 (tgCons (tgN 5) (tgCons (tgN 6) (tgNil)))) (ifF (orF (bT (opF (ltD) [.b 6, .t (litF (.int 0))])) (orF (bT (opF (geD) [.b 6, .b 4])) (orF (bT (opF (eqD) [.b 6, .b 5])) (bT (opF (neD) [.t (opF ixD [.b 3, .b 6]), .b 5]))))) (retF (litF (.bl false))) (passF))) (psf_for (fi := itEnum (varF 3)) (g := tgT 2 (tgCons (tgN 5) (tgCons (tgN 6) (tgNil)))) PassesOwn.never rfl (pif_enum (by rfl) T.z_enumerate (pf_var (pv 3))) (pgf_tup rfl (pgsf_cons (pgf_name (i := 5) sc_p_is_mat.nd rfl (by first | exact .inl rfl | exact .inr rfl) (by decide)) (pgsf_cons (pgf_name (i := 6) sc_p_is_mat.nd rfl (by first | exact .inl rfl | exact .inr rfl) (by decide)) (pgsf_nil)))) (psf_one (psf_if (fc := orF (bT (opF (ltD) [.b 6, .t (litF (.int 0))])) (orF (bT (opF (geD) [.b 6, .b 4])) (orF (bT (opF (eqD) [.b 6, .b 5])) (bT (opF (neD) [.t (opF ixD [.b 3, .b 6]), .b 5]))))) ((pwf_or (pt_cmpf op_lt vok_lt (po_b (pv 6)) (po_t (pf_int)) (nomark _)) (pwf_or (pt_cmpf op_ge vok_ge (po_b (pv 6)) (po_b (pv 4)) (nomark _)) (pwf_or (pt_cmpf (op_eqD hr.units) vok_eq (po_b (pv 6)) (po_b (pv 5)) (nomark _)) (pwf_or1 (pt_cmpf (op_neD hr.units) vok_ne (po_t (pf_ix ix_seq vok_ix (po_b (pv 3)) (po_b (pv 6)) (fun _ _ => rfl))) (po_b (pv 5)) (nomark _)))))).pt) (psf_one (psf_ret (pf_bl))) (psf_nil))))
      (psf_cons (f := asgF (lstF []) (tgN 7)) (psf_set (i := 7) sc_p_is_mat.nd rfl (by first | exact .inl rfl | exact .inr rfl) (by decide) (pf_lst paf_nil))
      (psf_cons (f := forF (itSeq (callF fn_p_round_of [.b 1, .b 2])) (tgN 5) (ifF (andF (bT (opF (neD) [.b 7, .t (lstF [])])) (bT (opF (eqD) [.t (opF ixD [.b 7, .t (opF negD [.t (litF (.int 1))])]), .t (opF ixD [.b 3, .b 5])]))) (dropF (mutF 7 popD [])) (dropF (mutF 7 appD [.t (varF 5)])))) (psf_for (fi := itSeq (callF fn_p_round_of [.b 1, .b 2])) (g := tgN 5) PassesOwn.never rfl (pif_seq (pf_call (ok_p_round_of T) (hr.mono (by decide)) (by rfl) T.g_p_round_of T.F_p_round_of.kp T.b_p_round_of (paf_cons (o := .b 1) (po_b (pv 1)) (paf_cons (o := .b 2) (po_b (pv 2)) paf_nil)))) (pgf_name (i := 5) sc_p_is_mat.nd rfl (by first | exact .inl rfl | exact .inr rfl) (by decide)) (psf_one (psf_if (fc := andF (bT (opF (neD) [.b 7, .t (lstF [])])) (bT (opF (eqD) [.t (opF ixD [.b 7, .t (opF negD [.t (litF (.int 1))])]), .t (opF ixD [.b 3, .b 5])]))) ((pwf_and (pt_cmpf (op_neD hr.units) vok_ne (po_b (pv 7)) (po_t (pf_lst paf_nil)) (nomark _)) (pwf_and1 (pt_cmpf (op_eqD hr.units) vok_eq (po_t (pf_ix ix_seq vok_ix (po_b (pv 7)) (po_t (pf_un un_neg vok_neg (po_t (pf_int)))) (fun _ _ => rfl))) (po_t (pf_ix ix_seq vok_ix (po_b (pv 3)) (po_b (pv 5)) (fun _ _ => rfl))) (nomark _)))).pt) (psf_one (psf_expr (pf_pop (i := 7) (pv 7)))) (psf_one (psf_expr (pf_append (i := 7) (pv 7) (paf_cons (o := .t (varF 5)) (po_t (pf_var (pv 5))) paf_nil)))))))
      (psf_one (psf_ret (pf_cmp (op_eqD hr.units) vok_eq (po_b (pv 7)) (po_t (pf_lst paf_nil)) (nomark _)))))))))
theorem ok_p_checked_mat (T : Tx K mg) : FnOk P w K mg base CX0 3 T.f_p_checked_mat T.fd_p_checked_mat ["mat"] (spOf K fn_p_checked_mat) := by
  unfold fn_p_checked_mat
  refine fn_ok (k := 2) (x := "checked_mat") (qual := "checked_mat") (st := s_p_checked_mat) (N := ["mat"]) (ps := ["mat"]) (pins := [true]) (fb := F_p_checked_mat) T.F_p_checked_mat sc_p_checked_mat rfl (by decide) ?_
  intro cdv A outer s H E hr
  unfold F_p_checked_mat
  exact psf_cons (f := ifF (notF (tstF (.t (callF fn_p_is_mat [.b 0])))) (neverF) (passF)) (psf_if (fc := notF (tstF (.t (callF fn_p_is_mat [.b 0])))) (ptf_not (pt_tst (o := .t (callF fn_p_is_mat [.b 0])) (po_t (pf_call (ok_p_is_mat T) (hr.mono (by decide)) (by rfl) T.g_p_is_mat T.F_p_is_mat.kp T.b_p_is_mat (paf_cons (o := .b 0) (po_b (pv 0)) paf_nil))))) (psf_one (psf_never)) (psf_nil))
      (psf_one (psf_ret (pf_var (pv 0))))
theorem ok_p_through (T : Tx K mg) : FnOk P w K mg base CX0 4 T.f_p_through T.fd_p_through ["mat"] (spOf K fn_p_through) := by
  unfold fn_p_through
  refine fn_ok (k := 3) (x := "through") (qual := "through") (st := s_p_through) (N := ["mat", "n", "m", "mates", "mate"]) (ps := ["mat"]) (pins := [true]) (fb := F_p_through) T.F_p_through sc_p_through rfl (by decide) ?_
  intro cdv A outer s H E hr
  unfold F_p_through
  exact psf_cons (f := asgF (callF fn_p_checked_mat [.b 0]) (tgT 3 (tgCons (tgN 1) (tgCons (tgN 2) (tgCons (tgN 3) (tgNil)))))) (psf_asg (f := callF fn_p_checked_mat [.b 0]) (g := tgT 3 (tgCons (tgN 1) (tgCons (tgN 2) (tgCons (tgN 3) (tgNil))))) (pf_call (ok_p_checked_mat T) (hr.mono (by decide)) (by rfl) T.g_p_checked_mat T.F_p_checked_mat.kp T.b_p_checked_mat (paf_cons (o := .b 0) (po_b (pv 0)) paf_nil)) (pgf_tup rfl (pgsf_cons (pgf_name (i := 1) sc_p_through.nd rfl (by first | exact .inl rfl | exact .inr rfl) (by decide)) (pgsf_cons (pgf_name (i := 2) sc_p_through.nd rfl (by first | exact .inl rfl | exact .inr rfl) (by decide)) (pgsf_cons (pgf_name (i := 3) sc_p_through.nd rfl (by first | exact .inl rfl | exact .inr rfl) (by decide)) (pgsf_nil))))))
      (psf_one (psf_ret (pf_callB call_len_seq vok_len (by rfl) T.z_len PySem.boot_len (paf_cons (o := .t (lcF [4] (itSeq (opF (partD false true) [.b 3, .b 1])) (tgN 4) (bT (opF (geD) [.b 4, .b 1])) (varF 4))) (po_t (pf_lc (own := [("mate", 4)]) (fi := itSeq (opF (partD false true) [.b 3, .b 1])) (fg := tgN 4) (ft := bT (opF (geD) [.b 4, .b 1])) (fe := varF 4) rfl sc_p_through.nd (pif_seq (pf_slH (po_b (pv 3)) (po_b (pv 1)))) (blkOk_by (own := [("mate", 4)]) (by rfl)) (fun _ _ _ _ _ => pgf_name (i := 4) sc_p_through.nd rfl (by first | exact .inl rfl | exact .inr rfl) (by decide)) (fun _ _ _ _ _ => ptsf_one (pt_cmpf op_ge vok_ge (po_b (pv 4)) (po_b (pv 1)) (nomark _))) (fun _ _ _ _ _ => pf_var (pv 4)))) paf_nil))))
theorem ok_p_check_half (T : Tx K mg) : FnOk P w K mg base CX0 5 T.f_p_check_half T.fd_p_check_half ["mat"] (spOf K fn_p_check_half) := by
  unfold fn_p_check_half
  refine fn_ok (k := 4) (x := "check_half") (qual := "check_half") (st := s_p_check_half) (N := ["mat"]) (ps := ["mat"]) (pins := [true]) (fb := F_p_check_half) T.F_p_check_half sc_p_check_half rfl (by decide) ?_
  intro cdv A outer s H E hr
  unfold F_p_check_half
  exact psf_one (psf_if (fc := bT (opF (neD) [.t (callF fn_p_through [.t (callF fn_p_checked_mat [.b 0])]), .t (opF ixD [.b 0, .t (litF (.int 1))])])) (pt_cmpf (op_neD hr.units) vok_ne (po_t (pf_call (ok_p_through T) (hr.mono (by decide)) (by rfl) T.g_p_through T.F_p_through.kp T.b_p_through (paf_cons (o := .t (callF fn_p_checked_mat [.b 0])) (po_t (pf_call (ok_p_checked_mat T) (hr.mono (by decide)) (by rfl) T.g_p_checked_mat T.F_p_checked_mat.kp T.b_p_checked_mat (paf_cons (o := .b 0) (po_b (pv 0)) paf_nil))) paf_nil))) (po_t (pf_ix ix_seq vok_ix (po_b (pv 0)) (po_t (pf_int)) (fun _ _ => rfl))) (nomark _)) (psf_one (psf_never)) (psf_nil))
theorem ok_p_check_pair (T : Tx K mg) : FnOk P w K mg base CX0 1 T.f_p_check_pair T.fd_p_check_pair ["above", "below"] (spOf K fn_p_check_pair) := by
  unfold fn_p_check_pair
  refine fn_ok (k := 0) (x := "check_pair") (qual := "check_pair") (st := s_p_check_pair) (N := ["above", "below"]) (ps := ["above", "below"]) (pins := [true, true]) (fb := F_p_check_pair) T.F_p_check_pair sc_p_check_pair rfl (by decide) ?_
  intro cdv A outer s H E hr
  unfold F_p_check_pair
  exact psf_one (psf_if (fc := bT (opF (neD) [.b 0, .b 1])) (pt_cmpf (op_neD hr.units) vok_ne (po_b (pv 0)) (po_b (pv 1)) (nomark _)) (psf_one (psf_never)) (psf_nil))
theorem ok_p_far_end (T : Tx K mg) : FnOk P w K mg base CX0 1 T.f_p_far_end T.fd_p_far_end ["one", "other", "peg", "passed"] (spOf K fn_p_far_end) := by
  unfold fn_p_far_end
  refine fn_ok (k := 0) (x := "far_end") (qual := "far_end") (st := s_p_far_end) (N := ["one", "other", "peg", "passed", "n", "middle", "ahead", "at"]) (ps := ["one", "other", "peg", "passed"]) (pins := [true, true, true, true]) (fb := F_p_far_end) T.F_p_far_end sc_p_far_end rfl (by decide) ?_
  intro cdv A outer s H E hr
  unfold F_p_far_end
  exact psf_cons (f := parF [4, 5] [.t (opF ixD [.b 0, .t (litF (.int 0))]), .t (opF ixD [.b 0, .t (litF (.int 1))])]) (psf_par2 (i := 4) (j := 5) rfl sc_p_far_end.nd rfl rfl  (by decide)  (by decide) rfl rfl  (paf_cons (o := .t (opF ixD [.b 0, .t (litF (.int 0))])) (po_t (pf_ix ix_seq vok_ix (po_b (pv 0)) (po_t (pf_int)) (fun _ _ => rfl))) (paf_cons (o := .t (opF ixD [.b 0, .t (litF (.int 1))])) (po_t (pf_ix ix_seq vok_ix (po_b (pv 0)) (po_t (pf_int)) (fun _ _ => rfl))) paf_nil)) rfl)
      (psf_cons (f := asgF (opF (ltD) [.b 2, .b 4]) (tgN 6)) (psf_set (i := 6) sc_p_far_end.nd rfl (by first | exact .inl rfl | exact .inr rfl) (by decide) (pf_cmp op_lt vok_lt (po_b (pv 2)) (po_b (pv 4)) (nomark _)))
      (psf_cons (f := asgF (ifE (tstF (.b 6)) (opF ixD [.t (opF ixD [.b 0, .t (litF (.int 2))]), .b 2]) (opF ixD [.t (opF ixD [.b 1, .t (litF (.int 2))]), .t (opF subD [.t (opF addD [.b 5, .b 2]), .b 4])])) (tgN 7)) (psf_set (i := 7) sc_p_far_end.nd rfl (by first | exact .inl rfl | exact .inr rfl) (by decide) (pf_if (pt_tst (o := .b 6) (po_b (pv 6))) (pf_ix ix_seq vok_ix (po_t (pf_ix ix_seq vok_ix (po_b (pv 0)) (po_t (pf_int)) (fun _ _ => rfl))) (po_b (pv 2)) (fun _ _ => rfl)) (pf_ix ix_seq vok_ix (po_t (pf_ix ix_seq vok_ix (po_b (pv 1)) (po_t (pf_int)) (fun _ _ => rfl))) (po_t (pf_bin op_sub vok_sub (po_t (pf_bin op_addA vok_add (po_b (pv 5)) (po_b (pv 2)))) (po_b (pv 4)))) (fun _ _ => rfl))))
      (psf_one (psf_while (fc := tstF (.t (litF (.bl true)))) FUEL PassesOwn.never (pt_tst (o := .t (litF (.bl true))) (po_t (pf_bl))) (psf_cons (f := ifF (tstF (.b 6)) (seqF (ifF (bT (opF (ltD) [.b 7, .b 4])) (retF (movF 7)) (passF)) <|
      seqF (augF 7 isubD (.b 4)) <|
      seqF (asgF (litF (.bl true)) (tgSub 3 (.b 7))) <|
      asgF (opF ixD [.t (opF ixD [.b 1, .t (litF (.int 2))]), .b 7]) (tgN 7)) (seqF (ifF (bT (opF (geD) [.b 7, .b 5])) (retF (opF subD [.t (opF addD [.b 4, .b 7]), .b 5])) (passF)) <|
      seqF (asgF (litF (.bl true)) (tgSub 3 (.b 7))) <|
      asgF (opF ixD [.t (opF ixD [.b 0, .t (litF (.int 2))]), .t (opF addD [.b 4, .b 7])]) (tgN 7))) (psf_if (fc := tstF (.b 6)) (pt_tst (o := .b 6) (po_b (pv 6))) (psf_cons (f := ifF (bT (opF (ltD) [.b 7, .b 4])) (retF (movF 7)) (passF)) (psf_if (fc := bT (opF (ltD) [.b 7, .b 4])) (pt_cmpf op_lt vok_lt (po_b (pv 7)) (po_b (pv 4)) (nomark _)) (psf_one (psf_ret (pf_mov (pv 7)))) (psf_nil))
      (psf_cons (f := augF 7 isubD (.b 4)) (psf_aug (i := 7) (o := .b 4) sc_p_far_end.nd rfl (by first | exact .inl rfl | exact .inr rfl) (by decide) (po_b (pv 4)) ip_sub vok_isub)
      (psf_cons (f := asgF (litF (.bl true)) (tgSub 3 (.b 7))) (psf_asg (f := litF (.bl true)) (g := tgSub 3 (.b 7)) (pf_bl) (pgf_sub (k := 3) (oi := .b 7) (pv 3) (po_b (pv 7))))
      (psf_one (psf_set (i := 7) sc_p_far_end.nd rfl (by first | exact .inl rfl | exact .inr rfl) (by decide) (pf_ix ix_seq vok_ix (po_t (pf_ix ix_seq vok_ix (po_b (pv 1)) (po_t (pf_int)) (fun _ _ => rfl))) (po_b (pv 7)) (fun _ _ => rfl))))))) (psf_cons (f := ifF (bT (opF (geD) [.b 7, .b 5])) (retF (opF subD [.t (opF addD [.b 4, .b 7]), .b 5])) (passF)) (psf_if (fc := bT (opF (geD) [.b 7, .b 5])) (pt_cmpf op_ge vok_ge (po_b (pv 7)) (po_b (pv 5)) (nomark _)) (psf_one (psf_ret (pf_bin op_sub vok_sub (po_t (pf_bin op_addA vok_add (po_b (pv 4)) (po_b (pv 7)))) (po_b (pv 5))))) (psf_nil))
      (psf_cons (f := asgF (litF (.bl true)) (tgSub 3 (.b 7))) (psf_asg (f := litF (.bl true)) (g := tgSub 3 (.b 7)) (pf_bl) (pgf_sub (k := 3) (oi := .b 7) (pv 3) (po_b (pv 7))))
      (psf_one (psf_set (i := 7) sc_p_far_end.nd rfl (by first | exact .inl rfl | exact .inr rfl) (by decide) (pf_ix ix_seq vok_ix (po_t (pf_ix ix_seq vok_ix (po_b (pv 0)) (po_t (pf_int)) (fun _ _ => rfl))) (po_t (pf_bin op_addA vok_add (po_b (pv 4)) (po_b (pv 7)))) (fun _ _ => rfl)))))))
      (psf_one (psf_set (i := 6) sc_p_far_end.nd rfl (by first | exact .inl rfl | exact .inr rfl) (by decide) (pf_not (pf_var (pv 6))))))))))
theorem ok_p_loose_rings (T : Tx K mg) : FnOk P w K mg base CX0 1 T.f_p_loose_rings T.fd_p_loose_rings ["one", "other", "passed"] (spOf K fn_p_loose_rings) := by
  unfold fn_p_loose_rings
  refine fn_ok (k := 0) (x := "loose_rings") (qual := "loose_rings") (st := s_p_loose_rings) (N := ["one", "other", "passed", "n", "rings", "start", "at"]) (ps := ["one", "other", "passed"]) (pins := [true, true, true]) (fb := F_p_loose_rings) T.F_p_loose_rings sc_p_loose_rings rfl (by decide) ?_
  intro cdv A outer s H E hr
  unfold F_p_loose_rings
  exact psf_cons (f := asgF (opF ixD [.b 0, .t (litF (.int 0))]) (tgN 3)) (psf_set (i := 3) sc_p_loose_rings.nd rfl (by first | exact .inl rfl | exact .inr rfl) (by decide) (pf_ix ix_seq vok_ix (po_b (pv 0)) (po_t (pf_int)) (fun _ _ => rfl)))
      (psf_cons (f := asgF (litF (.int 0)) (tgN 4)) (psf_set (i := 4) sc_p_loose_rings.nd rfl (by first | exact .inl rfl | exact .inr rfl) (by decide) (pf_int))
      (psf_cons (f := forF (itRg rng1D [.t (opF ixD [.b 0, .t (litF (.int 1))])]) (tgN 5) (ifF (notF (tstF (.t (opF ixD [.b 2, .b 5])))) (seqF (augF 4 iaddD (.t (litF (.int 1)))) <|
      seqF (asgF (varF 5) (tgN 6)) <|
      whF FUEL (notF (tstF (.t (opF ixD [.b 2, .b 6])))) (seqF (asgF (litF (.bl true)) (tgSub 2 (.b 6))) <|
      seqF (asgF (opF subD [.t (opF ixD [.t (opF ixD [.b 0, .t (litF (.int 2))]), .t (opF addD [.b 3, .b 6])]), .b 3]) (tgN 6)) <|
      seqF (asgF (litF (.bl true)) (tgSub 2 (.b 6))) <|
      asgF (opF ixD [.t (opF ixD [.b 1, .t (litF (.int 2))]), .b 6]) (tgN 6))) (passF))) (psf_for (fi := itRg rng1D [.t (opF ixD [.b 0, .t (litF (.int 1))])]) (g := tgN 5) PassesOwn.never rfl (pif_rng1 (by rfl) T.z_range (paf_cons (o := .t (opF ixD [.b 0, .t (litF (.int 1))])) (po_t (pf_ix ix_seq vok_ix (po_b (pv 0)) (po_t (pf_int)) (fun _ _ => rfl))) paf_nil)) (pgf_name (i := 5) sc_p_loose_rings.nd rfl (by first | exact .inl rfl | exact .inr rfl) (by decide)) (psf_one (psf_if (fc := notF (tstF (.t (opF ixD [.b 2, .b 5])))) (ptf_not (pt_tst (o := .t (opF ixD [.b 2, .b 5])) (po_t (pf_ix ix_seq vok_ix (po_b (pv 2)) (po_b (pv 5)) (fun _ _ => rfl))))) (psf_cons (f := augF 4 iaddD (.t (litF (.int 1)))) (psf_aug (i := 4) (o := .t (litF (.int 1))) sc_p_loose_rings.nd rfl (by first | exact .inl rfl | exact .inr rfl) (by decide) (po_t (pf_int)) ip_add vok_iadd)
      (psf_cons (f := asgF (varF 5) (tgN 6)) (psf_set (i := 6) sc_p_loose_rings.nd rfl (by first | exact .inl rfl | exact .inr rfl) (by decide) (pf_var (pv 5)))
      (psf_one (psf_while (fc := notF (tstF (.t (opF ixD [.b 2, .b 6])))) FUEL PassesOwn.never (ptf_not (pt_tst (o := .t (opF ixD [.b 2, .b 6])) (po_t (pf_ix ix_seq vok_ix (po_b (pv 2)) (po_b (pv 6)) (fun _ _ => rfl))))) (psf_cons (f := asgF (litF (.bl true)) (tgSub 2 (.b 6))) (psf_asg (f := litF (.bl true)) (g := tgSub 2 (.b 6)) (pf_bl) (pgf_sub (k := 2) (oi := .b 6) (pv 2) (po_b (pv 6))))
      (psf_cons (f := asgF (opF subD [.t (opF ixD [.t (opF ixD [.b 0, .t (litF (.int 2))]), .t (opF addD [.b 3, .b 6])]), .b 3]) (tgN 6)) (psf_set (i := 6) sc_p_loose_rings.nd rfl (by first | exact .inl rfl | exact .inr rfl) (by decide) (pf_bin op_sub vok_sub (po_t (pf_ix ix_seq vok_ix (po_t (pf_ix ix_seq vok_ix (po_b (pv 0)) (po_t (pf_int)) (fun _ _ => rfl))) (po_t (pf_bin op_addA vok_add (po_b (pv 3)) (po_b (pv 6)))) (fun _ _ => rfl))) (po_b (pv 3))))
      (psf_cons (f := asgF (litF (.bl true)) (tgSub 2 (.b 6))) (psf_asg (f := litF (.bl true)) (g := tgSub 2 (.b 6)) (pf_bl) (pgf_sub (k := 2) (oi := .b 6) (pv 2) (po_b (pv 6))))
      (psf_one (psf_set (i := 6) sc_p_loose_rings.nd rfl (by first | exact .inl rfl | exact .inr rfl) (by decide) (pf_ix ix_seq vok_ix (po_t (pf_ix ix_seq vok_ix (po_b (pv 1)) (po_t (pf_int)) (fun _ _ => rfl))) (po_b (pv 6)) (fun _ _ => rfl))))))))))) (psf_nil))))
      (psf_one (psf_ret (pf_mov (pv 4))))))
theorem ok_p_put_behind (T : Tx K mg) : FnOk P w K mg base CX0 2 T.f_p_put_behind T.fd_p_put_behind ["one", "other"] (spOf K fn_p_put_behind) := by
  unfold fn_p_put_behind
  refine fn_ok (k := 1) (x := "put_behind") (qual := "put_behind") (st := s_p_put_behind) (N := ["one", "other", "n", "k", "passed", "mates", "peg"]) (ps := ["one", "other"]) (pins := [true, true]) (fb := F_p_put_behind) T.F_p_put_behind sc_p_put_behind rfl (by decide) ?_
  intro cdv A outer s H E hr
  unfold F_p_put_behind
  exact psf_cons (f := parF [2, 3] [.t (opF ixD [.b 0, .t (litF (.int 0))]), .t (opF ixD [.b 1, .t (litF (.int 1))])]) (psf_par2 (i := 2) (j := 3) rfl sc_p_put_behind.nd rfl rfl  (by decide)  (by decide) rfl rfl  (paf_cons (o := .t (opF ixD [.b 0, .t (litF (.int 0))])) (po_t (pf_ix ix_seq vok_ix (po_b (pv 0)) (po_t (pf_int)) (fun _ _ => rfl))) (paf_cons (o := .t (opF ixD [.b 1, .t (litF (.int 1))])) (po_t (pf_ix ix_seq vok_ix (po_b (pv 1)) (po_t (pf_int)) (fun _ _ => rfl))) paf_nil)) rfl)
      (psf_cons (f := asgF (opF mulD [.t (lstF [.t (litF (.bl false))]), .t (opF ixD [.b 0, .t (litF (.int 1))])]) (tgN 4)) (psf_set (i := 4) sc_p_put_behind.nd rfl (by first | exact .inl rfl | exact .inr rfl) (by decide) (pf_bin op_mulA vok_mul (po_t (pf_lst (paf_cons (o := .t (litF (.bl false))) (po_t (pf_bl)) paf_nil))) (po_t (pf_ix ix_seq vok_ix (po_b (pv 0)) (po_t (pf_int)) (fun _ _ => rfl)))))
      (psf_cons (f := asgF (lstF []) (tgN 5)) (psf_set (i := 5) sc_p_put_behind.nd rfl (by first | exact .inl rfl | exact .inr rfl) (by decide) (pf_lst paf_nil))
      (psf_cons (f := forF (itRg rng1D [.t (opF addD [.b 2, .b 3])]) (tgN 6) (dropF (mutF 5 appD [.t (callF fn_p_far_end [.b 0, .b 1, .b 6, .b 4])]))) (psf_for (fi := itRg rng1D [.t (opF addD [.b 2, .b 3])]) (g := tgN 6) PassesOwn.never rfl (pif_rng1 (by rfl) T.z_range (paf_cons (o := .t (opF addD [.b 2, .b 3])) (po_t (pf_bin op_addA vok_add (po_b (pv 2)) (po_b (pv 3)))) paf_nil)) (pgf_name (i := 6) sc_p_put_behind.nd rfl (by first | exact .inl rfl | exact .inr rfl) (by decide)) (psf_one (psf_expr (pf_append (i := 5) (pv 5) (paf_cons (o := .t (callF fn_p_far_end [.b 0, .b 1, .b 6, .b 4])) (po_t (pf_call (ok_p_far_end T) (hr.mono (by decide)) (by rfl) T.g_p_far_end T.F_p_far_end.kp T.b_p_far_end (paf_cons (o := .b 0) (po_b (pv 0)) (paf_cons (o := .b 1) (po_b (pv 1)) (paf_cons (o := .b 6) (po_b (pv 6)) (paf_cons (o := .b 4) (po_b (pv 4)) paf_nil)))))) paf_nil)))))
      (psf_one (psf_ret (pf_tup (paf_cons (o := .t (callF fn_p_loose_rings [.b 0, .b 1, .b 4])) (po_t (pf_call (ok_p_loose_rings T) (hr.mono (by decide)) (by rfl) T.g_p_loose_rings T.F_p_loose_rings.kp T.b_p_loose_rings (paf_cons (o := .b 0) (po_b (pv 0)) (paf_cons (o := .b 1) (po_b (pv 1)) (paf_cons (o := .b 4) (po_b (pv 4)) paf_nil))))) (paf_cons (o := .t (movF 2)) (po_t (pf_mov (pv 2))) (paf_cons (o := .t (movF 3)) (po_t (pf_mov (pv 3))) (paf_cons (o := .t (opF tupleD [.b 5])) (po_t (pf_callTy call_tuple_of vok_tuple (by rfl) T.z_tuple boot_tuple (paf_cons (o := .b 5) (po_b (pv 5)) paf_nil))) paf_nil))))))))))
theorem ok_p_paired (T : Tx K mg) : FnOk P w K mg base CX0 3 T.f_p_paired T.fd_p_paired ["ahead", "other"] (spOf K fn_p_paired) := by
  unfold fn_p_paired
  refine fn_ok (k := 2) (x := "paired") (qual := "paired") (st := s_p_paired) (N := ["ahead", "other", "rings", "n", "m", "mates", "mate"]) (ps := ["ahead", "other"]) (pins := [true, true]) (fb := F_p_paired) T.F_p_paired sc_p_paired rfl (by decide) ?_
  intro cdv A outer s H E hr
  unfold F_p_paired
  exact psf_cons (f := asgF (callF fn_p_put_behind [.b 0, .b 1]) (tgT 4 (tgCons (tgN 2) (tgCons (tgN 3) (tgCons (tgN 4) (tgCons (tgN 5) (tgNil))))))) (psf_asg (f := callF fn_p_put_behind [.b 0, .b 1]) (g := tgT 4 (tgCons (tgN 2) (tgCons (tgN 3) (tgCons (tgN 4) (tgCons (tgN 5) (tgNil)))))) (pf_call (ok_p_put_behind T) (hr.mono (by decide)) (by rfl) T.g_p_put_behind T.F_p_put_behind.kp T.b_p_put_behind (paf_cons (o := .b 0) (po_b (pv 0)) (paf_cons (o := .b 1) (po_b (pv 1)) paf_nil))) (pgf_tup rfl (pgsf_cons (pgf_name (i := 2) sc_p_paired.nd rfl (by first | exact .inl rfl | exact .inr rfl) (by decide)) (pgsf_cons (pgf_name (i := 3) sc_p_paired.nd rfl (by first | exact .inl rfl | exact .inr rfl) (by decide)) (pgsf_cons (pgf_name (i := 4) sc_p_paired.nd rfl (by first | exact .inl rfl | exact .inr rfl) (by decide)) (pgsf_cons (pgf_name (i := 5) sc_p_paired.nd rfl (by first | exact .inl rfl | exact .inr rfl) (by decide)) (pgsf_nil)))))))
      (psf_cons (f := ifF (tstF (.t (opF allD [.t (lcF [6] (itSeq (opF (partD false true) [.b 5, .b 3])) (tgN 6) (yesF) (opF (geD) [.b 6, .b 3]))]))) (retF (opF addD [.t (opF mulTD [.t (tupF [.t (litF (.int 0))]), .b 2]), .t (tupF [.t (litF (.int 1))])])) (passF)) (psf_if (fc := tstF (.t (opF allD [.t (lcF [6] (itSeq (opF (partD false true) [.b 5, .b 3])) (tgN 6) (yesF) (opF (geD) [.b 6, .b 3]))]))) (pt_tst (o := .t (opF allD [.t (lcF [6] (itSeq (opF (partD false true) [.b 5, .b 3])) (tgN 6) (yesF) (opF (geD) [.b 6, .b 3]))])) (po_t (pf_callB (cr_all rfl) vok_all (by rfl) T.z_all (by decide +kernel) (paf_cons (o := .t (lcF [6] (itSeq (opF (partD false true) [.b 5, .b 3])) (tgN 6) (yesF) (opF (geD) [.b 6, .b 3]))) (po_t (pf_lc (own := [("mate", 6)]) (fi := itSeq (opF (partD false true) [.b 5, .b 3])) (fg := tgN 6) (ft := yesF) (fe := opF (geD) [.b 6, .b 3]) rfl sc_p_paired.nd (pif_seq (pf_slH (po_b (pv 5)) (po_b (pv 3)))) (blkOk_by (own := [("mate", 6)]) (by rfl)) (fun _ _ _ _ _ => pgf_name (i := 6) sc_p_paired.nd rfl (by first | exact .inl rfl | exact .inr rfl) (by decide)) (fun _ _ _ _ _ => ptsf_nil) (fun _ _ _ _ _ => pf_cmp op_ge vok_ge (po_b (pv 6)) (po_b (pv 3)) (nomark _)))) paf_nil)))) (psf_one (psf_ret (pf_bin op_addA vok_add (po_t (pf_bin op_mulT vok_mulT (po_t (pf_tup (paf_cons (o := .t (litF (.int 0))) (po_t (pf_int)) paf_nil))) (po_b (pv 2)))) (po_t (pf_tup (paf_cons (o := .t (litF (.int 1))) (po_t (pf_int)) paf_nil)))))) (psf_nil))
      (psf_one (psf_ret (pf_tup paf_nil))))
theorem ok_p_remade (T : Tx K mg) : FnOk P w K mg base CX0 1 T.f_p_remade T.fd_p_remade ["n", "m", "mates", "place"] (spOf K fn_p_remade) := by
  unfold fn_p_remade
  refine fn_ok (k := 0) (x := "remade") (qual := "remade") (st := s_p_remade) (N := ["n", "m", "mates", "place", "row", "peg", "mate"]) (ps := ["n", "m", "mates", "place"]) (pins := [true, true, true, true]) (fb := F_p_remade) T.F_p_remade sc_p_remade rfl (by decide) ?_
  intro cdv A outer s H E hr
  unfold F_p_remade
  exact psf_cons (f := asgF (opF mulD [.t (lstF [.t (litF (.int 0))]), .t (opF addD [.b 0, .b 1])]) (tgN 4)) (psf_set (i := 4) sc_p_remade.nd rfl (by first | exact .inl rfl | exact .inr rfl) (by decide) (pf_bin op_mulA vok_mul (po_t (pf_lst (paf_cons (o := .t (litF (.int 0))) (po_t (pf_int)) paf_nil))) (po_t (pf_bin op_addA vok_add (po_b (pv 0)) (po_b (pv 1))))))
      (psf_cons (f := forF (itEnum (varF 2)) (tgT 2 (tgCons (tgN 5) (tgCons (tgN 6) (tgNil)))) (asgF (opF ixD [.b 3, .b 6]) (tgSub 4 (.t (opF ixD [.b 3, .b 5]))))) (psf_for (fi := itEnum (varF 2)) (g := tgT 2 (tgCons (tgN 5) (tgCons (tgN 6) (tgNil)))) PassesOwn.never rfl (pif_enum (by rfl) T.z_enumerate (pf_var (pv 2))) (pgf_tup rfl (pgsf_cons (pgf_name (i := 5) sc_p_remade.nd rfl (by first | exact .inl rfl | exact .inr rfl) (by decide)) (pgsf_cons (pgf_name (i := 6) sc_p_remade.nd rfl (by first | exact .inl rfl | exact .inr rfl) (by decide)) (pgsf_nil)))) (psf_one (psf_asg (f := opF ixD [.b 3, .b 6]) (g := tgSub 4 (.t (opF ixD [.b 3, .b 5]))) (pf_ix ix_seq vok_ix (po_b (pv 3)) (po_b (pv 6)) (fun _ _ => rfl)) (pgf_sub (k := 4) (oi := .t (opF ixD [.b 3, .b 5])) (pv 4) (po_t (pf_ix ix_seq vok_ix (po_b (pv 3)) (po_b (pv 5)) (fun _ _ => rfl)))))))
      (psf_one (psf_ret (pf_tup (paf_cons (o := .t (varF 0)) (po_t (pf_var (pv 0))) (paf_cons (o := .t (varF 1)) (po_t (pf_var (pv 1))) (paf_cons (o := .t (opF tupleD [.b 4])) (po_t (pf_callTy call_tuple_of vok_tuple (by rfl) T.z_tuple boot_tuple (paf_cons (o := .b 4) (po_b (pv 4)) paf_nil))) paf_nil)))))))
theorem ok_p_upside_down (T : Tx K mg) : FnOk P w K mg base CX0 4 T.f_p_upside_down T.fd_p_upside_down ["mat"] (spOf K fn_p_upside_down) := by
  unfold fn_p_upside_down
  refine fn_ok (k := 3) (x := "upside_down") (qual := "upside_down") (st := s_p_upside_down) (N := ["mat", "n", "m", "mates"]) (ps := ["mat"]) (pins := [true]) (fb := F_p_upside_down) T.F_p_upside_down sc_p_upside_down rfl (by decide) ?_
  intro cdv A outer s H E hr
  unfold F_p_upside_down
  exact psf_cons (f := asgF (callF fn_p_checked_mat [.b 0]) (tgT 3 (tgCons (tgN 1) (tgCons (tgN 2) (tgCons (tgN 3) (tgNil)))))) (psf_asg (f := callF fn_p_checked_mat [.b 0]) (g := tgT 3 (tgCons (tgN 1) (tgCons (tgN 2) (tgCons (tgN 3) (tgNil))))) (pf_call (ok_p_checked_mat T) (hr.mono (by decide)) (by rfl) T.g_p_checked_mat T.F_p_checked_mat.kp T.b_p_checked_mat (paf_cons (o := .b 0) (po_b (pv 0)) paf_nil)) (pgf_tup rfl (pgsf_cons (pgf_name (i := 1) sc_p_upside_down.nd rfl (by first | exact .inl rfl | exact .inr rfl) (by decide)) (pgsf_cons (pgf_name (i := 2) sc_p_upside_down.nd rfl (by first | exact .inl rfl | exact .inr rfl) (by decide)) (pgsf_cons (pgf_name (i := 3) sc_p_upside_down.nd rfl (by first | exact .inl rfl | exact .inr rfl) (by decide)) (pgsf_nil))))))
      (psf_one (psf_ret (pf_call (ok_p_remade T) (hr.mono (by decide)) (by rfl) T.g_p_remade T.F_p_remade.kp T.b_p_remade (paf_cons (o := .b 2) (po_b (pv 2)) (paf_cons (o := .b 1) (po_b (pv 1)) (paf_cons (o := .b 3) (po_b (pv 3)) (paf_cons (o := .t (opF addD [.t (opF (lrgD rng2D) [.b 2, .t (opF addD [.b 2, .b 1])]), .t (opF (lrgD rng1D) [.b 2])])) (po_t (pf_bin op_addA vok_add (po_t (pf_lrg2 rfl (by rfl) T.z_list (by rfl) T.z_range (paf_cons (o := .b 2) (po_b (pv 2)) (paf_cons (o := .t (opF addD [.b 2, .b 1])) (po_t (pf_bin op_addA vok_add (po_b (pv 2)) (po_b (pv 1)))) paf_nil)))) (po_t (pf_lrg1 rfl (by rfl) T.z_list (by rfl) T.z_range (paf_cons (o := .b 2) (po_b (pv 2)) paf_nil))))) paf_nil)))))))
theorem ok_p_pairing (T : Tx K mg) : FnOk P w K mg base CX0 6 T.f_p_pairing T.fd_p_pairing ["one", "other"] (spOf K fn_p_pairing) := by
  unfold fn_p_pairing
  refine fn_ok (k := 5) (x := "pairing") (qual := "pairing") (st := s_p_pairing) (N := ["one", "other"]) (ps := ["one", "other"]) (pins := [true, true]) (fb := F_p_pairing) T.F_p_pairing sc_p_pairing rfl (by decide) ?_
  intro cdv A outer s H E hr
  unfold F_p_pairing
  exact psf_cons (f := dropF (callF fn_p_check_half [.b 0])) (psf_expr (pf_call (ok_p_check_half T) (hr.mono (by decide)) (by rfl) T.g_p_check_half T.F_p_check_half.kp T.b_p_check_half (paf_cons (o := .b 0) (po_b (pv 0)) paf_nil)))
      (psf_cons (f := dropF (callF fn_p_check_half [.b 1])) (psf_expr (pf_call (ok_p_check_half T) (hr.mono (by decide)) (by rfl) T.g_p_check_half T.F_p_check_half.kp T.b_p_check_half (paf_cons (o := .b 1) (po_b (pv 1)) paf_nil)))
      (psf_cons (f := dropF (callF fn_p_check_pair [.t (opF ixD [.b 0, .t (litF (.int 0))]), .t (opF ixD [.b 1, .t (litF (.int 0))])])) (psf_expr (pf_call (ok_p_check_pair T) (hr.mono (by decide)) (by rfl) T.g_p_check_pair T.F_p_check_pair.kp T.b_p_check_pair (paf_cons (o := .t (opF ixD [.b 0, .t (litF (.int 0))])) (po_t (pf_ix ix_seq vok_ix (po_b (pv 0)) (po_t (pf_int)) (fun _ _ => rfl))) (paf_cons (o := .t (opF ixD [.b 1, .t (litF (.int 0))])) (po_t (pf_ix ix_seq vok_ix (po_b (pv 1)) (po_t (pf_int)) (fun _ _ => rfl))) paf_nil))))
      (psf_cons (f := dropF (callF fn_p_check_pair [.t (opF ixD [.b 0, .t (litF (.int 1))]), .t (opF ixD [.b 1, .t (litF (.int 1))])])) (psf_expr (pf_call (ok_p_check_pair T) (hr.mono (by decide)) (by rfl) T.g_p_check_pair T.F_p_check_pair.kp T.b_p_check_pair (paf_cons (o := .t (opF ixD [.b 0, .t (litF (.int 1))])) (po_t (pf_ix ix_seq vok_ix (po_b (pv 0)) (po_t (pf_int)) (fun _ _ => rfl))) (paf_cons (o := .t (opF ixD [.b 1, .t (litF (.int 1))])) (po_t (pf_ix ix_seq vok_ix (po_b (pv 1)) (po_t (pf_int)) (fun _ _ => rfl))) paf_nil))))
      (psf_one (psf_ret (pf_call (ok_p_paired T) (hr.mono (by decide)) (by rfl) T.g_p_paired T.F_p_paired.kp T.b_p_paired (paf_cons (o := .t (callF fn_p_upside_down [.b 0])) (po_t (pf_call (ok_p_upside_down T) (hr.mono (by decide)) (by rfl) T.g_p_upside_down T.F_p_upside_down.kp T.b_p_upside_down (paf_cons (o := .b 0) (po_b (pv 0)) paf_nil))) (paf_cons (o := .b 1) (po_b (pv 1)) paf_nil))))))))
theorem ok_p_pairing_table (T : Tx K mg) : FnOk P w K mg base CX0 5 T.f_p_pairing_table T.fd_p_pairing_table ["n", "k"] (spOf K fn_p_pairing_table) := by
  unfold fn_p_pairing_table
  refine fn_ok (k := 4) (x := "pairing_table") (qual := "pairing_table") (st := s_p_pairing_table) (N := ["n", "k", "halves", "table", "one", "ahead", "other"]) (ps := ["n", "k"]) (pins := [true, true]) (fb := F_p_pairing_table) T.F_p_pairing_table sc_p_pairing_table rfl (by decide) ?_
  intro cdv A outer s H E hr
  unfold F_p_pairing_table
  exact psf_cons (f := asgF (callF fn_p_half_mats [.b 0, .b 1]) (tgN 2)) (psf_set (i := 2) sc_p_pairing_table.nd rfl (by first | exact .inl rfl | exact .inr rfl) (by decide) (pf_call (ok_p_half_mats T) (hr.mono (by decide)) (by rfl) T.g_p_half_mats T.F_p_half_mats.kp T.b_p_half_mats (paf_cons (o := .b 0) (po_b (pv 0)) (paf_cons (o := .b 1) (po_b (pv 1)) paf_nil))))
      (psf_cons (f := asgF (lstF []) (tgN 3)) (psf_set (i := 3) sc_p_pairing_table.nd rfl (by first | exact .inl rfl | exact .inr rfl) (by decide) (pf_lst paf_nil))
      (psf_cons (f := forF (itSeq (varF 2)) (tgN 4) (seqF (asgF (callF fn_p_upside_down [.b 4]) (tgN 5)) <|
      dropF (mutF 3 appD [.t (lcF [6] (itSeq (varF 2)) (tgN 6) (yesF) (callF fn_p_paired [.b 5, .b 6]))]))) (psf_for (fi := itSeq (varF 2)) (g := tgN 4) PassesOwn.never rfl (pif_seq (pf_var (pv 2))) (pgf_name (i := 4) sc_p_pairing_table.nd rfl (by first | exact .inl rfl | exact .inr rfl) (by decide)) (psf_cons (f := asgF (callF fn_p_upside_down [.b 4]) (tgN 5)) (psf_set (i := 5) sc_p_pairing_table.nd rfl (by first | exact .inl rfl | exact .inr rfl) (by decide) (pf_call (ok_p_upside_down T) (hr.mono (by decide)) (by rfl) T.g_p_upside_down T.F_p_upside_down.kp T.b_p_upside_down (paf_cons (o := .b 4) (po_b (pv 4)) paf_nil)))
      (psf_one (psf_expr (pf_append (i := 3) (pv 3) (paf_cons (o := .t (lcF [6] (itSeq (varF 2)) (tgN 6) (yesF) (callF fn_p_paired [.b 5, .b 6]))) (po_t (pf_lc (own := [("other", 6)]) (fi := itSeq (varF 2)) (fg := tgN 6) (ft := yesF) (fe := callF fn_p_paired [.b 5, .b 6]) rfl sc_p_pairing_table.nd (pif_seq (pf_var (pv 2))) (blkOk_by (own := [("other", 6)]) (by rfl)) (fun _ _ _ _ _ => pgf_name (i := 6) sc_p_pairing_table.nd rfl (by first | exact .inl rfl | exact .inr rfl) (by decide)) (fun _ _ _ _ _ => ptsf_nil) (fun _ _ _ _ _ => pf_call (ok_p_paired T) (hr.mono (by decide)) (by rfl) T.g_p_paired T.F_p_paired.kp T.b_p_paired (paf_cons (o := .b 5) (po_b (pv 5)) (paf_cons (o := .b 6) (po_b (pv 6)) paf_nil))))) paf_nil))))))
      (psf_one (psf_ret (pf_mov (pv 3))))))
theorem ok_right (T : Tx K mg) : FnOk P w K mg base CX0 23 T.f_right T.fd_right ["_law_well_here", "_law_n", "_law_named"] (spOf K fn_right) := by
  unfold fn_right
  refine fn_ok (k := 22) (x := "_law_right") (qual := "_law_right") (st := s_right) (N := ["_law_well_here", "_law_n", "_law_named", "_law_k", "_law_halves_here", "_law_due", "_law_size", "_law_found", "_law_row", "_law_column", "_law_told"]) (ps := ["_law_well_here", "_law_n", "_law_named"]) (pins := [true, true, true]) (fb := F_right) T.F_right sc_right rfl (by decide) ?_
  intro cdv A outer s H E hr
  unfold F_right
  exact psf_cons (f := asgF (opF addD [.t (opF modD [.t (opF intD [.b 1]), .t (litF (.int 2))]), .t (opF mulD [.t (litF (.int 2)), .t (callF fn_draw [.b 0, .t (opF addD [.t (opF fdivD [.b 1, .t (litF (.int 2))]), .t (litF (.int 1))])])])]) (tgN 3)) (psf_set (i := 3) sc_right.nd rfl (by first | exact .inl rfl | exact .inr rfl) (by decide) (pf_bin op_addA vok_add (po_t (pf_bin op_modN vok_mod (po_t (pf_callTy call_int1 vok_int (by rfl) T.z_int boot_int (paf_cons (o := .b 1) (po_b (pv 1)) paf_nil))) (po_t (pf_int)))) (po_t (pf_bin op_mulA vok_mul (po_t (pf_int)) (po_t (pf_call (ok_draw T) (hr.mono (by decide)) (by rfl) T.g_draw T.F_draw.kp T.b_draw (paf_cons (o := .b 0) (po_b (pv 0)) (paf_cons (o := .t (opF addD [.t (opF fdivD [.b 1, .t (litF (.int 2))]), .t (litF (.int 1))])) (po_t (pf_bin op_addA vok_add (po_t (pf_bin op_fdivA vok_fdiv (po_b (pv 1)) (po_t (pf_int)))) (po_t (pf_int)))) paf_nil))))))))
      (psf_cons (f := asgF (callF fn_halves [.b 1, .b 3]) (tgN 4)) (psf_set (i := 4) sc_right.nd rfl (by first | exact .inl rfl | exact .inr rfl) (by decide) (pf_call (ok_halves T) (hr.mono (by decide)) (by rfl) T.g_halves T.F_halves.kp T.b_halves (paf_cons (o := .b 1) (po_b (pv 1)) (paf_cons (o := .b 3) (po_b (pv 3)) paf_nil))))
      (psf_cons (f := parF [5, 6] [.t (callF fn_table_of [.b 4]), .t (opF lenD [.b 4])]) (psf_par2 (i := 5) (j := 6) rfl sc_right.nd rfl rfl  (by decide)  (by decide) rfl rfl  (paf_cons (o := .t (callF fn_table_of [.b 4])) (po_t (pf_call (ok_table_of T) (hr.mono (by decide)) (by rfl) T.g_table_of T.F_table_of.kp T.b_table_of (paf_cons (o := .b 4) (po_b (pv 4)) paf_nil))) (paf_cons (o := .t (opF lenD [.b 4])) (po_t (pf_callB call_len_seq vok_len (by rfl) T.z_len PySem.boot_len (paf_cons (o := .b 4) (po_b (pv 4)) paf_nil))) paf_nil)) rfl)
      (psf_cons (f := asgF (ifE (tstF (.b 2)) (callKF fn_p_pairing_table [1, 0] [.b 3, .b 1]) (callF fn_p_pairing_table [.b 1, .b 3])) (tgN 7)) (psf_set (i := 7) sc_right.nd rfl (by first | exact .inl rfl | exact .inr rfl) (by decide) (pf_if (pt_tst (o := .b 2) (po_b (pv 2))) (pf_callK0 (is := [1, 0]) (kops := [.b 3, .b 1]) (ok_p_pairing_table T) (hr.mono (by decide)) (by rfl) T.g_p_pairing_table T.F_p_pairing_table.kp T.kb0_p_pairing_table (by decide) rfl (pkf_cons (o := .b 3) (po_b (pv 3)) (pkf_cons (o := .b 1) (po_b (pv 1)) pkf_nil))) (pf_call (ok_p_pairing_table T) (hr.mono (by decide)) (by rfl) T.g_p_pairing_table T.F_p_pairing_table.kp T.b_p_pairing_table (paf_cons (o := .b 1) (po_b (pv 1)) (paf_cons (o := .b 3) (po_b (pv 3)) paf_nil)))))
      (psf_cons (f := ifF (lendB (orF (notF (tstF (.t (callF fn_same [.b 7, .b 5])))) (notF (tstF (.t (callF fn_same [.t (callF fn_p_how_many_halves [.b 1, .b 3]), .b 6])))))) (retF (lendF (litF (.bl false)))) (passF)) (psf_if (fc := lendB (orF (notF (tstF (.t (callF fn_same [.b 7, .b 5])))) (notF (tstF (.t (callF fn_same [.t (callF fn_p_how_many_halves [.b 1, .b 3]), .b 6])))))) (pt_lend ((pwf_or (ptf_not (pt_tst (o := .t (callF fn_same [.b 7, .b 5])) (po_t (pf_call (ok_same T) (hr.mono (by decide)) (by rfl) T.g_same T.F_same.kp T.b_same (paf_cons (o := .b 7) (po_b (pv 7)) (paf_cons (o := .b 5) (po_b (pv 5)) paf_nil)))))) (pwf_or1 (ptf_not (pt_tst (o := .t (callF fn_same [.t (callF fn_p_how_many_halves [.b 1, .b 3]), .b 6])) (po_t (pf_call (ok_same T) (hr.mono (by decide)) (by rfl) T.g_same T.F_same.kp T.b_same (paf_cons (o := .t (callF fn_p_how_many_halves [.b 1, .b 3])) (po_t (pf_call (ok_p_how_many_halves T) (hr.mono (by decide)) (by rfl) T.g_p_how_many_halves T.F_p_how_many_halves.kp T.b_p_how_many_halves (paf_cons (o := .b 1) (po_b (pv 1)) (paf_cons (o := .b 3) (po_b (pv 3)) paf_nil)))) (paf_cons (o := .b 6) (po_b (pv 6)) paf_nil)))))))).pt)) (psf_one (psf_ret (pf_lend (pf_bl)))) (psf_nil))
      (psf_cons (f := parF [8, 9] [.t (callF fn_draw [.b 0, .b 6]), .t (callF fn_draw [.b 0, .b 6])]) (psf_par2 (i := 8) (j := 9) rfl sc_right.nd rfl rfl  (by decide)  (by decide) rfl rfl  (paf_cons (o := .t (callF fn_draw [.b 0, .b 6])) (po_t (pf_call (ok_draw T) (hr.mono (by decide)) (by rfl) T.g_draw T.F_draw.kp T.b_draw (paf_cons (o := .b 0) (po_b (pv 0)) (paf_cons (o := .b 6) (po_b (pv 6)) paf_nil)))) (paf_cons (o := .t (callF fn_draw [.b 0, .b 6])) (po_t (pf_call (ok_draw T) (hr.mono (by decide)) (by rfl) T.g_draw T.F_draw.kp T.b_draw (paf_cons (o := .b 0) (po_b (pv 0)) (paf_cons (o := .b 6) (po_b (pv 6)) paf_nil)))) paf_nil)) rfl)
      (psf_cons (f := ifF (lendB (notF (tstF (.t (callF fn_same [.t (callF fn_p_pairing [.t (opF ixD [.b 4, .b 8]), .t (opF ixD [.b 4, .b 9])]), .t (opF ixD [.t (opF ixD [.b 5, .b 8]), .b 9])]))))) (retF (lendF (litF (.bl false)))) (passF)) (psf_if (fc := lendB (notF (tstF (.t (callF fn_same [.t (callF fn_p_pairing [.t (opF ixD [.b 4, .b 8]), .t (opF ixD [.b 4, .b 9])]), .t (opF ixD [.t (opF ixD [.b 5, .b 8]), .b 9])]))))) (pt_lend (ptf_not (pt_tst (o := .t (callF fn_same [.t (callF fn_p_pairing [.t (opF ixD [.b 4, .b 8]), .t (opF ixD [.b 4, .b 9])]), .t (opF ixD [.t (opF ixD [.b 5, .b 8]), .b 9])])) (po_t (pf_call (ok_same T) (hr.mono (by decide)) (by rfl) T.g_same T.F_same.kp T.b_same (paf_cons (o := .t (callF fn_p_pairing [.t (opF ixD [.b 4, .b 8]), .t (opF ixD [.b 4, .b 9])])) (po_t (pf_call (ok_p_pairing T) (hr.mono (by decide)) (by rfl) T.g_p_pairing T.F_p_pairing.kp T.b_p_pairing (paf_cons (o := .t (opF ixD [.b 4, .b 8])) (po_t (pf_ix ix_seq vok_ix (po_b (pv 4)) (po_b (pv 8)) (fun _ _ => rfl))) (paf_cons (o := .t (opF ixD [.b 4, .b 9])) (po_t (pf_ix ix_seq vok_ix (po_b (pv 4)) (po_b (pv 9)) (fun _ _ => rfl))) paf_nil)))) (paf_cons (o := .t (opF ixD [.t (opF ixD [.b 5, .b 8]), .b 9])) (po_t (pf_ix ix_seq vok_ix (po_t (pf_ix ix_seq vok_ix (po_b (pv 5)) (po_b (pv 8)) (fun _ _ => rfl))) (po_b (pv 9)) (fun _ _ => rfl))) paf_nil))))))) (psf_one (psf_ret (pf_lend (pf_bl)))) (psf_nil))
      (psf_cons (f := asgF (callKF fn_p_half_mats [0, 1] [.b 1, .b 3]) (tgN 10)) (psf_set (i := 10) sc_right.nd rfl (by first | exact .inl rfl | exact .inr rfl) (by decide) (pf_callK0 (is := [0, 1]) (kops := [.b 1, .b 3]) (ok_p_half_mats T) (hr.mono (by decide)) (by rfl) T.g_p_half_mats T.F_p_half_mats.kp T.kb1_p_half_mats (by decide) rfl (pkf_cons (o := .b 1) (po_b (pv 1)) (pkf_cons (o := .b 3) (po_b (pv 3)) pkf_nil))))
      (psf_cons (f := ifF (lendB (notF (tstF (.t (callF fn_same [.t (callF fn_p_pairing [.t (opF ixD [.b 10, .b 9]), .t (opF ixD [.b 10, .b 8])]), .t (opF ixD [.t (opF ixD [.b 7, .b 8]), .b 9])]))))) (retF (lendF (litF (.bl false)))) (passF)) (psf_if (fc := lendB (notF (tstF (.t (callF fn_same [.t (callF fn_p_pairing [.t (opF ixD [.b 10, .b 9]), .t (opF ixD [.b 10, .b 8])]), .t (opF ixD [.t (opF ixD [.b 7, .b 8]), .b 9])]))))) (pt_lend (ptf_not (pt_tst (o := .t (callF fn_same [.t (callF fn_p_pairing [.t (opF ixD [.b 10, .b 9]), .t (opF ixD [.b 10, .b 8])]), .t (opF ixD [.t (opF ixD [.b 7, .b 8]), .b 9])])) (po_t (pf_call (ok_same T) (hr.mono (by decide)) (by rfl) T.g_same T.F_same.kp T.b_same (paf_cons (o := .t (callF fn_p_pairing [.t (opF ixD [.b 10, .b 9]), .t (opF ixD [.b 10, .b 8])])) (po_t (pf_call (ok_p_pairing T) (hr.mono (by decide)) (by rfl) T.g_p_pairing T.F_p_pairing.kp T.b_p_pairing (paf_cons (o := .t (opF ixD [.b 10, .b 9])) (po_t (pf_ix ix_seq vok_ix (po_b (pv 10)) (po_b (pv 9)) (fun _ _ => rfl))) (paf_cons (o := .t (opF ixD [.b 10, .b 8])) (po_t (pf_ix ix_seq vok_ix (po_b (pv 10)) (po_b (pv 8)) (fun _ _ => rfl))) paf_nil)))) (paf_cons (o := .t (opF ixD [.t (opF ixD [.b 7, .b 8]), .b 9])) (po_t (pf_ix ix_seq vok_ix (po_t (pf_ix ix_seq vok_ix (po_b (pv 7)) (po_b (pv 8)) (fun _ _ => rfl))) (po_b (pv 9)) (fun _ _ => rfl))) paf_nil))))))) (psf_one (psf_ret (pf_lend (pf_bl)))) (psf_nil))
      (psf_cons (f := ifF (notF (tstF (.t (callF fn_changed [.b 7, .b 5, .b 8, .b 9])))) (retF (lendF (litF (.bl false)))) (passF)) (psf_if (fc := notF (tstF (.t (callF fn_changed [.b 7, .b 5, .b 8, .b 9])))) (ptf_not (pt_tst (o := .t (callF fn_changed [.b 7, .b 5, .b 8, .b 9])) (po_t (pf_call (ok_changed T) (hr.mono (by decide)) (by rfl) T.g_changed T.F_changed.kp T.b_changed (paf_cons (o := .b 7) (po_b (pv 7)) (paf_cons (o := .b 5) (po_b (pv 5)) (paf_cons (o := .b 8) (po_b (pv 8)) (paf_cons (o := .b 9) (po_b (pv 9)) paf_nil)))))))) (psf_one (psf_ret (pf_lend (pf_bl)))) (psf_nil))
      (psf_cons (f := dropF (mutF 7 popAtD [.t (callF fn_draw [.b 0, .b 6])])) (psf_expr (pf_popAt (i := 7) (pv 7) (paf_cons (o := .t (callF fn_draw [.b 0, .b 6])) (po_t (pf_call (ok_draw T) (hr.mono (by decide)) (by rfl) T.g_draw T.F_draw.kp T.b_draw (paf_cons (o := .b 0) (po_b (pv 0)) (paf_cons (o := .b 6) (po_b (pv 6)) paf_nil)))) paf_nil)))
      (psf_one (psf_ret (pf_lend (pf_or (pf_cmp op_gt vok_gt (po_b (pv 1)) (po_t (pf_int)) (nomark _)) (pf_one (pf_call (ok_same T) (hr.mono (by decide)) (by rfl) T.g_same T.F_same.kp T.b_same (paf_cons (o := .t (frzF (callF fn_p_pairing_table [.b 1, .b 3]))) (po_t (pf_frz (pf_call (ok_p_pairing_table T) (hr.mono (by decide)) (by rfl) T.g_p_pairing_table T.F_p_pairing_table.kp T.b_p_pairing_table (paf_cons (o := .b 1) (po_b (pv 1)) (paf_cons (o := .b 3) (po_b (pv 3)) paf_nil))))) (paf_cons (o := .b 5) (po_b (pv 5)) paf_nil))))))))))))))))))
theorem ok_well (T : Tx K mg) : FnOk P w K mg base CX0 1 T.f_well T.fd_well ["_law_script"] (spOf K fn_well) := by
  unfold fn_well
  refine fn_ok (k := 0) (x := "_law_well") (qual := "_law_well") (st := s_well) (N := ["_law_script", "_law_great", "_law_mark", "_law_place", "_law_cell"]) (ps := ["_law_script"]) (pins := [true]) (fb := F_well) T.F_well sc_well rfl (by decide) ?_
  intro cdv A outer s H E hr
  unfold F_well
  exact psf_cons (f := parF [1, 2] [.t (lstF []), .t (litF (.int 30011))]) (psf_par2 (i := 1) (j := 2) rfl sc_well.nd rfl rfl  (by decide)  (by decide) rfl rfl  (paf_cons (o := .t (lstF [])) (po_t (pf_lst paf_nil)) (paf_cons (o := .t (litF (.int 30011))) (po_t (pf_int)) paf_nil)) rfl)
      (psf_cons (f := forF (itRg rng1D [.t (opF lenD [.b 0])]) (tgN 3) (seqF (asgF (opF ixD [.b 0, .b 3]) (tgN 4)) <|
      ifF (bT (opF (geD) [.b 4, .t (opF powD [.t (litF (.int 10)), .t (litF (.int 18))])])) (dropF (mutF 1 insD [.t (litF (.int 0)), .t (opF subD [.b 4, .t (opF powD [.t (litF (.int 10)), .t (litF (.int 18))])])])) (asgF (opF addD [.t (opF modD [.t (opF intD [.t (opF powD [.t (opF addD [.b 2, .t (opF mulD [.t (opF addD [.b 3, .t (litF (.int 3))]), .t (opF modD [.t (opF intD [.b 4]), .t (litF (.int 1000000000061))])])]), .t (litF (.int 3))])]), .t (litF (.int 2305843009213693951))]), .t (litF (.int 1))]) (tgN 2)))) (psf_for (fi := itRg rng1D [.t (opF lenD [.b 0])]) (g := tgN 3) PassesOwn.never rfl (pif_rng1 (by rfl) T.z_range (paf_cons (o := .t (opF lenD [.b 0])) (po_t (pf_callB call_len_seq vok_len (by rfl) T.z_len PySem.boot_len (paf_cons (o := .b 0) (po_b (pv 0)) paf_nil))) paf_nil)) (pgf_name (i := 3) sc_well.nd rfl (by first | exact .inl rfl | exact .inr rfl) (by decide)) (psf_cons (f := asgF (opF ixD [.b 0, .b 3]) (tgN 4)) (psf_set (i := 4) sc_well.nd rfl (by first | exact .inl rfl | exact .inr rfl) (by decide) (pf_ix ix_seq vok_ix (po_b (pv 0)) (po_b (pv 3)) (fun _ _ => rfl)))
      (psf_one (psf_if (fc := bT (opF (geD) [.b 4, .t (opF powD [.t (litF (.int 10)), .t (litF (.int 18))])])) (pt_cmpf op_ge vok_ge (po_b (pv 4)) (po_t (pf_bin op_powA vok_pow (po_t (pf_int)) (po_t (pf_int)))) (nomark _)) (psf_one (psf_expr (pf_insert (i := 1) (pv 1) (paf_cons (o := .t (litF (.int 0))) (po_t (pf_int)) (paf_cons (o := .t (opF subD [.b 4, .t (opF powD [.t (litF (.int 10)), .t (litF (.int 18))])])) (po_t (pf_bin op_sub vok_sub (po_b (pv 4)) (po_t (pf_bin op_powA vok_pow (po_t (pf_int)) (po_t (pf_int)))))) paf_nil))))) (psf_one (psf_set (i := 2) sc_well.nd rfl (by first | exact .inl rfl | exact .inr rfl) (by decide) (pf_bin op_addA vok_add (po_t (pf_bin op_modN vok_mod (po_t (pf_callTy call_int1 vok_int (by rfl) T.z_int boot_int (paf_cons (o := .t (opF powD [.t (opF addD [.b 2, .t (opF mulD [.t (opF addD [.b 3, .t (litF (.int 3))]), .t (opF modD [.t (opF intD [.b 4]), .t (litF (.int 1000000000061))])])]), .t (litF (.int 3))])) (po_t (pf_bin op_powA vok_pow (po_t (pf_bin op_addA vok_add (po_b (pv 2)) (po_t (pf_bin op_mulA vok_mul (po_t (pf_bin op_addA vok_add (po_b (pv 3)) (po_t (pf_int)))) (po_t (pf_bin op_modN vok_mod (po_t (pf_callTy call_int1 vok_int (by rfl) T.z_int boot_int (paf_cons (o := .b 4) (po_b (pv 4)) paf_nil))) (po_t (pf_int)))))))) (po_t (pf_int)))) paf_nil))) (po_t (pf_int)))) (po_t (pf_int)))))))))
      (psf_one (psf_ret (pf_lst (paf_cons (o := .t (movF 1)) (po_t (pf_mov (pv 1))) (paf_cons (o := .t (litF (.int 0))) (po_t (pf_int)) (paf_cons (o := .t (movF 2)) (po_t (pf_mov (pv 2))) (paf_cons (o := .t (litF (.int 0))) (po_t (pf_int)) paf_nil))))))))
theorem ok_law (T : Tx K mg) : FnOk P w K mg base CX0 24 T.f_law T.fd_law ["_law_script"] (spOf K fn_law) := by
  unfold fn_law
  refine fn_ok (k := 23) (x := "law") (qual := "law") (st := s_law) (N := ["_law_script", "_law_well_here", "_law_turn", "_law_n"]) (ps := ["_law_script"]) (pins := [true]) (fb := F_law) T.F_law sc_law rfl (by decide) ?_
  intro cdv A outer s H E hr
  unfold F_law
  exact psf_cons (f := asgF (callF fn_well [.b 0]) (tgN 1)) (psf_set (i := 1) sc_law.nd rfl (by first | exact .inl rfl | exact .inr rfl) (by decide) (pf_call (ok_well T) (hr.mono (by decide)) (by rfl) T.g_well T.F_well.kp T.b_well (paf_cons (o := .b 0) (po_b (pv 0)) paf_nil)))
      (psf_cons (f := forF (itRg rng1D [.t (litF (.int 3))]) (tgN 2) (seqF (asgF (opF addD [.t (litF (.int 1)), .t (opF ixD [.t (lstF [.t (callF fn_draw [.b 1, .t (litF (.int 6))]), .t (callF fn_draw [.b 1, .t (litF (.int 6))]), .t (callF fn_draw [.b 1, .t (opF ixD [.t (lstF [.t (litF (.int 8)), .t (litF (.int 6)), .t (litF (.int 6))]), .b 2])])]), .t (opF fdivD [.t (callF fn_draw [.b 1, .t (litF (.int 6))]), .t (litF (.int 2))])])]) (tgN 3)) <|
      ifF (notF (tstF (.t (callF fn_right [.b 1, .b 3, .t (opF (eqD) [.t (callF fn_draw [.b 1, .t (litF (.int 2))]), .t (litF (.int 1))])])))) (retF (litF (.bl false))) (passF))) (psf_for (fi := itRg rng1D [.t (litF (.int 3))]) (g := tgN 2) PassesOwn.never rfl (pif_rng1 (by rfl) T.z_range (paf_cons (o := .t (litF (.int 3))) (po_t (pf_int)) paf_nil)) (pgf_name (i := 2) sc_law.nd rfl (by first | exact .inl rfl | exact .inr rfl) (by decide)) (psf_cons (f := asgF (opF addD [.t (litF (.int 1)), .t (opF ixD [.t (lstF [.t (callF fn_draw [.b 1, .t (litF (.int 6))]), .t (callF fn_draw [.b 1, .t (litF (.int 6))]), .t (callF fn_draw [.b 1, .t (opF ixD [.t (lstF [.t (litF (.int 8)), .t (litF (.int 6)), .t (litF (.int 6))]), .b 2])])]), .t (opF fdivD [.t (callF fn_draw [.b 1, .t (litF (.int 6))]), .t (litF (.int 2))])])]) (tgN 3)) (psf_set (i := 3) sc_law.nd rfl (by first | exact .inl rfl | exact .inr rfl) (by decide) (pf_bin op_addA vok_add (po_t (pf_int)) (po_t (pf_ix ix_seq vok_ix (po_t (pf_lst (paf_cons (o := .t (callF fn_draw [.b 1, .t (litF (.int 6))])) (po_t (pf_call (ok_draw T) (hr.mono (by decide)) (by rfl) T.g_draw T.F_draw.kp T.b_draw (paf_cons (o := .b 1) (po_b (pv 1)) (paf_cons (o := .t (litF (.int 6))) (po_t (pf_int)) paf_nil)))) (paf_cons (o := .t (callF fn_draw [.b 1, .t (litF (.int 6))])) (po_t (pf_call (ok_draw T) (hr.mono (by decide)) (by rfl) T.g_draw T.F_draw.kp T.b_draw (paf_cons (o := .b 1) (po_b (pv 1)) (paf_cons (o := .t (litF (.int 6))) (po_t (pf_int)) paf_nil)))) (paf_cons (o := .t (callF fn_draw [.b 1, .t (opF ixD [.t (lstF [.t (litF (.int 8)), .t (litF (.int 6)), .t (litF (.int 6))]), .b 2])])) (po_t (pf_call (ok_draw T) (hr.mono (by decide)) (by rfl) T.g_draw T.F_draw.kp T.b_draw (paf_cons (o := .b 1) (po_b (pv 1)) (paf_cons (o := .t (opF ixD [.t (lstF [.t (litF (.int 8)), .t (litF (.int 6)), .t (litF (.int 6))]), .b 2])) (po_t (pf_ix ix_seq vok_ix (po_t (pf_lst (paf_cons (o := .t (litF (.int 8))) (po_t (pf_int)) (paf_cons (o := .t (litF (.int 6))) (po_t (pf_int)) (paf_cons (o := .t (litF (.int 6))) (po_t (pf_int)) paf_nil))))) (po_b (pv 2)) (fun _ _ => rfl))) paf_nil)))) paf_nil))))) (po_t (pf_bin op_fdivA vok_fdiv (po_t (pf_call (ok_draw T) (hr.mono (by decide)) (by rfl) T.g_draw T.F_draw.kp T.b_draw (paf_cons (o := .b 1) (po_b (pv 1)) (paf_cons (o := .t (litF (.int 6))) (po_t (pf_int)) paf_nil)))) (po_t (pf_int)))) (fun _ _ => rfl)))))
      (psf_one (psf_if (fc := notF (tstF (.t (callF fn_right [.b 1, .b 3, .t (opF (eqD) [.t (callF fn_draw [.b 1, .t (litF (.int 2))]), .t (litF (.int 1))])])))) (ptf_not (pt_tst (o := .t (callF fn_right [.b 1, .b 3, .t (opF (eqD) [.t (callF fn_draw [.b 1, .t (litF (.int 2))]), .t (litF (.int 1))])])) (po_t (pf_call (ok_right T) (hr.mono (by decide)) (by rfl) T.g_right T.F_right.kp T.b_right (paf_cons (o := .b 1) (po_b (pv 1)) (paf_cons (o := .b 3) (po_b (pv 3)) (paf_cons (o := .t (opF (eqD) [.t (callF fn_draw [.b 1, .t (litF (.int 2))]), .t (litF (.int 1))])) (po_t (pf_cmp (op_eqD hr.units) vok_eq (po_t (pf_call (ok_draw T) (hr.mono (by decide)) (by rfl) T.g_draw T.F_draw.kp T.b_draw (paf_cons (o := .b 1) (po_b (pv 1)) (paf_cons (o := .t (litF (.int 2))) (po_t (pf_int)) paf_nil)))) (po_t (pf_int)) (nomark _))) paf_nil))))))) (psf_one (psf_ret (pf_bl))) (psf_nil)))))
      (psf_one (psf_ret (pf_bl))))
end
theorem all_mk {l : PySem.W.OpenLaw} {w : World} {K : PySem.W.Frag} {h : Heap} {mg : Str → Option Value} {fa f_draw f_same f_changed f_half f_signs f_halves f_flip f_put f_paired f_table_of f_p_check_size f_p_check_halves f_p_half_of_signs f_p_rows_of_signs f_p_half_mats f_p_how_many_halves f_p_round_of f_p_is_mat f_p_checked_mat f_p_through f_p_check_half f_p_check_pair f_p_far_end f_p_loose_rings f_p_put_behind f_p_paired f_p_remade f_p_upside_down f_p_pairing f_p_pairing_table f_right f_well f_law : Addr} (X : K.In h) (G : h.Ns mainGlobals mg) (hfa : mg "law" = some (.ref fa))
    (hlaw : ∀ ns : List Int, ns.length ≤ 63 → ∃ os, fn_law.sem [.scr ns] = some (.bl true, os))
    {od_draw an_draw : Option Addr} {sl_draw : Array (Option Value)} {oc_draw kV_draw dc_draw pm_draw cd_draw ct_draw : Value}
    {od_same an_same : Option Addr} {sl_same : Array (Option Value)} {oc_same kV_same dc_same pm_same cd_same ct_same : Value}
    {od_changed an_changed : Option Addr} {sl_changed : Array (Option Value)} {oc_changed kV_changed dc_changed pm_changed cd_changed ct_changed : Value}
    {od_half an_half : Option Addr} {sl_half : Array (Option Value)} {oc_half kV_half dc_half pm_half cd_half ct_half : Value}
    {od_signs an_signs : Option Addr} {sl_signs : Array (Option Value)} {oc_signs kV_signs dc_signs pm_signs cd_signs ct_signs : Value}
    {od_halves an_halves : Option Addr} {sl_halves : Array (Option Value)} {oc_halves kV_halves dc_halves pm_halves cd_halves ct_halves : Value}
    {od_flip an_flip : Option Addr} {sl_flip : Array (Option Value)} {oc_flip kV_flip dc_flip pm_flip cd_flip ct_flip : Value}
    {od_put an_put : Option Addr} {sl_put : Array (Option Value)} {oc_put kV_put dc_put pm_put cd_put ct_put : Value}
    {od_paired an_paired : Option Addr} {sl_paired : Array (Option Value)} {oc_paired kV_paired dc_paired pm_paired cd_paired ct_paired : Value}
    {od_table_of an_table_of : Option Addr} {sl_table_of : Array (Option Value)} {oc_table_of kV_table_of dc_table_of pm_table_of cd_table_of ct_table_of : Value}
    {od_p_check_size an_p_check_size : Option Addr} {sl_p_check_size : Array (Option Value)} {oc_p_check_size kV_p_check_size dc_p_check_size pm_p_check_size cd_p_check_size ct_p_check_size : Value}
    {od_p_check_halves an_p_check_halves : Option Addr} {sl_p_check_halves : Array (Option Value)} {oc_p_check_halves kV_p_check_halves dc_p_check_halves pm_p_check_halves cd_p_check_halves ct_p_check_halves : Value}
    {od_p_half_of_signs an_p_half_of_signs : Option Addr} {sl_p_half_of_signs : Array (Option Value)} {oc_p_half_of_signs kV_p_half_of_signs dc_p_half_of_signs pm_p_half_of_signs cd_p_half_of_signs ct_p_half_of_signs : Value}
    {od_p_rows_of_signs an_p_rows_of_signs : Option Addr} {sl_p_rows_of_signs : Array (Option Value)} {oc_p_rows_of_signs kV_p_rows_of_signs dc_p_rows_of_signs pm_p_rows_of_signs cd_p_rows_of_signs ct_p_rows_of_signs : Value}
    {od_p_half_mats an_p_half_mats : Option Addr} {sl_p_half_mats : Array (Option Value)} {oc_p_half_mats kV_p_half_mats dc_p_half_mats pm_p_half_mats cd_p_half_mats ct_p_half_mats : Value}
    {od_p_how_many_halves an_p_how_many_halves : Option Addr} {sl_p_how_many_halves : Array (Option Value)} {oc_p_how_many_halves kV_p_how_many_halves dc_p_how_many_halves pm_p_how_many_halves cd_p_how_many_halves ct_p_how_many_halves : Value}
    {od_p_round_of an_p_round_of : Option Addr} {sl_p_round_of : Array (Option Value)} {oc_p_round_of kV_p_round_of dc_p_round_of pm_p_round_of cd_p_round_of ct_p_round_of : Value}
    {od_p_is_mat an_p_is_mat : Option Addr} {sl_p_is_mat : Array (Option Value)} {oc_p_is_mat kV_p_is_mat dc_p_is_mat pm_p_is_mat cd_p_is_mat ct_p_is_mat : Value}
    {od_p_checked_mat an_p_checked_mat : Option Addr} {sl_p_checked_mat : Array (Option Value)} {oc_p_checked_mat kV_p_checked_mat dc_p_checked_mat pm_p_checked_mat cd_p_checked_mat ct_p_checked_mat : Value}
    {od_p_through an_p_through : Option Addr} {sl_p_through : Array (Option Value)} {oc_p_through kV_p_through dc_p_through pm_p_through cd_p_through ct_p_through : Value}
    {od_p_check_half an_p_check_half : Option Addr} {sl_p_check_half : Array (Option Value)} {oc_p_check_half kV_p_check_half dc_p_check_half pm_p_check_half cd_p_check_half ct_p_check_half : Value}
    {od_p_check_pair an_p_check_pair : Option Addr} {sl_p_check_pair : Array (Option Value)} {oc_p_check_pair kV_p_check_pair dc_p_check_pair pm_p_check_pair cd_p_check_pair ct_p_check_pair : Value}
    {od_p_far_end an_p_far_end : Option Addr} {sl_p_far_end : Array (Option Value)} {oc_p_far_end kV_p_far_end dc_p_far_end pm_p_far_end cd_p_far_end ct_p_far_end : Value}
    {od_p_loose_rings an_p_loose_rings : Option Addr} {sl_p_loose_rings : Array (Option Value)} {oc_p_loose_rings kV_p_loose_rings dc_p_loose_rings pm_p_loose_rings cd_p_loose_rings ct_p_loose_rings : Value}
    {od_p_put_behind an_p_put_behind : Option Addr} {sl_p_put_behind : Array (Option Value)} {oc_p_put_behind kV_p_put_behind dc_p_put_behind pm_p_put_behind cd_p_put_behind ct_p_put_behind : Value}
    {od_p_paired an_p_paired : Option Addr} {sl_p_paired : Array (Option Value)} {oc_p_paired kV_p_paired dc_p_paired pm_p_paired cd_p_paired ct_p_paired : Value}
    {od_p_remade an_p_remade : Option Addr} {sl_p_remade : Array (Option Value)} {oc_p_remade kV_p_remade dc_p_remade pm_p_remade cd_p_remade ct_p_remade : Value}
    {od_p_upside_down an_p_upside_down : Option Addr} {sl_p_upside_down : Array (Option Value)} {oc_p_upside_down kV_p_upside_down dc_p_upside_down pm_p_upside_down cd_p_upside_down ct_p_upside_down : Value}
    {od_p_pairing an_p_pairing : Option Addr} {sl_p_pairing : Array (Option Value)} {oc_p_pairing kV_p_pairing dc_p_pairing pm_p_pairing cd_p_pairing ct_p_pairing : Value}
    {od_p_pairing_table an_p_pairing_table : Option Addr} {sl_p_pairing_table : Array (Option Value)} {oc_p_pairing_table kV_p_pairing_table dc_p_pairing_table pm_p_pairing_table cd_p_pairing_table ct_p_pairing_table : Value}
    {od_right an_right : Option Addr} {sl_right : Array (Option Value)} {oc_right kV_right dc_right pm_right cd_right ct_right : Value}
    {od_well an_well : Option Addr} {sl_well : Array (Option Value)} {oc_well kV_well dc_well pm_well cd_well ct_well : Value}
    {od_law an_law : Option Addr} {sl_law : Array (Option Value)} {oc_law kV_law dc_law pm_law cd_law ct_law : Value}
    (a_draw : PySem.W.nsIn K mainGlobals "_law_draw" = some (some (.ref f_draw))) (l_draw : K.lookup f_draw = some ⟨oc_draw, od_draw, .func (PySem.W.fnOf "_law_draw" "_law_draw" (defArgs s_draw) (defBody s_draw) (defScope s_draw) .none kV_draw dc_draw pm_draw an_draw cd_draw ct_draw), sl_draw⟩) (c_draw : PySem.W.codeIn K cd_draw "_law_draw" = true) (k_draw : PySem.W.keepIn K (.ref f_draw) = true)
    (a_same : PySem.W.nsIn K mainGlobals "_law_same" = some (some (.ref f_same))) (l_same : K.lookup f_same = some ⟨oc_same, od_same, .func (PySem.W.fnOf "_law_same" "_law_same" (defArgs s_same) (defBody s_same) (defScope s_same) .none kV_same dc_same pm_same an_same cd_same ct_same), sl_same⟩) (c_same : PySem.W.codeIn K cd_same "_law_same" = true) (k_same : PySem.W.keepIn K (.ref f_same) = true)
    (a_changed : PySem.W.nsIn K mainGlobals "_law_changed" = some (some (.ref f_changed))) (l_changed : K.lookup f_changed = some ⟨oc_changed, od_changed, .func (PySem.W.fnOf "_law_changed" "_law_changed" (defArgs s_changed) (defBody s_changed) (defScope s_changed) .none kV_changed dc_changed pm_changed an_changed cd_changed ct_changed), sl_changed⟩) (c_changed : PySem.W.codeIn K cd_changed "_law_changed" = true) (k_changed : PySem.W.keepIn K (.ref f_changed) = true)
    (a_half : PySem.W.nsIn K mainGlobals "_law_half" = some (some (.ref f_half))) (l_half : K.lookup f_half = some ⟨oc_half, od_half, .func (PySem.W.fnOf "_law_half" "_law_half" (defArgs s_half) (defBody s_half) (defScope s_half) .none kV_half dc_half pm_half an_half cd_half ct_half), sl_half⟩) (c_half : PySem.W.codeIn K cd_half "_law_half" = true) (k_half : PySem.W.keepIn K (.ref f_half) = true)
    (a_signs : PySem.W.nsIn K mainGlobals "_law_signs" = some (some (.ref f_signs))) (l_signs : K.lookup f_signs = some ⟨oc_signs, od_signs, .func (PySem.W.fnOf "_law_signs" "_law_signs" (defArgs s_signs) (defBody s_signs) (defScope s_signs) .none kV_signs dc_signs pm_signs an_signs cd_signs ct_signs), sl_signs⟩) (c_signs : PySem.W.codeIn K cd_signs "_law_signs" = true) (k_signs : PySem.W.keepIn K (.ref f_signs) = true)
    (a_halves : PySem.W.nsIn K mainGlobals "_law_halves" = some (some (.ref f_halves))) (l_halves : K.lookup f_halves = some ⟨oc_halves, od_halves, .func (PySem.W.fnOf "_law_halves" "_law_halves" (defArgs s_halves) (defBody s_halves) (defScope s_halves) .none kV_halves dc_halves pm_halves an_halves cd_halves ct_halves), sl_halves⟩) (c_halves : PySem.W.codeIn K cd_halves "_law_halves" = true) (k_halves : PySem.W.keepIn K (.ref f_halves) = true)
    (a_flip : PySem.W.nsIn K mainGlobals "_law_flip" = some (some (.ref f_flip))) (l_flip : K.lookup f_flip = some ⟨oc_flip, od_flip, .func (PySem.W.fnOf "_law_flip" "_law_flip" (defArgs s_flip) (defBody s_flip) (defScope s_flip) .none kV_flip dc_flip pm_flip an_flip cd_flip ct_flip), sl_flip⟩) (c_flip : PySem.W.codeIn K cd_flip "_law_flip" = true) (k_flip : PySem.W.keepIn K (.ref f_flip) = true)
    (a_put : PySem.W.nsIn K mainGlobals "_law_put" = some (some (.ref f_put))) (l_put : K.lookup f_put = some ⟨oc_put, od_put, .func (PySem.W.fnOf "_law_put" "_law_put" (defArgs s_put) (defBody s_put) (defScope s_put) .none kV_put dc_put pm_put an_put cd_put ct_put), sl_put⟩) (c_put : PySem.W.codeIn K cd_put "_law_put" = true) (k_put : PySem.W.keepIn K (.ref f_put) = true)
    (a_paired : PySem.W.nsIn K mainGlobals "_law_paired" = some (some (.ref f_paired))) (l_paired : K.lookup f_paired = some ⟨oc_paired, od_paired, .func (PySem.W.fnOf "_law_paired" "_law_paired" (defArgs s_paired) (defBody s_paired) (defScope s_paired) .none kV_paired dc_paired pm_paired an_paired cd_paired ct_paired), sl_paired⟩) (c_paired : PySem.W.codeIn K cd_paired "_law_paired" = true) (k_paired : PySem.W.keepIn K (.ref f_paired) = true)
    (a_table_of : PySem.W.nsIn K mainGlobals "_law_table_of" = some (some (.ref f_table_of))) (l_table_of : K.lookup f_table_of = some ⟨oc_table_of, od_table_of, .func (PySem.W.fnOf "_law_table_of" "_law_table_of" (defArgs s_table_of) (defBody s_table_of) (defScope s_table_of) .none kV_table_of dc_table_of pm_table_of an_table_of cd_table_of ct_table_of), sl_table_of⟩) (c_table_of : PySem.W.codeIn K cd_table_of "_law_table_of" = true) (k_table_of : PySem.W.keepIn K (.ref f_table_of) = true)
    (a_p_check_size : PySem.W.nsIn K mainGlobals "check_size" = some (some (.ref f_p_check_size))) (l_p_check_size : K.lookup f_p_check_size = some ⟨oc_p_check_size, od_p_check_size, .func (PySem.W.fnOf "check_size" "check_size" (defArgs s_p_check_size) (defBody s_p_check_size) (defScope s_p_check_size) .none kV_p_check_size dc_p_check_size pm_p_check_size an_p_check_size cd_p_check_size ct_p_check_size), sl_p_check_size⟩) (c_p_check_size : PySem.W.codeIn K cd_p_check_size "check_size" = true) (k_p_check_size : PySem.W.keepIn K (.ref f_p_check_size) = true)
    (a_p_check_halves : PySem.W.nsIn K mainGlobals "check_halves" = some (some (.ref f_p_check_halves))) (l_p_check_halves : K.lookup f_p_check_halves = some ⟨oc_p_check_halves, od_p_check_halves, .func (PySem.W.fnOf "check_halves" "check_halves" (defArgs s_p_check_halves) (defBody s_p_check_halves) (defScope s_p_check_halves) .none kV_p_check_halves dc_p_check_halves pm_p_check_halves an_p_check_halves cd_p_check_halves ct_p_check_halves), sl_p_check_halves⟩) (c_p_check_halves : PySem.W.codeIn K cd_p_check_halves "check_halves" = true) (k_p_check_halves : PySem.W.keepIn K (.ref f_p_check_halves) = true)
    (a_p_half_of_signs : PySem.W.nsIn K mainGlobals "half_of_signs" = some (some (.ref f_p_half_of_signs))) (l_p_half_of_signs : K.lookup f_p_half_of_signs = some ⟨oc_p_half_of_signs, od_p_half_of_signs, .func (PySem.W.fnOf "half_of_signs" "half_of_signs" (defArgs s_p_half_of_signs) (defBody s_p_half_of_signs) (defScope s_p_half_of_signs) .none kV_p_half_of_signs dc_p_half_of_signs pm_p_half_of_signs an_p_half_of_signs cd_p_half_of_signs ct_p_half_of_signs), sl_p_half_of_signs⟩) (c_p_half_of_signs : PySem.W.codeIn K cd_p_half_of_signs "half_of_signs" = true) (k_p_half_of_signs : PySem.W.keepIn K (.ref f_p_half_of_signs) = true)
    (a_p_rows_of_signs : PySem.W.nsIn K mainGlobals "rows_of_signs" = some (some (.ref f_p_rows_of_signs))) (l_p_rows_of_signs : K.lookup f_p_rows_of_signs = some ⟨oc_p_rows_of_signs, od_p_rows_of_signs, .func (PySem.W.fnOf "rows_of_signs" "rows_of_signs" (defArgs s_p_rows_of_signs) (defBody s_p_rows_of_signs) (defScope s_p_rows_of_signs) .none kV_p_rows_of_signs dc_p_rows_of_signs pm_p_rows_of_signs an_p_rows_of_signs cd_p_rows_of_signs ct_p_rows_of_signs), sl_p_rows_of_signs⟩) (c_p_rows_of_signs : PySem.W.codeIn K cd_p_rows_of_signs "rows_of_signs" = true) (k_p_rows_of_signs : PySem.W.keepIn K (.ref f_p_rows_of_signs) = true)
    (a_p_half_mats : PySem.W.nsIn K mainGlobals "half_mats" = some (some (.ref f_p_half_mats))) (l_p_half_mats : K.lookup f_p_half_mats = some ⟨oc_p_half_mats, od_p_half_mats, .func (PySem.W.fnOf "half_mats" "half_mats" (defArgs s_p_half_mats) (defBody s_p_half_mats) (defScope s_p_half_mats) .none kV_p_half_mats dc_p_half_mats pm_p_half_mats an_p_half_mats cd_p_half_mats ct_p_half_mats), sl_p_half_mats⟩) (c_p_half_mats : PySem.W.codeIn K cd_p_half_mats "half_mats" = true) (k_p_half_mats : PySem.W.keepIn K (.ref f_p_half_mats) = true)
    (a_p_how_many_halves : PySem.W.nsIn K mainGlobals "how_many_halves" = some (some (.ref f_p_how_many_halves))) (l_p_how_many_halves : K.lookup f_p_how_many_halves = some ⟨oc_p_how_many_halves, od_p_how_many_halves, .func (PySem.W.fnOf "how_many_halves" "how_many_halves" (defArgs s_p_how_many_halves) (defBody s_p_how_many_halves) (defScope s_p_how_many_halves) .none kV_p_how_many_halves dc_p_how_many_halves pm_p_how_many_halves an_p_how_many_halves cd_p_how_many_halves ct_p_how_many_halves), sl_p_how_many_halves⟩) (c_p_how_many_halves : PySem.W.codeIn K cd_p_how_many_halves "how_many_halves" = true) (k_p_how_many_halves : PySem.W.keepIn K (.ref f_p_how_many_halves) = true)
    (a_p_round_of : PySem.W.nsIn K mainGlobals "round_of" = some (some (.ref f_p_round_of))) (l_p_round_of : K.lookup f_p_round_of = some ⟨oc_p_round_of, od_p_round_of, .func (PySem.W.fnOf "round_of" "round_of" (defArgs s_p_round_of) (defBody s_p_round_of) (defScope s_p_round_of) .none kV_p_round_of dc_p_round_of pm_p_round_of an_p_round_of cd_p_round_of ct_p_round_of), sl_p_round_of⟩) (c_p_round_of : PySem.W.codeIn K cd_p_round_of "round_of" = true) (k_p_round_of : PySem.W.keepIn K (.ref f_p_round_of) = true)
    (a_p_is_mat : PySem.W.nsIn K mainGlobals "is_mat" = some (some (.ref f_p_is_mat))) (l_p_is_mat : K.lookup f_p_is_mat = some ⟨oc_p_is_mat, od_p_is_mat, .func (PySem.W.fnOf "is_mat" "is_mat" (defArgs s_p_is_mat) (defBody s_p_is_mat) (defScope s_p_is_mat) .none kV_p_is_mat dc_p_is_mat pm_p_is_mat an_p_is_mat cd_p_is_mat ct_p_is_mat), sl_p_is_mat⟩) (c_p_is_mat : PySem.W.codeIn K cd_p_is_mat "is_mat" = true) (k_p_is_mat : PySem.W.keepIn K (.ref f_p_is_mat) = true)
    (a_p_checked_mat : PySem.W.nsIn K mainGlobals "checked_mat" = some (some (.ref f_p_checked_mat))) (l_p_checked_mat : K.lookup f_p_checked_mat = some ⟨oc_p_checked_mat, od_p_checked_mat, .func (PySem.W.fnOf "checked_mat" "checked_mat" (defArgs s_p_checked_mat) (defBody s_p_checked_mat) (defScope s_p_checked_mat) .none kV_p_checked_mat dc_p_checked_mat pm_p_checked_mat an_p_checked_mat cd_p_checked_mat ct_p_checked_mat), sl_p_checked_mat⟩) (c_p_checked_mat : PySem.W.codeIn K cd_p_checked_mat "checked_mat" = true) (k_p_checked_mat : PySem.W.keepIn K (.ref f_p_checked_mat) = true)
    (a_p_through : PySem.W.nsIn K mainGlobals "through" = some (some (.ref f_p_through))) (l_p_through : K.lookup f_p_through = some ⟨oc_p_through, od_p_through, .func (PySem.W.fnOf "through" "through" (defArgs s_p_through) (defBody s_p_through) (defScope s_p_through) .none kV_p_through dc_p_through pm_p_through an_p_through cd_p_through ct_p_through), sl_p_through⟩) (c_p_through : PySem.W.codeIn K cd_p_through "through" = true) (k_p_through : PySem.W.keepIn K (.ref f_p_through) = true)
    (a_p_check_half : PySem.W.nsIn K mainGlobals "check_half" = some (some (.ref f_p_check_half))) (l_p_check_half : K.lookup f_p_check_half = some ⟨oc_p_check_half, od_p_check_half, .func (PySem.W.fnOf "check_half" "check_half" (defArgs s_p_check_half) (defBody s_p_check_half) (defScope s_p_check_half) .none kV_p_check_half dc_p_check_half pm_p_check_half an_p_check_half cd_p_check_half ct_p_check_half), sl_p_check_half⟩) (c_p_check_half : PySem.W.codeIn K cd_p_check_half "check_half" = true) (k_p_check_half : PySem.W.keepIn K (.ref f_p_check_half) = true)
    (a_p_check_pair : PySem.W.nsIn K mainGlobals "check_pair" = some (some (.ref f_p_check_pair))) (l_p_check_pair : K.lookup f_p_check_pair = some ⟨oc_p_check_pair, od_p_check_pair, .func (PySem.W.fnOf "check_pair" "check_pair" (defArgs s_p_check_pair) (defBody s_p_check_pair) (defScope s_p_check_pair) .none kV_p_check_pair dc_p_check_pair pm_p_check_pair an_p_check_pair cd_p_check_pair ct_p_check_pair), sl_p_check_pair⟩) (c_p_check_pair : PySem.W.codeIn K cd_p_check_pair "check_pair" = true) (k_p_check_pair : PySem.W.keepIn K (.ref f_p_check_pair) = true)
    (a_p_far_end : PySem.W.nsIn K mainGlobals "far_end" = some (some (.ref f_p_far_end))) (l_p_far_end : K.lookup f_p_far_end = some ⟨oc_p_far_end, od_p_far_end, .func (PySem.W.fnOf "far_end" "far_end" (defArgs s_p_far_end) (defBody s_p_far_end) (defScope s_p_far_end) .none kV_p_far_end dc_p_far_end pm_p_far_end an_p_far_end cd_p_far_end ct_p_far_end), sl_p_far_end⟩) (c_p_far_end : PySem.W.codeIn K cd_p_far_end "far_end" = true) (k_p_far_end : PySem.W.keepIn K (.ref f_p_far_end) = true)
    (a_p_loose_rings : PySem.W.nsIn K mainGlobals "loose_rings" = some (some (.ref f_p_loose_rings))) (l_p_loose_rings : K.lookup f_p_loose_rings = some ⟨oc_p_loose_rings, od_p_loose_rings, .func (PySem.W.fnOf "loose_rings" "loose_rings" (defArgs s_p_loose_rings) (defBody s_p_loose_rings) (defScope s_p_loose_rings) .none kV_p_loose_rings dc_p_loose_rings pm_p_loose_rings an_p_loose_rings cd_p_loose_rings ct_p_loose_rings), sl_p_loose_rings⟩) (c_p_loose_rings : PySem.W.codeIn K cd_p_loose_rings "loose_rings" = true) (k_p_loose_rings : PySem.W.keepIn K (.ref f_p_loose_rings) = true)
    (a_p_put_behind : PySem.W.nsIn K mainGlobals "put_behind" = some (some (.ref f_p_put_behind))) (l_p_put_behind : K.lookup f_p_put_behind = some ⟨oc_p_put_behind, od_p_put_behind, .func (PySem.W.fnOf "put_behind" "put_behind" (defArgs s_p_put_behind) (defBody s_p_put_behind) (defScope s_p_put_behind) .none kV_p_put_behind dc_p_put_behind pm_p_put_behind an_p_put_behind cd_p_put_behind ct_p_put_behind), sl_p_put_behind⟩) (c_p_put_behind : PySem.W.codeIn K cd_p_put_behind "put_behind" = true) (k_p_put_behind : PySem.W.keepIn K (.ref f_p_put_behind) = true)
    (a_p_paired : PySem.W.nsIn K mainGlobals "paired" = some (some (.ref f_p_paired))) (l_p_paired : K.lookup f_p_paired = some ⟨oc_p_paired, od_p_paired, .func (PySem.W.fnOf "paired" "paired" (defArgs s_p_paired) (defBody s_p_paired) (defScope s_p_paired) .none kV_p_paired dc_p_paired pm_p_paired an_p_paired cd_p_paired ct_p_paired), sl_p_paired⟩) (c_p_paired : PySem.W.codeIn K cd_p_paired "paired" = true) (k_p_paired : PySem.W.keepIn K (.ref f_p_paired) = true)
    (a_p_remade : PySem.W.nsIn K mainGlobals "remade" = some (some (.ref f_p_remade))) (l_p_remade : K.lookup f_p_remade = some ⟨oc_p_remade, od_p_remade, .func (PySem.W.fnOf "remade" "remade" (defArgs s_p_remade) (defBody s_p_remade) (defScope s_p_remade) .none kV_p_remade dc_p_remade pm_p_remade an_p_remade cd_p_remade ct_p_remade), sl_p_remade⟩) (c_p_remade : PySem.W.codeIn K cd_p_remade "remade" = true) (k_p_remade : PySem.W.keepIn K (.ref f_p_remade) = true)
    (a_p_upside_down : PySem.W.nsIn K mainGlobals "upside_down" = some (some (.ref f_p_upside_down))) (l_p_upside_down : K.lookup f_p_upside_down = some ⟨oc_p_upside_down, od_p_upside_down, .func (PySem.W.fnOf "upside_down" "upside_down" (defArgs s_p_upside_down) (defBody s_p_upside_down) (defScope s_p_upside_down) .none kV_p_upside_down dc_p_upside_down pm_p_upside_down an_p_upside_down cd_p_upside_down ct_p_upside_down), sl_p_upside_down⟩) (c_p_upside_down : PySem.W.codeIn K cd_p_upside_down "upside_down" = true) (k_p_upside_down : PySem.W.keepIn K (.ref f_p_upside_down) = true)
    (a_p_pairing : PySem.W.nsIn K mainGlobals "pairing" = some (some (.ref f_p_pairing))) (l_p_pairing : K.lookup f_p_pairing = some ⟨oc_p_pairing, od_p_pairing, .func (PySem.W.fnOf "pairing" "pairing" (defArgs s_p_pairing) (defBody s_p_pairing) (defScope s_p_pairing) .none kV_p_pairing dc_p_pairing pm_p_pairing an_p_pairing cd_p_pairing ct_p_pairing), sl_p_pairing⟩) (c_p_pairing : PySem.W.codeIn K cd_p_pairing "pairing" = true) (k_p_pairing : PySem.W.keepIn K (.ref f_p_pairing) = true)
    (a_p_pairing_table : PySem.W.nsIn K mainGlobals "pairing_table" = some (some (.ref f_p_pairing_table))) (l_p_pairing_table : K.lookup f_p_pairing_table = some ⟨oc_p_pairing_table, od_p_pairing_table, .func (PySem.W.fnOf "pairing_table" "pairing_table" (defArgs s_p_pairing_table) (defBody s_p_pairing_table) (defScope s_p_pairing_table) .none kV_p_pairing_table dc_p_pairing_table pm_p_pairing_table an_p_pairing_table cd_p_pairing_table ct_p_pairing_table), sl_p_pairing_table⟩) (c_p_pairing_table : PySem.W.codeIn K cd_p_pairing_table "pairing_table" = true) (k_p_pairing_table : PySem.W.keepIn K (.ref f_p_pairing_table) = true)
    (a_right : PySem.W.nsIn K mainGlobals "_law_right" = some (some (.ref f_right))) (l_right : K.lookup f_right = some ⟨oc_right, od_right, .func (PySem.W.fnOf "_law_right" "_law_right" (defArgs s_right) (defBody s_right) (defScope s_right) .none kV_right dc_right pm_right an_right cd_right ct_right), sl_right⟩) (c_right : PySem.W.codeIn K cd_right "_law_right" = true) (k_right : PySem.W.keepIn K (.ref f_right) = true)
    (a_well : PySem.W.nsIn K mainGlobals "_law_well" = some (some (.ref f_well))) (l_well : K.lookup f_well = some ⟨oc_well, od_well, .func (PySem.W.fnOf "_law_well" "_law_well" (defArgs s_well) (defBody s_well) (defScope s_well) .none kV_well dc_well pm_well an_well cd_well ct_well), sl_well⟩) (c_well : PySem.W.codeIn K cd_well "_law_well" = true) (k_well : PySem.W.keepIn K (.ref f_well) = true)
    (a_law : PySem.W.nsIn K mainGlobals "law" = some (some (.ref f_law))) (l_law : K.lookup f_law = some ⟨oc_law, od_law, .func (PySem.W.fnOf "law" "law" (defArgs s_law) (defBody s_law) (defScope s_law) .none kV_law dc_law pm_law an_law cd_law ct_law), sl_law⟩) (c_law : PySem.W.codeIn K cd_law "law" = true) (k_law : PySem.W.keepIn K (.ref f_law) = true)
    (z_abs : PySem.W.nsIn K mainGlobals "abs" = some none)
    (z_all : PySem.W.nsIn K mainGlobals "all" = some none)
    (z_enumerate : PySem.W.nsIn K mainGlobals "enumerate" = some none)
    (z_int : PySem.W.nsIn K mainGlobals "int" = some none)
    (z_isinstance : PySem.W.nsIn K mainGlobals "isinstance" = some none)
    (z_len : PySem.W.nsIn K mainGlobals "len" = some none)
    (z_list : PySem.W.nsIn K mainGlobals "list" = some none)
    (z_range : PySem.W.nsIn K mainGlobals "range" = some none)
    (z_sorted : PySem.W.nsIn K mainGlobals "sorted" = some none)
    (z_str : PySem.W.nsIn K mainGlobals "str" = some none)
    (z_tuple : PySem.W.nsIn K mainGlobals "tuple" = some none)
    (z_comb : PySem.W.nsIn K mainGlobals "comb" = some (some (.builtin "math.comb")))
    : ∃ fd : FuncData, (∀ (s : Shared) (v : Value), BindsTo s fd ⟨[v], []⟩ [("_law_script", v)]) ∧ ∀ base : Heap, K.In base → base.Ns mainGlobals mg → FnOk l.prog w K mg base CX0 24 fa fd ["_law_script"] (spLaw K) := by
  have e := hfa.symm.trans (PySem.W.mg_of X G a_law)
  cases e
  have F_draw := fun_mk (st := s_draw) l_draw c_draw k_draw
  have b_draw := F_draw.binds (ps := ["_law_well_here", "_law_limit"]) fun _ _ _ _ _ _ us hl => match us, hl with | [_, _], _ => rfl
  have F_same := fun_mk (st := s_same) l_same c_same k_same
  have b_same := F_same.binds (ps := ["_law_found", "_law_due"]) fun _ _ _ _ _ _ us hl => match us, hl with | [_, _], _ => rfl
  have F_changed := fun_mk (st := s_changed) l_changed c_changed k_changed
  have b_changed := F_changed.binds (ps := ["_law_found", "_law_due", "_law_row", "_law_column"]) fun _ _ _ _ _ _ us hl => match us, hl with | [_, _, _, _], _ => rfl
  have F_half := fun_mk (st := s_half) l_half c_half k_half
  have b_half := F_half.binds (ps := ["_law_signs_here"]) fun _ _ _ _ _ _ us hl => match us, hl with | [_], _ => rfl
  have F_signs := fun_mk (st := s_signs) l_signs c_signs k_signs
  have b_signs := F_signs.binds (ps := ["_law_many", "_law_goal"]) fun _ _ _ _ _ _ us hl => match us, hl with | [_, _], _ => rfl
  have F_halves := fun_mk (st := s_halves) l_halves c_halves k_halves
  have b_halves := F_halves.binds (ps := ["_law_n", "_law_k"]) fun _ _ _ _ _ _ us hl => match us, hl with | [_, _], _ => rfl
  have F_flip := fun_mk (st := s_flip) l_flip c_flip k_flip
  have b_flip := F_flip.binds (ps := ["_law_mesh"]) fun _ _ _ _ _ _ us hl => match us, hl with | [_], _ => rfl
  have F_put := fun_mk (st := s_put) l_put c_put k_put
  have b_put := F_put.binds (ps := ["_law_one", "_law_other"]) fun _ _ _ _ _ _ us hl => match us, hl with | [_, _], _ => rfl
  have F_paired := fun_mk (st := s_paired) l_paired c_paired k_paired
  have b_paired := F_paired.binds (ps := ["_law_one", "_law_other"]) fun _ _ _ _ _ _ us hl => match us, hl with | [_, _], _ => rfl
  have F_table_of := fun_mk (st := s_table_of) l_table_of c_table_of k_table_of
  have b_table_of := F_table_of.binds (ps := ["_law_halves_here"]) fun _ _ _ _ _ _ us hl => match us, hl with | [_], _ => rfl
  have F_p_check_size := fun_mk (st := s_p_check_size) l_p_check_size c_p_check_size k_p_check_size
  have b_p_check_size := F_p_check_size.binds (ps := ["n"]) fun _ _ _ _ _ _ us hl => match us, hl with | [_], _ => rfl
  have F_p_check_halves := fun_mk (st := s_p_check_halves) l_p_check_halves c_p_check_halves k_p_check_halves
  have b_p_check_halves := F_p_check_halves.binds (ps := ["n", "k"]) fun _ _ _ _ _ _ us hl => match us, hl with | [_, _], _ => rfl
  have F_p_half_of_signs := fun_mk (st := s_p_half_of_signs) l_p_half_of_signs c_p_half_of_signs k_p_half_of_signs
  have b_p_half_of_signs := F_p_half_of_signs.binds (ps := ["row"]) fun _ _ _ _ _ _ us hl => match us, hl with | [_], _ => rfl
  have F_p_rows_of_signs := fun_mk (st := s_p_rows_of_signs) l_p_rows_of_signs c_p_rows_of_signs k_p_rows_of_signs
  have b_p_rows_of_signs := F_p_rows_of_signs.binds (ps := ["n", "k"]) fun _ _ _ _ _ _ us hl => match us, hl with | [_, _], _ => rfl
  have F_p_half_mats := fun_mk (st := s_p_half_mats) l_p_half_mats c_p_half_mats k_p_half_mats
  have b_p_half_mats := F_p_half_mats.binds (ps := ["n", "k"]) fun _ _ _ _ _ _ us hl => match us, hl with | [_, _], _ => rfl
  have F_p_how_many_halves := fun_mk (st := s_p_how_many_halves) l_p_how_many_halves c_p_how_many_halves k_p_how_many_halves
  have b_p_how_many_halves := F_p_how_many_halves.binds (ps := ["n", "k"]) fun _ _ _ _ _ _ us hl => match us, hl with | [_, _], _ => rfl
  have F_p_round_of := fun_mk (st := s_p_round_of) l_p_round_of c_p_round_of k_p_round_of
  have b_p_round_of := F_p_round_of.binds (ps := ["n", "m"]) fun _ _ _ _ _ _ us hl => match us, hl with | [_, _], _ => rfl
  have F_p_is_mat := fun_mk (st := s_p_is_mat) l_p_is_mat c_p_is_mat k_p_is_mat
  have b_p_is_mat := F_p_is_mat.binds (ps := ["told"]) fun _ _ _ _ _ _ us hl => match us, hl with | [_], _ => rfl
  have F_p_checked_mat := fun_mk (st := s_p_checked_mat) l_p_checked_mat c_p_checked_mat k_p_checked_mat
  have b_p_checked_mat := F_p_checked_mat.binds (ps := ["mat"]) fun _ _ _ _ _ _ us hl => match us, hl with | [_], _ => rfl
  have F_p_through := fun_mk (st := s_p_through) l_p_through c_p_through k_p_through
  have b_p_through := F_p_through.binds (ps := ["mat"]) fun _ _ _ _ _ _ us hl => match us, hl with | [_], _ => rfl
  have F_p_check_half := fun_mk (st := s_p_check_half) l_p_check_half c_p_check_half k_p_check_half
  have b_p_check_half := F_p_check_half.binds (ps := ["mat"]) fun _ _ _ _ _ _ us hl => match us, hl with | [_], _ => rfl
  have F_p_check_pair := fun_mk (st := s_p_check_pair) l_p_check_pair c_p_check_pair k_p_check_pair
  have b_p_check_pair := F_p_check_pair.binds (ps := ["above", "below"]) fun _ _ _ _ _ _ us hl => match us, hl with | [_, _], _ => rfl
  have F_p_far_end := fun_mk (st := s_p_far_end) l_p_far_end c_p_far_end k_p_far_end
  have b_p_far_end := F_p_far_end.binds (ps := ["one", "other", "peg", "passed"]) fun _ _ _ _ _ _ us hl => match us, hl with | [_, _, _, _], _ => rfl
  have F_p_loose_rings := fun_mk (st := s_p_loose_rings) l_p_loose_rings c_p_loose_rings k_p_loose_rings
  have b_p_loose_rings := F_p_loose_rings.binds (ps := ["one", "other", "passed"]) fun _ _ _ _ _ _ us hl => match us, hl with | [_, _, _], _ => rfl
  have F_p_put_behind := fun_mk (st := s_p_put_behind) l_p_put_behind c_p_put_behind k_p_put_behind
  have b_p_put_behind := F_p_put_behind.binds (ps := ["one", "other"]) fun _ _ _ _ _ _ us hl => match us, hl with | [_, _], _ => rfl
  have F_p_paired := fun_mk (st := s_p_paired) l_p_paired c_p_paired k_p_paired
  have b_p_paired := F_p_paired.binds (ps := ["ahead", "other"]) fun _ _ _ _ _ _ us hl => match us, hl with | [_, _], _ => rfl
  have F_p_remade := fun_mk (st := s_p_remade) l_p_remade c_p_remade k_p_remade
  have b_p_remade := F_p_remade.binds (ps := ["n", "m", "mates", "place"]) fun _ _ _ _ _ _ us hl => match us, hl with | [_, _, _, _], _ => rfl
  have F_p_upside_down := fun_mk (st := s_p_upside_down) l_p_upside_down c_p_upside_down k_p_upside_down
  have b_p_upside_down := F_p_upside_down.binds (ps := ["mat"]) fun _ _ _ _ _ _ us hl => match us, hl with | [_], _ => rfl
  have F_p_pairing := fun_mk (st := s_p_pairing) l_p_pairing c_p_pairing k_p_pairing
  have b_p_pairing := F_p_pairing.binds (ps := ["one", "other"]) fun _ _ _ _ _ _ us hl => match us, hl with | [_, _], _ => rfl
  have F_p_pairing_table := fun_mk (st := s_p_pairing_table) l_p_pairing_table c_p_pairing_table k_p_pairing_table
  have b_p_pairing_table := F_p_pairing_table.binds (ps := ["n", "k"]) fun _ _ _ _ _ _ us hl => match us, hl with | [_, _], _ => rfl
  have F_right := fun_mk (st := s_right) l_right c_right k_right
  have b_right := F_right.binds (ps := ["_law_well_here", "_law_n", "_law_named"]) fun _ _ _ _ _ _ us hl => match us, hl with | [_, _, _], _ => rfl
  have F_well := fun_mk (st := s_well) l_well c_well k_well
  have b_well := F_well.binds (ps := ["_law_script"]) fun _ _ _ _ _ _ us hl => match us, hl with | [_], _ => rfl
  have F_law := fun_mk (st := s_law) l_law c_law k_law
  have b_law := F_law.binds (ps := ["_law_script"]) fun _ _ _ _ _ _ us hl => match us, hl with | [_], _ => rfl
  have kb0_p_pairing_table : KB K _ ["n", "k"] 0 ["k", "n"] [1, 0] := kb_of F_p_pairing_table fun _ _ _ _ _ _ us ws h1 h2 => match us, ws, h1, h2 with | [], [_, _], _, _ => rfl
  have kb1_p_half_mats : KB K _ ["n", "k"] 0 ["n", "k"] [0, 1] := kb_of F_p_half_mats fun _ _ _ _ _ _ us ws h1 h2 => match us, ws, h1, h2 with | [], [_, _], _, _ => rfl
  have T : Tx K mg := ⟨_, _, F_draw, b_draw, PySem.W.mg_of X G a_draw, _, _, F_same, b_same, PySem.W.mg_of X G a_same, _, _, F_changed, b_changed, PySem.W.mg_of X G a_changed, _, _, F_half, b_half, PySem.W.mg_of X G a_half, _, _, F_signs, b_signs, PySem.W.mg_of X G a_signs, _, _, F_halves, b_halves, PySem.W.mg_of X G a_halves, _, _, F_flip, b_flip, PySem.W.mg_of X G a_flip, _, _, F_put, b_put, PySem.W.mg_of X G a_put, _, _, F_paired, b_paired, PySem.W.mg_of X G a_paired, _, _, F_table_of, b_table_of, PySem.W.mg_of X G a_table_of, _, _, F_p_check_size, b_p_check_size, PySem.W.mg_of X G a_p_check_size, _, _, F_p_check_halves, b_p_check_halves, PySem.W.mg_of X G a_p_check_halves, _, _, F_p_half_of_signs, b_p_half_of_signs, PySem.W.mg_of X G a_p_half_of_signs, _, _, F_p_rows_of_signs, b_p_rows_of_signs, PySem.W.mg_of X G a_p_rows_of_signs, _, _, F_p_half_mats, b_p_half_mats, PySem.W.mg_of X G a_p_half_mats, _, _, F_p_how_many_halves, b_p_how_many_halves, PySem.W.mg_of X G a_p_how_many_halves, _, _, F_p_round_of, b_p_round_of, PySem.W.mg_of X G a_p_round_of, _, _, F_p_is_mat, b_p_is_mat, PySem.W.mg_of X G a_p_is_mat, _, _, F_p_checked_mat, b_p_checked_mat, PySem.W.mg_of X G a_p_checked_mat, _, _, F_p_through, b_p_through, PySem.W.mg_of X G a_p_through, _, _, F_p_check_half, b_p_check_half, PySem.W.mg_of X G a_p_check_half, _, _, F_p_check_pair, b_p_check_pair, PySem.W.mg_of X G a_p_check_pair, _, _, F_p_far_end, b_p_far_end, PySem.W.mg_of X G a_p_far_end, _, _, F_p_loose_rings, b_p_loose_rings, PySem.W.mg_of X G a_p_loose_rings, _, _, F_p_put_behind, b_p_put_behind, PySem.W.mg_of X G a_p_put_behind, _, _, F_p_paired, b_p_paired, PySem.W.mg_of X G a_p_paired, _, _, F_p_remade, b_p_remade, PySem.W.mg_of X G a_p_remade, _, _, F_p_upside_down, b_p_upside_down, PySem.W.mg_of X G a_p_upside_down, _, _, F_p_pairing, b_p_pairing, PySem.W.mg_of X G a_p_pairing, _, _, F_p_pairing_table, b_p_pairing_table, PySem.W.mg_of X G a_p_pairing_table, _, _, F_right, b_right, PySem.W.mg_of X G a_right, _, _, F_well, b_well, PySem.W.mg_of X G a_well, _, _, F_law, b_law, PySem.W.mg_of X G a_law, kb0_p_pairing_table, kb1_p_half_mats, PySem.W.mg_none_of X G z_abs, PySem.W.mg_none_of X G z_all, PySem.W.mg_none_of X G z_enumerate, PySem.W.mg_none_of X G z_int, PySem.W.mg_none_of X G z_isinstance, PySem.W.mg_none_of X G z_len, PySem.W.mg_none_of X G z_list, PySem.W.mg_none_of X G z_range, PySem.W.mg_none_of X G z_sorted, PySem.W.mg_none_of X G z_str, PySem.W.mg_none_of X G z_tuple, PySem.W.mg_of X G z_comb⟩
  exact ⟨_, fun s v => .of_eq rfl, fun base _ _ => (ok_law (P := l.prog) (w := w) (base := base) ⟨_, _, F_draw, b_draw, PySem.W.mg_of X G a_draw, _, _, F_same, b_same, PySem.W.mg_of X G a_same, _, _, F_changed, b_changed, PySem.W.mg_of X G a_changed, _, _, F_half, b_half, PySem.W.mg_of X G a_half, _, _, F_signs, b_signs, PySem.W.mg_of X G a_signs, _, _, F_halves, b_halves, PySem.W.mg_of X G a_halves, _, _, F_flip, b_flip, PySem.W.mg_of X G a_flip, _, _, F_put, b_put, PySem.W.mg_of X G a_put, _, _, F_paired, b_paired, PySem.W.mg_of X G a_paired, _, _, F_table_of, b_table_of, PySem.W.mg_of X G a_table_of, _, _, F_p_check_size, b_p_check_size, PySem.W.mg_of X G a_p_check_size, _, _, F_p_check_halves, b_p_check_halves, PySem.W.mg_of X G a_p_check_halves, _, _, F_p_half_of_signs, b_p_half_of_signs, PySem.W.mg_of X G a_p_half_of_signs, _, _, F_p_rows_of_signs, b_p_rows_of_signs, PySem.W.mg_of X G a_p_rows_of_signs, _, _, F_p_half_mats, b_p_half_mats, PySem.W.mg_of X G a_p_half_mats, _, _, F_p_how_many_halves, b_p_how_many_halves, PySem.W.mg_of X G a_p_how_many_halves, _, _, F_p_round_of, b_p_round_of, PySem.W.mg_of X G a_p_round_of, _, _, F_p_is_mat, b_p_is_mat, PySem.W.mg_of X G a_p_is_mat, _, _, F_p_checked_mat, b_p_checked_mat, PySem.W.mg_of X G a_p_checked_mat, _, _, F_p_through, b_p_through, PySem.W.mg_of X G a_p_through, _, _, F_p_check_half, b_p_check_half, PySem.W.mg_of X G a_p_check_half, _, _, F_p_check_pair, b_p_check_pair, PySem.W.mg_of X G a_p_check_pair, _, _, F_p_far_end, b_p_far_end, PySem.W.mg_of X G a_p_far_end, _, _, F_p_loose_rings, b_p_loose_rings, PySem.W.mg_of X G a_p_loose_rings, _, _, F_p_put_behind, b_p_put_behind, PySem.W.mg_of X G a_p_put_behind, _, _, F_p_paired, b_p_paired, PySem.W.mg_of X G a_p_paired, _, _, F_p_remade, b_p_remade, PySem.W.mg_of X G a_p_remade, _, _, F_p_upside_down, b_p_upside_down, PySem.W.mg_of X G a_p_upside_down, _, _, F_p_pairing, b_p_pairing, PySem.W.mg_of X G a_p_pairing, _, _, F_p_pairing_table, b_p_pairing_table, PySem.W.mg_of X G a_p_pairing_table, _, _, F_right, b_right, PySem.W.mg_of X G a_right, _, _, F_well, b_well, PySem.W.mg_of X G a_well, _, _, F_law, b_law, PySem.W.mg_of X G a_law, kb0_p_pairing_table, kb1_p_half_mats, PySem.W.mg_none_of X G z_abs, PySem.W.mg_none_of X G z_all, PySem.W.mg_none_of X G z_enumerate, PySem.W.mg_none_of X G z_int, PySem.W.mg_none_of X G z_isinstance, PySem.W.mg_none_of X G z_len, PySem.W.mg_none_of X G z_list, PySem.W.mg_none_of X G z_range, PySem.W.mg_none_of X G z_sorted, PySem.W.mg_none_of X G z_str, PySem.W.mg_none_of X G z_tuple, PySem.W.mg_of X G z_comb⟩).imp fun vs H Q E q => law_sp rfl hlaw q⟩
end VS
open PySem PySem.W PyProof.Rows
set_option maxHeartbeats 0 in
theorem PySem.Challenge.cw_hookmats_k49_whole_pairing_tables_holds : PySem.Challenge.rw_hookmats_k49_whole_pairing_tables.Holds := by
  w_on; o_law; k_head; (case hw => w_witness2)
  k_fill
  refine L2.walk_of (l := PySem.Challenge.rw_hookmats_k49_whole_pairing_tables) (n := 63) (k := 24) (x := "_law_script") (CX := fun _ => L2.CX0) (sp := fun w => VS.spLaw _) rfl (by decide) rfl ⟨rfl, by decide, by decide⟩ (fun w h Y => PySem.W.kIn_of Y) ?F (fun _ _ a ns hl _ hS => ⟨a, ns, rfl, hS, hl, fun _ => rfl⟩) (fun _ _ _ _ _ h => h)
  case F =>
    intro w mg fa h KX G hmg
    refine' VS.all_mk KX G hmg VS.law_holds ?a_draw ?l_draw ?c_draw ?k_draw ?a_same ?l_same ?c_same ?k_same ?a_changed ?l_changed ?c_changed ?k_changed ?a_half ?l_half ?c_half ?k_half ?a_signs ?l_signs ?c_signs ?k_signs ?a_halves ?l_halves ?c_halves ?k_halves ?a_flip ?l_flip ?c_flip ?k_flip ?a_put ?l_put ?c_put ?k_put ?a_paired ?l_paired ?c_paired ?k_paired ?a_table_of ?l_table_of ?c_table_of ?k_table_of ?a_p_check_size ?l_p_check_size ?c_p_check_size ?k_p_check_size ?a_p_check_halves ?l_p_check_halves ?c_p_check_halves ?k_p_check_halves ?a_p_half_of_signs ?l_p_half_of_signs ?c_p_half_of_signs ?k_p_half_of_signs ?a_p_rows_of_signs ?l_p_rows_of_signs ?c_p_rows_of_signs ?k_p_rows_of_signs ?a_p_half_mats ?l_p_half_mats ?c_p_half_mats ?k_p_half_mats ?a_p_how_many_halves ?l_p_how_many_halves ?c_p_how_many_halves ?k_p_how_many_halves ?a_p_round_of ?l_p_round_of ?c_p_round_of ?k_p_round_of ?a_p_is_mat ?l_p_is_mat ?c_p_is_mat ?k_p_is_mat ?a_p_checked_mat ?l_p_checked_mat ?c_p_checked_mat ?k_p_checked_mat ?a_p_through ?l_p_through ?c_p_through ?k_p_through ?a_p_check_half ?l_p_check_half ?c_p_check_half ?k_p_check_half ?a_p_check_pair ?l_p_check_pair ?c_p_check_pair ?k_p_check_pair ?a_p_far_end ?l_p_far_end ?c_p_far_end ?k_p_far_end ?a_p_loose_rings ?l_p_loose_rings ?c_p_loose_rings ?k_p_loose_rings ?a_p_put_behind ?l_p_put_behind ?c_p_put_behind ?k_p_put_behind ?a_p_paired ?l_p_paired ?c_p_paired ?k_p_paired ?a_p_remade ?l_p_remade ?c_p_remade ?k_p_remade ?a_p_upside_down ?l_p_upside_down ?c_p_upside_down ?k_p_upside_down ?a_p_pairing ?l_p_pairing ?c_p_pairing ?k_p_pairing ?a_p_pairing_table ?l_p_pairing_table ?c_p_pairing_table ?k_p_pairing_table ?a_right ?l_right ?c_right ?k_right ?a_well ?l_well ?c_well ?k_well ?a_law ?l_law ?c_law ?k_law ?z_abs ?z_all ?z_enumerate ?z_int ?z_isinstance ?z_len ?z_list ?z_range ?z_sorted ?z_str ?z_tuple ?z_comb
    (case a_draw => k_is); (case l_draw => k_is); (case c_draw => k_is); (case k_draw => k_is); (case a_same => k_is); (case l_same => k_is); (case c_same => k_is); (case k_same => k_is); (case a_changed => k_is); (case l_changed => k_is); (case c_changed => k_is); (case k_changed => k_is); (case a_half => k_is); (case l_half => k_is); (case c_half => k_is); (case k_half => k_is); (case a_signs => k_is); (case l_signs => k_is); (case c_signs => k_is); (case k_signs => k_is); (case a_halves => k_is); (case l_halves => k_is); (case c_halves => k_is); (case k_halves => k_is); (case a_flip => k_is); (case l_flip => k_is); (case c_flip => k_is); (case k_flip => k_is); (case a_put => k_is); (case l_put => k_is); (case c_put => k_is); (case k_put => k_is); (case a_paired => k_is); (case l_paired => k_is); (case c_paired => k_is); (case k_paired => k_is); (case a_table_of => k_is); (case l_table_of => k_is); (case c_table_of => k_is); (case k_table_of => k_is); (case a_p_check_size => k_is); (case l_p_check_size => k_is); (case c_p_check_size => k_is); (case k_p_check_size => k_is); (case a_p_check_halves => k_is); (case l_p_check_halves => k_is); (case c_p_check_halves => k_is); (case k_p_check_halves => k_is); (case a_p_half_of_signs => k_is); (case l_p_half_of_signs => k_is); (case c_p_half_of_signs => k_is); (case k_p_half_of_signs => k_is); (case a_p_rows_of_signs => k_is); (case l_p_rows_of_signs => k_is); (case c_p_rows_of_signs => k_is); (case k_p_rows_of_signs => k_is); (case a_p_half_mats => k_is); (case l_p_half_mats => k_is); (case c_p_half_mats => k_is); (case k_p_half_mats => k_is); (case a_p_how_many_halves => k_is); (case l_p_how_many_halves => k_is); (case c_p_how_many_halves => k_is); (case k_p_how_many_halves => k_is); (case a_p_round_of => k_is); (case l_p_round_of => k_is); (case c_p_round_of => k_is); (case k_p_round_of => k_is); (case a_p_is_mat => k_is); (case l_p_is_mat => k_is); (case c_p_is_mat => k_is); (case k_p_is_mat => k_is); (case a_p_checked_mat => k_is); (case l_p_checked_mat => k_is); (case c_p_checked_mat => k_is); (case k_p_checked_mat => k_is); (case a_p_through => k_is); (case l_p_through => k_is); (case c_p_through => k_is); (case k_p_through => k_is); (case a_p_check_half => k_is); (case l_p_check_half => k_is); (case c_p_check_half => k_is); (case k_p_check_half => k_is); (case a_p_check_pair => k_is); (case l_p_check_pair => k_is); (case c_p_check_pair => k_is); (case k_p_check_pair => k_is); (case a_p_far_end => k_is); (case l_p_far_end => k_is); (case c_p_far_end => k_is); (case k_p_far_end => k_is); (case a_p_loose_rings => k_is); (case l_p_loose_rings => k_is); (case c_p_loose_rings => k_is); (case k_p_loose_rings => k_is); (case a_p_put_behind => k_is); (case l_p_put_behind => k_is); (case c_p_put_behind => k_is); (case k_p_put_behind => k_is); (case a_p_paired => k_is); (case l_p_paired => k_is); (case c_p_paired => k_is); (case k_p_paired => k_is); (case a_p_remade => k_is); (case l_p_remade => k_is); (case c_p_remade => k_is); (case k_p_remade => k_is); (case a_p_upside_down => k_is); (case l_p_upside_down => k_is); (case c_p_upside_down => k_is); (case k_p_upside_down => k_is); (case a_p_pairing => k_is); (case l_p_pairing => k_is); (case c_p_pairing => k_is); (case k_p_pairing => k_is); (case a_p_pairing_table => k_is); (case l_p_pairing_table => k_is); (case c_p_pairing_table => k_is); (case k_p_pairing_table => k_is); (case a_right => k_is); (case l_right => k_is); (case c_right => k_is); (case k_right => k_is); (case a_well => k_is); (case l_well => k_is); (case c_well => k_is); (case k_well => k_is); (case a_law => k_is); (case l_law => k_is); (case c_law => k_is); (case k_law => k_is); (case z_abs => k_is); (case z_all => k_is); (case z_enumerate => k_is); (case z_int => k_is); (case z_isinstance => k_is); (case z_len => k_is); (case z_list => k_is); (case z_range => k_is); (case z_sorted => k_is); (case z_str => k_is); (case z_tuple => k_is); (case z_comb => k_is)
