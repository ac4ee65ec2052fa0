import PyProof.Rows.All
import Wide.All
import OpenK.AllK
import Wide.FinOn
import HandS.ForMost
import HandS.Wide
import HandS.ExcInit
import HandS.TryOnly
import HandS.WordsExc
import HandS.IsInst
import HandS.Walk
import HandS.Zip
import HandS.Rev
import HandS.RevRange
import KE.GoesEnum
import HandS.Words
import HandS.Defaults
import OpenK.KMore
import HandS.TupAny
import HandS.TupMul
import HandS.Style
import HandS.Conv
import HandS.More
import HandS.Deep
import HandS.SortInts
import KE.KMathGC
import HandS.Gcd
import HandS.SetFor
import HandS.Flow
import KE.SortData
import HandS.Star
import KE.DataAny
import HandS.Call
import HandS.CallSlots
import HandS.ExcOwn
import HandS.ExcField
import HandS.ExcIs
import KE.KExcIs
import HandS.Sort
import HandS.Dict
import HandS.NoneIn
import PySem.Challenge.RW_hookmats_k18_whole_values_of_words
set_option Elab.async false
set_option linter.all false
set_option maxRecDepth 100000
namespace VS
open PySem PySem.Spec PyProof.Rows L2
/-! ### values as data; a list bears whether it is owned -/
inductive D where
  | non | bl (b : Bool) | int (i : Int) | str (s : Str)
  | tup (xs : List D) | lst (o : Bool) (xs : List D) | ty (n : String) | scr (ns : List Int)
  | exc (n : Str) (d : D)
  | dct (o : Bool) (kvs : List (Int × Int))
mutual
def noOwn : D → Bool
  | .tup xs => noOwns xs
  | .lst o xs => !o && noOwns xs
  | .dct o _ => !o
  | _ => true
def noOwns : List D → Bool
  | [] => true
  | x :: r => noOwn x && noOwns r
end
mutual
def freeze : D → D
  | .tup xs => .tup (freezes xs)
  | .lst _ xs => .lst false (freezes xs)
  | .dct _ kvs => .dct false kvs
  | d => d
def freezes : List D → List D
  | [] => []
  | x :: r => freeze x :: freezes r
end
/-- a dict of whole numbers, as the kit tells it -/
def kvK (kvs : List (Int × Int)) : List (Key × V) := kvs.map fun p => (.inl p.1, .int p.2)
/-- what may be owned -/
inductive LD : HO → Prop
  | l (vs : List V) : LD (.lst vs)
  | d (kvs : List (Key × V)) : LD (.dK kvs)
/-- a caught exception, tracked -/
def ExV (a C dd : Addr) : HO := .ext fun h => ∃ (oe : Obj) (vs : Array Value), h.get? a = some oe ∧ Zc (.ref C) (some dd) oe ∧ oe.data = .fields vs
/-- the class that a name of the module's means -/
def ClsAt (K : PySem.W.Frag) (n : Str) (C : Addr) : Prop := PySem.W.nsIn K mainGlobals n = some (some (.ref C))
variable (K : PySem.W.Frag)
mutual
inductive Rep (K : PySem.W.Frag) (G H : Hp) : V → D → List Addr → Prop
  | non : Rep K G H .non .non []
  | bl (b : Bool) : Rep K G H (.bl b) (.bl b) []
  | int (i : Int) : Rep K G H (.int i) (.int i) []
  | str (s : Str) : Rep K G H (.str s) (.str s) []
  | ty (n : String) : Rep K G H (.ty n) (.ty n) []
  | tup {a : Addr} {vs : List V} {xs : List D} {L : List Addr} : SqT K G a vs → Reps K G H vs xs L → Rep K G H (.ref a) (.tup xs) L
  | scr {a : Addr} {ns : List Int} : SqL K G a (ns.map V.int) → Rep K G H (.ref a) (.scr ns) []
  | exc {a C dd : Addr} {n : Str} {v : V} {d : D} : G a = some (ExV a C dd) → G dd = some (.xd [(("value" : Str), v)]) → ClsAt K n C → Rep K G H v d [] → Rep K G H (.ref a) (.exc n d) []
  | lstS {a : Addr} {vs : List V} {xs : List D} {L : List Addr} : G a = some (.lst vs) → Reps K G H vs xs L → L = [] → Rep K G H (.ref a) (.lst false xs) L
  | lstO {a : Addr} {vs : List V} {xs : List D} {L : List Addr} : G a = none → H a = some (.lst vs) → a ∉ L → Reps K G H vs xs L → Rep K G H (.ref a) (.lst true xs) (a :: L)
  | dctS {a : Addr} {kvs : List (Int × Int)} : G a = some (.dK (kvK kvs)) → Rep K G H (.ref a) (.dct false kvs) []
  | dctO {a : Addr} {kvs : List (Int × Int)} : G a = none → H a = some (.dK (kvK kvs)) → Rep K G H (.ref a) (.dct true kvs) [a]
inductive Reps (K : PySem.W.Frag) (G H : Hp) : List V → List D → List Addr → Prop
  | nil : Reps K G H [] [] []
  | cons {v : V} {d : D} {L M : List Addr} {vs : List V} {ds : List D} : Rep K G H v d L → Reps K G H vs ds M → (∀ a, a ∈ L → a ∉ M) → Reps K G H (v :: vs) (d :: ds) (L ++ M)
end
section
variable {K : PySem.W.Frag} {G H G' H' : Hp}
theorem Same.rd {a : Addr} {u : HO} (e : Same G G') (h : Rd G a u) : Rd G' a u := by
  rcases h with h | ⟨o, h⟩
  · exact .inl (e a _ h)
  · exact .inr ⟨o, e a _ h⟩
theorem Same.seqT {a : Addr} {xs : List V} (e : Same G G') (h : SqT K G a xs) : SqT K G' a xs := by
  rcases h with h | h
  · exact .inl (Same.rd e h)
  · exact .inr h
/-- what is owned stands in H, not in G -/
structure Keep (G H G' H' : Hp) (L : List Addr) : Prop where
  g : Same G G'
  o : ∀ a ∈ L, G a = none → G' a = none
  h : ∀ a ∈ L, H' a = H a
theorem Keep.sub {L M : List Addr} (k : Keep G H G' H' L) (h : ∀ a, a ∈ M → a ∈ L) : Keep G H G' H' M := ⟨k.g, fun a ha => k.o a (h a ha), fun a ha => k.h a (h a ha)⟩
mutual
theorem Rep.keep {v : V} {d : D} {L : List Addr} (r : Rep K G H v d L) (k : Keep G H G' H' L) : Rep K G' H' v d L := by
  cases r with
  | non => exact .non
  | bl b => exact .bl b
  | int i => exact .int i
  | str s => exact .str s
  | ty n => exact .ty n
  | tup h r => exact .tup (Same.seqT k.g h) (Reps.keep r k)
  | scr h => exact .scr (Same.seq k.g h)
  | exc h1 h2 h3 r => exact .exc (k.g _ _ h1) (k.g _ _ h2) h3 (Rep.keep r (k.sub fun a z => nomatch z))
  | lstS h r e => exact .lstS (k.g _ _ h) (Reps.keep r k) e
  | dctS h => exact .dctS (k.g _ _ h)
  | dctO hg hh => exact .dctO (k.o _ (List.mem_cons_self) hg) ((k.h _ List.mem_cons_self).trans hh)
  | lstO hg hh hn r => exact .lstO (k.o _ (List.mem_cons_self) hg) ((k.h _ List.mem_cons_self).trans hh) hn (Reps.keep r (k.sub fun a ha => List.mem_cons_of_mem _ ha))
theorem Reps.keep {vs : List V} {ds : List D} {L : List Addr} (r : Reps K G H vs ds L) (k : Keep G H G' H' L) : Reps K G' H' vs ds L := by
  cases r with
  | nil => exact .nil
  | cons h r n => exact .cons (Rep.keep h (k.sub fun a ha => List.mem_append_left _ ha)) (Reps.keep r (k.sub fun a ha => List.mem_append_right _ ha)) n
end
mutual
theorem Rep.owned {v : V} {d : D} {L : List Addr} (r : Rep K G H v d L) : ∀ a ∈ L, G a = none ∧ ∃ o, H a = some o ∧ LD o := by
  cases r with
  | non => intro a h; cases h
  | bl b => intro a h; cases h
  | int i => intro a h; cases h
  | str s => intro a h; cases h
  | ty n => intro a h; cases h
  | scr q => intro a h; cases h
  | exc _ _ _ _ => intro a h; cases h
  | tup h r => exact Reps.owned r
  | lstS h r e => exact Reps.owned r
  | lstO hg hh hn r =>
    intro a ha
    rcases List.mem_cons.mp ha with e | e
    · subst e; exact ⟨hg, _, hh, .l _⟩
    · exact Reps.owned r a e
  | dctS h => intro a h; cases h
  | dctO hg hh =>
    intro a ha
    obtain rfl := List.mem_singleton.mp ha
    exact ⟨hg, _, hh, .d _⟩
theorem Reps.owned {vs : List V} {ds : List D} {L : List Addr} (r : Reps K G H vs ds L) : ∀ a ∈ L, G a = none ∧ ∃ o, H a = some o ∧ LD o := by
  cases r with
  | nil => intro a h; cases h
  | cons h r n =>
    intro a ha
    rcases List.mem_append.mp ha with e | e
    · exact Rep.owned h a e
    · exact Reps.owned r a e
end
mutual
theorem Rep.noL {v : V} {d : D} {L : List Addr} (r : Rep K G H v d L) (h : noOwn d = true) : L = [] := by
  cases r with
  | non => rfl
  | bl b => rfl
  | int i => rfl
  | str s => rfl
  | ty n => rfl
  | scr _ => rfl
  | exc _ _ _ _ => rfl
  | tup _ r => exact Reps.noL r h
  | lstS _ r e => exact e
  | lstO _ _ _ r => exact absurd h (by simp [noOwn])
  | dctS _ => rfl
  | dctO _ _ => exact absurd h (by simp [noOwn])
theorem Reps.noL {vs : List V} {ds : List D} {L : List Addr} (r : Reps K G H vs ds L) (h : noOwns ds = true) : L = [] := by
  cases r with
  | nil => rfl
  | cons q r n =>
    simp only [noOwns, Bool.and_eq_true] at h
    rw [Rep.noL q h.1, Reps.noL r h.2]
    rfl
end
mutual
theorem Rep.ofL {v : V} {d : D} {L : List Addr} (r : Rep K G H v d L) (h : L = []) : noOwn d = true := by
  cases r with
  | non => rfl
  | bl b => rfl
  | int i => rfl
  | str s => rfl
  | ty n => rfl
  | scr _ => rfl
  | exc _ _ _ _ => rfl
  | tup _ r => exact Reps.ofL r h
  | lstS _ r e => simp only [noOwn, Reps.ofL r e]; rfl
  | lstO _ _ _ r => cases h
  | dctS _ => rfl
  | dctO _ _ => cases h
theorem Reps.ofL {vs : List V} {ds : List D} {L : List Addr} (r : Reps K G H vs ds L) (h : L = []) : noOwns ds = true := by
  cases r with
  | nil => rfl
  | cons q r n =>
    obtain ⟨h1, h2⟩ := List.append_eq_nil_iff.mp h
    simp only [noOwns, Rep.ofL q h1, Reps.ofL r h2]; rfl
end
theorem Reps.length {vs : List V} {ds : List D} {L : List Addr} (r : Reps K G H vs ds L) : vs.length = ds.length := by
  induction ds generalizing vs L with
  | nil => cases r; rfl
  | cons d ds ih => cases r with | cons _ r _ => simp [ih r]
end
end VS
set_option Elab.async false
set_option linter.all false
set_option maxRecDepth 100000
namespace VS
open PySem PySem.Spec PyProof.Rows L2
section
variable {K : PySem.W.Frag} {G H G' H' : Hp}
mutual
theorem Rep.frz {v : V} {d : D} {L : List Addr} (r : Rep K G H v d L) (k : Same G G') (h : ∀ a ∈ L, G' a = H a) : Rep K G' H v (freeze d) [] := by
  cases r with
  | non => exact .non
  | bl b => exact .bl b
  | int i => exact .int i
  | str s => exact .str s
  | ty n => exact .ty n
  | scr q => exact .scr (Same.seq k q)
  | exc h1 h2 h3 r => exact .exc (k _ _ h1) (k _ _ h2) h3 (r.keep ⟨k, fun _ z _ => (nomatch z), fun _ z => (nomatch z)⟩)
  | tup q r => exact .tup (Same.seqT k q) (Reps.frz r k h)
  | lstS q r e => exact .lstS (k _ _ q) (Reps.frz r k h) rfl
  | lstO hg hh hn r =>
    exact .lstS ((h _ List.mem_cons_self).trans hh) (Reps.frz r k fun a ha => h a (List.mem_cons_of_mem _ ha)) rfl
  | dctS q => exact .dctS (k _ _ q)
  | dctO hg hh => exact .dctS ((h _ List.mem_cons_self).trans hh)
theorem Reps.frz {vs : List V} {ds : List D} {L : List Addr} (r : Reps K G H vs ds L) (k : Same G G') (h : ∀ a ∈ L, G' a = H a) : Reps K G' H vs (freezes ds) [] := by
  cases r with
  | nil => exact .nil
  | cons q r n =>
    have := Reps.cons (Rep.frz q k fun a ha => h a (List.mem_append_left _ ha)) (Reps.frz r k fun a ha => h a (List.mem_append_right _ ha)) (fun a ha => by cases ha)
    exact this
end
end
mutual
theorem noOwn_frz : ∀ d : D, noOwn (freeze d) = true
  | .tup xs => by simp only [freeze, noOwn]; exact noOwns_frz xs
  | .lst o xs => by simp only [freeze, noOwn]; rw [noOwns_frz xs]; rfl
  | .non => rfl
  | .bl _ => rfl
  | .int _ => rfl
  | .str _ => rfl
  | .ty _ => rfl
  | .scr _ => rfl
  | .exc _ _ => rfl
  | .dct _ _ => rfl
theorem noOwns_frz : ∀ ds : List D, noOwns (freezes ds) = true
  | [] => rfl
  | d :: ds => by simp only [freezes, noOwns]; rw [noOwn_frz d, noOwns_frz ds]; rfl
end
/-! ### what a step does to the heaps: G is frozen for good, A is what it may change -/
structure Tr (G H : Hp) (A : Addr → Prop) (G' H' : Hp) (A' : Addr → Prop) : Prop where
  g : Same G G'
  sub : Same G' H'
  keep : ∀ a o, H a = some o → ¬ A a → H' a = some o
  keepG : ∀ a o, H a = some o → ¬ A a → G' a = G a
  new : ∀ a, A' a → A a ∨ H a = none
  dom : ∀ a, H' a = none → H a = none
section
variable {K : PySem.W.Frag} {G H G' H' G1 H1 G2 H2 : Hp} {A A' A1 A2 B : Addr → Prop}
theorem Tr.refl (h : Same G H) : Tr G H A G H A := ⟨Same.refl G, h, fun _ _ e _ => e, fun _ _ _ _ => rfl, fun _ h => .inl h, fun _ h => h⟩
theorem Tr.trans (a : Tr G H A G1 H1 A1) (b : Tr G1 H1 A1 G2 H2 A2) : Tr G H A G2 H2 A2 := by
  have k1 : ∀ x o, H x = some o → ¬ A x → ¬ A1 x := fun x o e n h => by
    rcases a.new x h with q | q
    · exact n q
    · rw [q] at e; cases e
  refine ⟨a.g.trans b.g, b.sub, fun x o e n => b.keep x o (a.keep x o e n) (k1 x o e n), fun x o e n => (b.keepG x o (a.keep x o e n) (k1 x o e n)).trans (a.keepG x o e n), fun x h => ?_, fun x h => a.dom x (b.dom x h)⟩
  rcases b.new x h with q | q
  · exact a.new x q
  · exact .inr (a.dom x q)
/-- more may be changed, less is borne behind -/
theorem Tr.wk (a : Tr G H A G1 H1 A1) (h : ∀ x, A x → B x) (h' : ∀ x, A2 x → A1 x ∨ B x ∨ H x = none) : Tr G H B G1 H1 A2 :=
  ⟨a.g, a.sub, fun x o e n => a.keep x o e fun q => n (h x q), fun x o e n => a.keepG x o e fun q => n (h x q), fun x q => by
    rcases h' x q with q | q | q
    · rcases a.new x q with q | q
      · exact .inl (h x q)
      · exact .inr q
    · exact .inl q
    · exact .inr q, a.dom⟩
theorem Tr.post (a : Tr G H A G1 H1 A1) (h : ∀ x, A2 x → A1 x) : Tr G H A G1 H1 A2 := a.wk (fun _ h => h) fun x q => .inl (h x q)
/-- what stands apart -/
theorem Tr.keeps (t : Tr G H A G' H' A') {L : List Addr} (ho : ∀ a ∈ L, G a = none ∧ ∃ o, H a = some o ∧ LD o) (n : ∀ a ∈ L, ¬ A a) : Keep G H G' H' L := by
  refine ⟨t.g, fun a ha hg => ?_, fun a ha => ?_⟩
  · obtain ⟨_, vs, e, _⟩ := ho a ha
    exact (t.keepG a _ e (n a ha)).trans hg
  · obtain ⟨_, vs, e, _⟩ := ho a ha
    rw [e]; exact t.keep a _ e (n a ha)
theorem Rep.tr {v : V} {d : D} {L : List Addr} (r : Rep K G H v d L) (t : Tr G H A G' H' A') (n : ∀ a ∈ L, ¬ A a) : Rep K G' H' v d L := r.keep (t.keeps r.owned n)
theorem Reps.tr {vs : List V} {ds : List D} {L : List Addr} (r : Reps K G H vs ds L) (t : Tr G H A G' H' A') (n : ∀ a ∈ L, ¬ A a) : Reps K G' H' vs ds L := r.keep (t.keeps r.owned n)
/-- .. is still apart -/
theorem Tr.apart (t : Tr G H A G' H' A') {L : List Addr} (ho : ∀ a ∈ L, G a = none ∧ ∃ o, H a = some o ∧ LD o) (n : ∀ a ∈ L, ¬ A a) : ∀ a ∈ L, ¬ A' a := fun a ha h => by
  obtain ⟨_, vs, e, _⟩ := ho a ha
  rcases t.new a h with q | q
  · exact n a ha q
  · rw [q] at e; cases e
/-- a new object, frozen -/
theorem Tr.newG {p : Addr} {o : HO} (h : Same G H) (hp : H p = none) : Tr G H A (upd G p o) (upd H p o) A := by
  have gp : G p = none := h.free hp
  refine ⟨fun a u e => by rw [upd_ne (ne_of_none e gp)]; exact e, fun a u e => ?_, fun a u e _ => by rw [upd_ne (ne_of_none e hp)]; exact e, fun a u e _ => by rw [upd_ne (ne_of_none e hp)], fun _ q => .inl q, fun a e => ?_⟩
  · by_cases q : a = p
    · subst q; rw [upd_same] at e ⊢; exact e
    · rw [upd_ne q] at e ⊢; exact h a u e
  · by_cases q : a = p
    · subst q; exact hp
    · rw [upd_ne q] at e; exact e
/-- a new list, owned -/
theorem Tr.newO {p : Addr} {o : HO} (h : Same G H) (hp : H p = none) : Tr G H A G (upd H p o) (fun a => A a ∨ a = p) := by
  have gp : G p = none := h.free hp
  refine ⟨Same.refl G, fun a u e => by rw [upd_ne (ne_of_none e gp)]; exact h a u e, fun a u e _ => by rw [upd_ne (ne_of_none e hp)]; exact e, fun _ _ _ _ => rfl, fun a q => ?_, fun a e => ?_⟩
  · rcases q with q | q
    · exact .inl q
    · subst q; exact .inr hp
  · by_cases q : a = p
    · subst q; exact hp
    · rw [upd_ne q] at e; exact e
/-- an owned list written -/
theorem Tr.write {p : Addr} {o : HO} (h : Same G H) (hg : G p = none) (ha : A p) (hH : ∃ o, H p = some o) : Tr G H A G (upd H p o) A := by
  refine ⟨Same.refl G, fun a u e => by rw [upd_ne (ne_of_none e hg)]; exact h a u e, fun a u e n => ?_, fun _ _ _ _ => rfl, fun a q => .inl q, fun a e => ?_⟩
  · by_cases q : a = p
    · subst q; exact absurd ha n
    · rw [upd_ne q]; exact e
  · by_cases q : a = p
    · subst q; rw [upd_same] at e; cases e
    · rw [upd_ne q] at e; exact e
end
/-! ### the slots -/
abbrev Env := List (Option D)
def getS (ρ : Env) (i : Nat) : Option D := (ρ[i]?).join
structure REnv (K : PySem.W.Frag) (G H : Hp) (σ : L2.St) (ρ : Env) (F : Nat → List Addr) : Prop where
  sub : Same G H
  len : σ.length = ρ.length
  at_ : ∀ i d, getS ρ i = some d → ∃ v, σ[i]? = some (some v) ∧ Rep K G H v d (F i)
  off : ∀ i, getS ρ i = none → F i = []
  dis : ∀ i j, i ≠ j → ∀ a, a ∈ F i → a ∉ F j
def own (F : Nat → List Addr) (a : Addr) : Prop := ∃ i, a ∈ F i
section
variable {K : PySem.W.Frag} {G H G' H' : Hp} {σ : L2.St} {ρ : Env} {F : Nat → List Addr} {A A' : Addr → Prop}
theorem REnv.owned (r : REnv K G H σ ρ F) (i : Nat) : ∀ a ∈ F i, G a = none ∧ ∃ o, H a = some o ∧ LD o := fun a ha => by
  cases q : getS ρ i with
  | none => rw [r.off i q] at ha; cases ha
  | some d => obtain ⟨v, _, h⟩ := r.at_ i d q; exact h.owned a ha
theorem REnv.tr (r : REnv K G H σ ρ F) (t : Tr G H A G' H' A') (n : ∀ a, own F a → ¬ A a) : REnv K G' H' σ ρ F := by
  refine ⟨t.sub, r.len, fun i d q => ?_, r.off, r.dis⟩
  obtain ⟨v, e, h⟩ := r.at_ i d q
  exact ⟨v, e, h.tr t fun a ha => n a ⟨i, ha⟩⟩
theorem REnv.lt (r : REnv K G H σ ρ F) {i : Nat} {d : D} (q : getS ρ i = some d) : i < ρ.length := by
  unfold getS at q
  cases e : ρ[i]? with
  | none => rw [e] at q; cases q
  | some o => exact (List.getElem?_eq_some_iff.mp e).1
def fset (F : Nat → List Addr) (i : Nat) (L : List Addr) : Nat → List Addr := fun j => if j = i then L else F j
theorem fset_same {i : Nat} {L : List Addr} : fset F i L i = L := if_pos rfl
theorem fset_ne {i j : Nat} {L : List Addr} (h : j ≠ i) : fset F i L j = F j := if_neg h
theorem getS_set {ρ : Env} {i j : Nat} {o : Option D} : getS (ρ.set i o) j = if j = i ∧ i < ρ.length then o else getS ρ j := by
  unfold getS
  rw [List.getElem?_set]
  by_cases h : i = j
  · subst h
    by_cases h2 : i < ρ.length
    · simp [h2]
    · simp [h2]
  · rw [if_neg h, if_neg (by rintro ⟨rfl, _⟩; exact h rfl)]
/-- a slot of the data is given up -/
theorem REnv.drop (r : REnv K G H σ ρ F) (i : Nat) : REnv K G H σ (ρ.set i none) (fset F i []) := by
  refine ⟨r.sub, by rw [List.length_set]; exact r.len, fun j d q => ?_, fun j q => ?_, fun j k n a ha => ?_⟩
  · rw [getS_set] at q
    by_cases h : j = i
    · subst h
      by_cases h2 : j < ρ.length
      · rw [if_pos ⟨rfl, h2⟩] at q; cases q
      · rw [if_neg (fun z => h2 z.2)] at q; exact absurd (r.lt q) h2
    · rw [if_neg (fun z => h z.1)] at q
      rw [fset_ne h]; exact r.at_ j d q
  · by_cases h : j = i
    · subst h; exact fset_same
    · rw [fset_ne h]; rw [getS_set, if_neg (fun z => h z.1)] at q; exact r.off j q
  · by_cases h : j = i
    · subst h; rw [fset_same] at ha; cases ha
    · rw [fset_ne h] at ha
      by_cases h2 : k = i
      · subst h2; rw [fset_same]; exact List.not_mem_nil
      · rw [fset_ne h2]; exact r.dis j k n a ha
/-- a slot gets a value: its place too -/
theorem REnv.put (r : REnv K G H σ ρ F) {i : Nat} (hi : i < ρ.length) {v : V} {d : D} {L : List Addr} (h : Rep K G H v d L) (n : ∀ a ∈ L, ∀ j, j ≠ i → a ∉ F j) : REnv K G H (σ.set i (some v)) (ρ.set i (some d)) (fset F i L) := by
  refine ⟨r.sub, by rw [List.length_set, List.length_set]; exact r.len, fun j e q => ?_, fun j q => ?_, fun j k ne a ha => ?_⟩
  · rw [getS_set] at q
    by_cases hj : j = i
    · subst hj
      rw [if_pos ⟨rfl, hi⟩] at q; cases q
      exact ⟨v, by rw [List.getElem?_set_self (by rw [r.len]; exact hi)], by rw [fset_same]; exact h⟩
    · rw [if_neg (fun z => hj z.1)] at q
      obtain ⟨w, e1, e2⟩ := r.at_ j e q
      exact ⟨w, by rw [List.getElem?_set_ne (Ne.symm hj)]; exact e1, by rw [fset_ne hj]; exact e2⟩
  · rw [getS_set] at q
    by_cases hj : j = i
    · subst hj; rw [if_pos ⟨rfl, hi⟩] at q; cases q
    · rw [if_neg (fun z => hj z.1)] at q; rw [fset_ne hj]; exact r.off j q
  · by_cases hj : j = i
    · subst hj
      rw [fset_same] at ha
      rw [fset_ne (Ne.symm ne)]
      exact n a ha k (Ne.symm ne)
    · rw [fset_ne hj] at ha
      by_cases hk : k = i
      · subst hk
        rw [fset_same]
        exact fun q => n a q j hj ha
      · rw [fset_ne hk]; exact r.dis j k ne a ha
/-- .. the data alone (the place holds the value already) -/
theorem REnv.re (r : REnv K G H σ ρ F) {i : Nat} (hi : i < ρ.length) {v : V} {d : D} {L : List Addr} (hv : σ[i]? = some (some v)) (h : Rep K G H v d L) (n : ∀ a ∈ L, ∀ j, j ≠ i → a ∉ F j) : REnv K G H σ (ρ.set i (some d)) (fset F i L) := by
  have q := r.put hi h n
  have e : σ.set i (some v) = σ := by
    apply List.ext_getElem?
    intro j
    by_cases hj : i = j
    · subst hj; rw [List.getElem?_set_self (by rw [r.len]; exact hi), hv]
    · rw [List.getElem?_set_ne hj]
  rw [e] at q
  exact q
end
end VS
set_option Elab.async false
set_option linter.all false
set_option maxRecDepth 100000
namespace VS
open PySem PySem.Spec PyProof.Rows L2
abbrev FE := Env → Option (D × Env)
abbrev FB := Env → Option (Bool × Env)
/-- an operand: a slot that is read where the operation is done, or a value made ahead of it -/
inductive Op where
  | b (i : Nat) | t (f : FE)
def litF (d : D) : FE := fun ρ => some (d, ρ)
/-- a name as a value: what it owns is frozen -/
def varF (i : Nat) : FE := fun ρ => (getS ρ i).bind fun d => if noOwn d = true then some (d, ρ) else some (freeze d, ρ.set i (some (freeze d)))
/-- a name's value is moved out -/
def movF (i : Nat) : FE := fun ρ => (getS ρ i).bind fun d => some (d, ρ.set i none)
def evOps : List Op → Env → Option (List (Option D) × Env)
  | [], ρ => some ([], ρ)
  | .b i :: r, ρ => (getS ρ i).bind fun _ => (evOps r ρ).bind fun p => some (none :: p.1, p.2)
  | .t f :: r, ρ => (f ρ).bind fun q => (evOps r q.2).bind fun p => some (some q.1 :: p.1, p.2)
def fetch : List Op → List (Option D) → Env → Option (List D)
  | .b i :: r, _ :: ts, ρ => (getS ρ i).bind fun d => (fetch r ts ρ).bind fun ds => some (d :: ds)
  | .t _ :: r, some d :: ts, ρ => (fetch r ts ρ).bind fun ds => some (d :: ds)
  | [], _, _ => some []
  | _, _, _ => none
/-- an operation that reads its operands -/
def opF (g : List D → Option D) (ops : List Op) : FE := fun ρ => (evOps ops ρ).bind fun p => (fetch ops p.1 p.2).bind fun ds => (g ds).bind fun d => some (d, p.2)
section
variable (K : PySem.W.Frag)
def SimE (te : TE) (f : FE) : Prop := ∀ ρ d ρ', f ρ = some (d, ρ') → ∀ (σ : L2.St) (G H : Hp) (F : Nat → List Addr), REnv K G H σ ρ F → ∀ Q : VK,
  (∀ v G' H' F' L, Tr G H (own F) G' H' (fun a => own F' a ∨ a ∈ L) → REnv K G' H' σ ρ' F' → Rep K G' H' v d L → (∀ a ∈ L, ¬ own F' a) → Q v H') → te σ H Q
def SimT (tt : TT) (f : FB) : Prop := ∀ ρ b ρ', f ρ = some (b, ρ') → ∀ (σ : L2.St) (G H : Hp) (F : Nat → List Addr), REnv K G H σ ρ F → ∀ Q : Bool → Hp → Prop,
  (∀ G' H' F', Tr G H (own F) G' H' (own F') → REnv K G' H' σ ρ' F' → Q b H') → tt σ H Q
def SimO (te : TE) (o : Op) : Prop := match o with
  | .b i => te = tVar i
  | .t f => SimE K te f
inductive OpsOk (G H : Hp) (σ : L2.St) : List Op → List (Option D) → List V → List Addr → Prop
  | nil : OpsOk G H σ [] [] [] []
  | b {i : Nat} {v : V} {o : Option D} {ops ts vs M} : σ[i]? = some (some v) → OpsOk G H σ ops ts vs M → OpsOk G H σ (.b i :: ops) (o :: ts) (v :: vs) M
  | t {f : FE} {v : V} {d : D} {L : List Addr} {ops ts vs M} : Rep K G H v d L → (∀ a ∈ L, a ∉ M) → OpsOk G H σ ops ts vs M → OpsOk G H σ (.t f :: ops) (some d :: ts) (v :: vs) (L ++ M)
def SimA (ta : TA) (ops : List Op) : Prop := ∀ ρ ts ρ', evOps ops ρ = some (ts, ρ') → ∀ (σ : L2.St) (G H : Hp) (F : Nat → List Addr), REnv K G H σ ρ F → ∀ Q : List V → Hp → Prop,
  (∀ vs G' H' F' M, Tr G H (own F) G' H' (fun a => own F' a ∨ a ∈ M) → REnv K G' H' σ ρ' F' → OpsOk K G' H' σ ops ts vs M → (∀ a ∈ M, ¬ own F' a) → Q vs H') → ta σ H Q
end
section
variable {K : PySem.W.Frag}
theorem simE_lit {v : V} {d : D} (h : ∀ G H, Rep K G H v d []) : SimE K (tC v) (litF d) := by
  intro ρ d' ρ' e σ G H F r Q q
  cases e
  exact q v G H F [] ((Tr.refl r.sub).post fun a h => h.elim id fun z => nomatch z) r (h _ _) (fun a z => nomatch z)
theorem simE_var (i : Nat) : SimE K (tVar i) (varF i) := by
  intro ρ d ρ' e σ G H F r Q q
  unfold varF at e
  cases hd : getS ρ i with
  | none => rw [hd] at e; cases e
  | some d0 =>
    rw [hd] at e
    obtain ⟨v, hv, hr⟩ := r.at_ i d0 hd
    by_cases hn : noOwn d0 = true
    · have e' : some (d0, ρ) = some (d, ρ') := by rw [← e]; simp [hn]
      cases e'
      have e0 := hr.noL hn
      rw [e0] at hr
      exact ⟨v, hv, q v G H F [] ((Tr.refl r.sub).post fun a h => h.elim id fun z => nomatch z) r hr (fun a z => nomatch z)⟩
    · have e' : some (freeze d0, ρ.set i (some (freeze d0))) = some (d, ρ') := by rw [← e]; simp [hn]
      cases e'
      have own' : ∀ a ∈ F i, G a = none ∧ ∃ o, H a = some o ∧ LD o := r.owned i
      have hG : ∀ a, a ∉ F i → (fun a => if a ∈ F i then H a else G a) a = G a := fun a h => if_neg h
      have hG1 : ∀ a ∈ F i, (fun a => if a ∈ F i then H a else G a) a = H a := fun a h => if_pos h
      generalize (fun a => if a ∈ F i then H a else G a : Hp) = G1 at hG hG1
      have s1 : Same G G1 := fun a o h => by
        have : a ∉ F i := fun z => by rw [(own' a z).1] at h; cases h
        rw [hG a this]; exact h
      have s2 : Same G1 H := fun a o h => by
        by_cases z : a ∈ F i
        · rw [hG1 a z] at h; exact h
        · rw [hG a z] at h; exact r.sub a o h
      have hr' := hr.frz s1 hG1
      have renv : REnv K G1 H σ ρ F → False ∨ True := fun _ => .inr trivial
      have r1 : REnv K G1 H σ (ρ.set i none) (fset F i []) := by
        have rd := r.drop i
        refine ⟨s2, rd.len, fun j e h => ?_, rd.off, rd.dis⟩
        obtain ⟨w, e1, e2⟩ := rd.at_ j e h
        refine ⟨w, e1, e2.keep ⟨s1, fun a ha hg => ?_, fun a _ => rfl⟩⟩
        have : a ∉ F i := fun z => by
          by_cases hj : j = i
          · subst hj; rw [fset_same] at ha; cases ha
          · rw [fset_ne hj] at ha; exact r.dis j i hj a ha z
        rw [hG a this]; exact hg
      have r2 := r1.re (i := i) (by rw [List.length_set]; exact r.lt hd) hv hr' (fun a z => nomatch z)
      rw [List.set_set] at r2
      have hf : ∀ a, own (fset (fset F i []) i []) a → own F a := fun a ⟨j, h⟩ => by
        by_cases hj : j = i
        · subst hj; rw [fset_same] at h; cases h
        · rw [fset_ne hj, fset_ne hj] at h; exact ⟨j, h⟩
      refine ⟨v, hv, q v G1 H _ [] ⟨s1, s2, fun _ _ h _ => h, fun a o h n => hG a fun z => n ⟨i, z⟩, fun a h => .inl (h.elim (hf a) fun z => nomatch z), fun _ h => h⟩ r2 hr' (fun a z => nomatch z)⟩
theorem simE_mov (i : Nat) : SimE K (tVar i) (movF i) := by
  intro ρ d ρ' e σ G H F r Q q
  unfold movF at e
  cases hd : getS ρ i with
  | none => rw [hd] at e; cases e
  | some d0 =>
    rw [hd] at e
    obtain ⟨v, hv, hr⟩ := r.at_ i d0 hd
    have e' : some (d0, ρ.set i none) = some (d, ρ') := e
    cases e'
    refine ⟨v, hv, q v G H _ (F i) ((Tr.refl r.sub).post fun a h => ?_) (r.drop i) hr fun a ha ⟨j, h⟩ => ?_⟩
    · rcases h with ⟨j, h⟩ | h
      · by_cases hj : j = i
        · subst hj; rw [fset_same] at h; cases h
        · rw [fset_ne hj] at h; exact ⟨j, h⟩
      · exact ⟨i, h⟩
    · by_cases hj : j = i
      · subst hj; rw [fset_same] at h; cases h
      · rw [fset_ne hj] at h; exact r.dis j i hj a h ha
theorem simA_nil : SimA K tNil [] := by
  intro ρ ts ρ' e σ G H F r Q q
  cases e
  exact q [] G H F [] ((Tr.refl r.sub).post fun a h => h.elim id fun z => nomatch z) r .nil (fun a z => nomatch z)
theorem simA_cons {te : TE} {ta : TA} {o : Op} {ops : List Op} (h1 : SimO K te o) (h2 : SimA K ta ops) : SimA K (tCons te ta) (o :: ops) := by
  intro ρ ts ρ' e σ G H F r Q q
  cases o with
  | b i =>
    unfold evOps at e
    cases hd : getS ρ i with
    | none => rw [hd] at e; cases e
    | some d =>
      rw [hd] at e
      obtain ⟨v, hv, _⟩ := r.at_ i d hd
      cases he : evOps ops ρ with
      | none => rw [he] at e; cases e
      | some p =>
        obtain ⟨ts1, ρ1⟩ := p
        rw [he] at e
        have e' : some (none :: ts1, ρ1) = some (ts, ρ') := e
        cases e'
        have h1' : te = tVar i := h1
        subst h1'
        exact ⟨v, hv, h2 ρ ts1 _ he σ G H F r _ fun vs G' H' F' M t r' ok n => q (v :: vs) G' H' F' M t r' (.b hv ok) n⟩
  | t f =>
    unfold evOps at e
    cases hf : f ρ with
    | none => rw [hf] at e; cases e
    | some p =>
      obtain ⟨d, ρ1⟩ := p
      rw [hf] at e
      cases he : evOps ops ρ1 with
      | none => have e2 : (evOps ops ρ1).bind (fun p => some (some d :: p.1, p.2)) = some (ts, ρ') := e; rw [he] at e2; cases e2
      | some p =>
        obtain ⟨ts1, ρ2⟩ := p
        have e2 : (evOps ops ρ1).bind (fun p => some (some d :: p.1, p.2)) = some (ts, ρ') := e
        rw [he] at e2
        have e' : some (some d :: ts1, ρ2) = some (ts, ρ') := e2
        cases e'
        have h1' : SimE K te f := h1
        refine h1' ρ d ρ1 hf σ G H F r _ fun v G1 H1 F1 L t1 r1 rv n1 => ?_
        refine h2 ρ1 ts1 _ he σ G1 H1 F1 r1 _ fun vs G2 H2 F2 M t2 r2 ok n2 => ?_
        have ap := t2.apart (L := L) rv.owned n1
        refine q (v :: vs) G2 H2 F2 (L ++ M) ?_ r2 (.t (rv.tr t2 n1) (fun a ha hm => ap a ha (.inr hm)) ok) fun a ha => ?_
        · refine (Tr.trans (t1.post fun a h => .inl h) t2).wk (fun _ h => h) fun a h => ?_
          rcases h with h | h
          · exact .inl (.inl h)
          · rcases List.mem_append.mp h with h | h
            · rcases t1.new a (.inr h) with z | z
              · exact .inr (.inl z)
              · exact .inr (.inr z)
            · exact .inl (.inr h)
        · rcases List.mem_append.mp ha with h | h
          · exact fun z => ap a h (.inl z)
          · exact n2 a h
/-- operands by their data -/
inductive RepL (K : PySem.W.Frag) (G H : Hp) : List V → List D → Prop
  | nil : RepL K G H [] []
  | cons {v : V} {d : D} {L : List Addr} {vs : List V} {ds : List D} : Rep K G H v d L → RepL K G H vs ds → RepL K G H (v :: vs) (d :: ds)
theorem OpsOk.get {G H : Hp} {σ : L2.St} {ρ : Env} {F : Nat → List Addr} (r : REnv K G H σ ρ F) : ∀ {ops : List Op} {ts : List (Option D)} {vs : List V} {M : List Addr} {ds : List D}, OpsOk K G H σ ops ts vs M → fetch ops ts ρ = some ds → RepL K G H vs ds
  | _, _, _, _, ds, .nil, e => by
    unfold fetch at e; cases e; exact .nil
  | .b i :: ops, o :: ts, v :: vs, M, ds, .b hv ok, e => by
    unfold fetch at e
    cases hd : getS ρ i with
    | none => rw [hd] at e; cases e
    | some d =>
      rw [hd] at e
      cases he : fetch ops ts ρ with
      | none => have e2 : (fetch ops ts ρ).bind (fun ds => some (d :: ds)) = some ds := e; rw [he] at e2; cases e2
      | some ds1 =>
        have e2 : (fetch ops ts ρ).bind (fun ds => some (d :: ds)) = some ds := e
        rw [he] at e2; cases e2
        obtain ⟨w, hw, hr⟩ := r.at_ i d hd
        rw [hv] at hw; cases hw
        exact .cons hr (ok.get r he)
  | .t f :: ops, some d :: ts, v :: vs, _, ds, .t hr _ ok, e => by
    unfold fetch at e
    cases he : fetch ops ts ρ with
    | none => rw [he] at e; cases e
    | some ds1 => rw [he] at e; cases e; exact .cons hr (ok.get r he)
/-- an operation on values that reads them and makes one -/
def VOk (K : PySem.W.Frag) (r : List V → Hp → VK → Prop) (g : List D → Option D) : Prop := ∀ (G H : Hp) (vs : List V) (ds : List D) (d : D), Same G H → RepL K G H vs ds → g ds = some d → ∀ Q : VK,
  (∀ v G' H' L, Tr G H (fun _ => False) G' H' (fun a => a ∈ L) → Rep K G' H' v d L → Q v H') → r vs H Q
theorem simE_op {ta : TA} {ops : List Op} {r : List V → Hp → VK → Prop} {g : List D → Option D} (h : SimA K ta ops) (hv : VOk K r g) : SimE K (fun σ H Q => ta σ H fun vs H1 => r vs H1 Q) (opF g ops) := by
  intro ρ d ρ' e σ G H F r Q q
  unfold opF at e
  cases he : evOps ops ρ with
  | none => rw [he] at e; cases e
  | some p =>
    obtain ⟨ts, ρ1⟩ := p
    rw [he] at e
    cases hf : fetch ops ts ρ1 with
    | none => have e2 : (fetch ops ts ρ1).bind (fun ds => (g ds).bind fun d => some (d, ρ1)) = some (d, ρ') := e; rw [hf] at e2; cases e2
    | some ds =>
      have e2 : (fetch ops ts ρ1).bind (fun ds => (g ds).bind fun d => some (d, ρ1)) = some (d, ρ') := e
      rw [hf] at e2
      cases hg : g ds with
      | none => have e3 : (g ds).bind (fun d => some (d, ρ1)) = some (d, ρ') := e2; rw [hg] at e3; cases e3
      | some d1 =>
        have e3 : (g ds).bind (fun d => some (d, ρ1)) = some (d, ρ') := e2
        rw [hg] at e3; cases e3
        refine h ρ ts _ he σ G H F r _ fun vs G1 H1 F1 M t1 r1 ok n1 => ?_
        refine hv G1 H1 vs ds d r1.sub (ok.get r1 hf) hg Q fun v G2 H2 L t2 rv => ?_
        have r2 := r1.tr t2 (fun _ _ z => z)
        refine q v G2 H2 F1 L ?_ r2 rv fun a ha ⟨j, hj⟩ => ?_
        · refine (t1.trans (t2.wk (A2 := fun a => own F1 a ∨ a ∈ L) (B := fun a => own F1 a ∨ a ∈ M) (fun _ z => z.elim) fun a h => ?_))
          rcases h with h | h
          · exact .inr (.inl (.inl h))
          · exact .inl h
        · rcases t2.new a ha with z | z
          · exact z
          · obtain ⟨_, vs, e, _⟩ := r1.owned j a hj
            rw [z] at e; cases e
end
end VS
set_option Elab.async false
set_option linter.all false
set_option maxRecDepth 100000
namespace VS
open PySem PySem.Spec PyProof.Rows L2
inductive Out where
  | nx (ρ : Env) | rt (d : D) (ρ : Env) | bk (ρ : Env) | ct (ρ : Env) | rz (n : Str) (d : D) (ρ : Env)
abbrev FS := Env → Option Out
def Pin (pn : Nat → Bool) (σ σ' : L2.St) : Prop := σ'.length = σ.length ∧ ∀ i, pn i = true → σ'[i]? = σ[i]?
theorem Pin.refl {pn : Nat → Bool} {σ : L2.St} : Pin pn σ σ := ⟨rfl, fun _ _ => rfl⟩
theorem Pin.trans {pn : Nat → Bool} {σ σ1 σ2 : L2.St} (a : Pin pn σ σ1) (b : Pin pn σ1 σ2) : Pin pn σ σ2 := ⟨b.1.trans a.1, fun i h => (b.2 i h).trans (a.2 i h)⟩
theorem Pin.set {pn : Nat → Bool} {σ : L2.St} {i : Nat} {o : Option V} (h : pn i = false) : Pin pn σ (σ.set i o) := ⟨List.length_set, fun j hj => by
  have : i ≠ j := fun e => by subst e; rw [h] at hj; cases hj
  exact List.getElem?_set_ne this⟩
section
variable (K : PySem.W.Frag) (pn : Nat → Bool) (W : WX)
def PostE (σ : L2.St) (G H : Hp) (A : Addr → Prop) (ρ' : Env) (R : L2.St → Hp → Prop) : Prop := ∀ σ' G' H' F', Tr G H A G' H' (own F') → REnv K G' H' σ' ρ' F' → Pin pn σ σ' → R σ' H'
def PostR (σ : L2.St) (G H : Hp) (A : Addr → Prop) (d : D) (ρ' : Env) (R : VK) : Prop := ∀ v σ' G' H' F' L, Tr G H A G' H' (fun a => own F' a ∨ a ∈ L) → REnv K G' H' σ' ρ' F' → Pin pn σ σ' → Rep K G' H' v d L → (∀ a ∈ L, ¬ own F' a) → R v H'
/-- an exception that leaves: its class by name, its value -/
def PostX (σ : L2.St) (G H : Hp) (A : Addr → Prop) (n : Str) (d : D) (ρ' : Env) : Prop := ∀ σ' G' H' F' (C dd : Addr) (v : V), Tr G H A G' H' (own F') → REnv K G' H' σ' ρ' F' → Pin pn σ σ' → ClsAt K n C → G' dd = some (.xd [(("value" : Str), v)]) → Rep K G' H' v d [] → W (.ref C) (some dd) σ' H'
def Post (σ : L2.St) (G H : Hp) (A : Addr → Prop) (E : Ends) : Out → Prop
  | .nx ρ' => PostE K pn σ G H A ρ' E.nx
  | .bk ρ' => PostE K pn σ G H A ρ' E.bk
  | .ct ρ' => PostE K pn σ G H A ρ' E.ct
  | .rt d ρ' => PostR K pn σ G H A d ρ' E.rt
  | .rz n d ρ' => PostX K pn W σ G H A n d ρ'
def SimS (t : TS) (f : FS) : Prop := ∀ ρ o, f ρ = some o → ∀ (σ : L2.St) (G H : Hp) (F : Nat → List Addr), REnv K G H σ ρ F → ∀ E : Ends, Post K pn W σ G H (own F) E o → t E σ H
def SimG (g : TG) (f : D → Env → Option Env) : Prop := ∀ d ρ ρ', f d ρ = some ρ' → ∀ v (σ : L2.St) (G H : Hp) (F : Nat → List Addr) (L : List Addr), REnv K G H σ ρ F → Rep K G H v d L → (∀ a ∈ L, ¬ own F a) → ∀ Q : L2.St → Hp → Prop,
  PostE K pn σ G H (fun a => own F a ∨ a ∈ L) ρ' Q → g v σ H Q
def SimGs (g : TGs) (f : List D → Env → Option Env) : Prop := ∀ ds ρ ρ', f ds ρ = some ρ' → ∀ vs (σ : L2.St) (G H : Hp) (F : Nat → List Addr) (L : List Addr), REnv K G H σ ρ F → Reps K G H vs ds L → (∀ a ∈ L, ¬ own F a) → ∀ Q : L2.St → Hp → Prop,
  PostE K pn σ G H (fun a => own F a ∨ a ∈ L) ρ' Q → g vs σ H Q
end
def passF : FS := fun ρ => some (.nx ρ)
def brkF : FS := fun ρ => some (.bk ρ)
def cntF : FS := fun ρ => some (.ct ρ)
def seqF (f g : FS) : FS := fun ρ => (f ρ).bind fun o => match o with
  | .nx ρ1 => g ρ1
  | o => some o
def asgF (f : FE) (g : D → Env → Option Env) : FS := fun ρ => (f ρ).bind fun p => (g p.1 p.2).bind fun ρ' => some (.nx ρ')
def dropF (f : FE) : FS := fun ρ => (f ρ).bind fun p => some (.nx p.2)
def retF (f : FE) : FS := fun ρ => (f ρ).bind fun p => some (.rt p.1 p.2)
def retN : FS := fun ρ => some (.rt .non ρ)
def neverF : FS := fun _ => none
def ifF (c : FB) (f g : FS) : FS := fun ρ => (c ρ).bind fun p => if p.1 = true then f p.2 else g p.2
def tgN (i : Nat) : D → Env → Option Env := fun d ρ => some (ρ.set i (some d))
def tgNil : List D → Env → Option Env := fun ds ρ => match ds with
  | [] => some ρ
  | _ => none
def tgCons (g : D → Env → Option Env) (gs : List D → Env → Option Env) : List D → Env → Option Env := fun ds ρ => match ds with
  | d :: r => (g d ρ).bind fun ρ1 => gs r ρ1
  | [] => none
def tgT (n : Nat) (gs : List D → Env → Option Env) : D → Env → Option Env := fun d ρ => match d with
  | .tup xs => if xs.length = n then gs xs ρ else none
  | _ => none
/-- x[i] = v, x a name -/
def subPut (ρ : Env) (k : Nat) (d : D) : List D → Option D → Option Env
  | [.int i], some (.lst true xs) => (ixN xs.length i).bind fun j => some (ρ.set k (some (.lst true (xs.set j d))))
  | _, _ => none
def tgSub (k : Nat) (oi : Op) : D → Env → Option Env := fun d ρ => (getS ρ k).bind fun _ => (evOps [oi] ρ).bind fun p => (fetch [oi] p.1 p.2).bind fun ds => subPut p.2 k d ds (getS p.2 k)
section
variable {K : PySem.W.Frag} {pn : Nat → Bool} {W : WX}
theorem own_set {F : Nat → List Addr} {i : Nat} {L : List Addr} {a : Addr} (h : own (fset F i L) a) : own F a ∨ a ∈ L := by
  obtain ⟨j, h⟩ := h
  by_cases hj : j = i
  · subst hj; rw [fset_same] at h; exact .inr h
  · rw [fset_ne hj] at h; exact .inl ⟨j, h⟩
theorem REnv.put' {G H : Hp} {σ : L2.St} {ρ : Env} {F : Nat → List Addr} (r : REnv K G H σ ρ F) (i : Nat) {v : V} {d : D} {L : List Addr} (h : Rep K G H v d L) (n : ∀ a ∈ L, ¬ own F a) :
    ∃ F', REnv K G H (σ.set i (some v)) (ρ.set i (some d)) F' ∧ ∀ a, own F' a → own F a ∨ a ∈ L := by
  by_cases hi : i < ρ.length
  · exact ⟨_, r.put hi h fun a ha j _ z => n a ha ⟨j, z⟩, fun a h => own_set h⟩
  · refine ⟨F, ?_, fun a h => .inl h⟩
    have hl := r.len
    rw [List.set_eq_of_length_le (l := σ) (by omega), List.set_eq_of_length_le (l := ρ) (by omega)]
    exact r
theorem simG_name {i : Nat} (hp : pn i = false) : SimG K pn (gName i) (tgN i) := by
  intro d ρ ρ' e v σ G H F L r h n Q q
  cases e
  obtain ⟨F', r', o⟩ := r.put' i h n
  exact q _ G H F' ((Tr.refl r.sub).post o) r' (Pin.set hp)
theorem simGs_nil : SimGs K pn gNil tgNil := by
  intro ds ρ ρ' e vs σ G H F L r h n Q q
  cases ds with
  | nil =>
    cases h
    cases e
    exact ⟨rfl, q σ G H F ((Tr.refl r.sub).post fun a h => .inl h) r Pin.refl⟩
  | cons _ _ => cases e
theorem simGs_cons {g : TG} {gs : TGs} {f : D → Env → Option Env} {fs : List D → Env → Option Env} (h1 : SimG K pn g f) (h2 : SimGs K pn gs fs) : SimGs K pn (gCons g gs) (tgCons f fs) := by
  intro ds ρ ρ' e vs σ G H F L r h n Q q
  cases h with
  | nil => cases e
  | cons hv hr nn =>
    rename_i v d L1 L2 vs ds
    have e1 : (f d ρ).bind (fun ρ1 => fs ds ρ1) = some ρ' := e
    cases hf : f d ρ with
    | none => rw [hf] at e1; cases e1
    | some ρ1 =>
      rw [hf] at e1
      refine ⟨v, vs, rfl, h1 d ρ ρ1 hf v σ G H F L1 r hv (fun a ha => n a (List.mem_append_left _ ha)) _ fun σ1 G1 H1 F1 t1 r1 p1 => ?_⟩
      have n2 : ∀ a ∈ L2, ¬ (own F a ∨ a ∈ L1) := fun a ha z => z.elim (n a (List.mem_append_right _ ha)) fun z => nn a z ha
      refine h2 ds ρ1 ρ' e1 vs σ1 G1 H1 F1 L2 r1 (hr.tr t1 n2) (t1.apart hr.owned n2) Q fun σ2 G2 H2 F2 t2 r2 p2 => ?_
      refine q σ2 G2 H2 F2 (Tr.trans (t1.wk (A2 := fun a => own F1 a ∨ a ∈ L2) (fun a h => ?_) fun a h => ?_) t2) r2 (p1.trans p2)
      · exact h.imp id fun z => List.mem_append_left _ z
      · rcases h with h | h
        · exact .inl h
        · exact .inr (.inl (.inr (List.mem_append_right _ h)))
theorem simG_tup {n : Nat} {gs : TGs} {fs : List D → Env → Option Env} (h : SimGs K pn gs fs) : SimG K pn (gTup K n gs) (tgT n fs) := by
  intro d ρ ρ' e v σ G H F L r hv nn Q q
  cases d with
  | tup xs =>
    cases hv with
    | tup hs hr =>
      rename_i a vs
      have e1 : (if xs.length = n then fs xs ρ else none) = some ρ' := e
      by_cases hn : xs.length = n
      · rw [if_pos hn] at e1
        exact ⟨a, vs, rfl, Same.seqT r.sub hs, by rw [hr.length]; exact hn, h xs ρ ρ' e1 vs σ G H F L r hr nn Q q⟩
      · rw [if_neg hn] at e1; cases e1
  | _ => cases e
theorem simS_pass : SimS K pn W tNext passF := by
  intro ρ o e σ G H F r E q
  cases e
  exact q σ G H F (Tr.refl r.sub) r Pin.refl
theorem simS_brk : SimS K pn W tBreak brkF := by
  intro ρ o e σ G H F r E q
  cases e
  exact q σ G H F (Tr.refl r.sub) r Pin.refl
theorem simS_cnt : SimS K pn W tCont cntF := by
  intro ρ o e σ G H F r E q
  cases e
  exact q σ G H F (Tr.refl r.sub) r Pin.refl
theorem simS_never : SimS K pn W tNever neverF := by
  intro ρ o e; cases e
theorem PostE.mono {σ σ1 : L2.St} {G H G1 H1 : Hp} {A A1 : Addr → Prop} {ρ' : Env} {R : L2.St → Hp → Prop} (q : PostE K pn σ G H A ρ' R) (t : Tr G H A G1 H1 A1) (p : Pin pn σ σ1) : PostE K pn σ1 G1 H1 A1 ρ' R :=
  fun σ' G' H' F' t' r' p' => q σ' G' H' F' (t.trans t') r' (p.trans p')
theorem Post.mono {σ σ1 : L2.St} {G H G1 H1 : Hp} {A A1 : Addr → Prop} {o : Out} {E : Ends} (q : Post K pn W σ G H A E o) (t : Tr G H A G1 H1 A1) (p : Pin pn σ σ1) : Post K pn W σ1 G1 H1 A1 E o := by
  cases o with
  | nx ρ' => exact PostE.mono q t p
  | bk ρ' => exact PostE.mono q t p
  | ct ρ' => exact PostE.mono q t p
  | rt d ρ' => exact fun v σ' G' H' F' L t' r' p' => q v σ' G' H' F' L (t.trans t') r' (p.trans p')
  | rz n d ρ' => exact fun σ' G' H' F' C dd v t' r' p' => q σ' G' H' F' C dd v (t.trans t') r' (p.trans p')
theorem simS_seq {t u : TS} {f g : FS} (h1 : SimS K pn W t f) (h2 : SimS K pn W u g) : SimS K pn W (tSeq t u) (seqF f g) := by
  intro ρ o e σ G H F r E q
  unfold seqF at e
  cases hf : f ρ with
  | none => rw [hf] at e; cases e
  | some o1 =>
    rw [hf] at e
    refine h1 ρ o1 hf σ G H F r _ ?_
    cases o1 with
    | nx ρ1 => exact fun σ1 G1 H1 F1 t1 r1 p1 => h2 ρ1 o e σ1 G1 H1 F1 r1 E (q.mono t1 p1)
    | bk ρ1 => cases e; exact q
    | ct ρ1 => cases e; exact q
    | rt d ρ1 => cases e; exact q
    | rz n d ρ1 => cases e; exact q
theorem simS_asg {te : TE} {g : TG} {f : FE} {fg : D → Env → Option Env} (h1 : SimE K te f) (h2 : SimG K pn g fg) : SimS K pn W (tAsg te g) (asgF f fg) := by
  intro ρ o e σ G H F r E q
  unfold asgF at e
  cases hf : f ρ with
  | none => rw [hf] at e; cases e
  | some p =>
    obtain ⟨d, ρ1⟩ := p
    rw [hf] at e
    have e1 : (fg d ρ1).bind (fun ρ' => some (Out.nx ρ')) = some o := e
    cases hg : fg d ρ1 with
    | none => rw [hg] at e1; cases e1
    | some ρ2 =>
      rw [hg] at e1; cases e1
      refine h1 ρ d ρ1 hf σ G H F r _ fun v G1 H1 F1 L t1 r1 rv n1 => ?_
      refine h2 d ρ1 ρ2 hg v σ G1 H1 F1 L r1 rv n1 _ fun σ2 G2 H2 F2 t2 r2 p2 => ?_
      exact q σ2 G2 H2 F2 (t1.trans t2) r2 p2
theorem simS_drop {te : TE} {f : FE} (h1 : SimE K te f) : SimS K pn W (tDrop te) (dropF f) := by
  intro ρ o e σ G H F r E q
  unfold dropF at e
  cases hf : f ρ with
  | none => rw [hf] at e; cases e
  | some p =>
    obtain ⟨d, ρ1⟩ := p
    rw [hf] at e; cases e
    exact h1 ρ d ρ1 hf σ G H F r _ fun v G1 H1 F1 L t1 r1 rv n1 => q σ G1 H1 F1 (t1.post fun a h => .inl h) r1 Pin.refl
theorem simS_ret {te : TE} {f : FE} (h1 : SimE K te f) : SimS K pn W (tRet te) (retF f) := by
  intro ρ o e σ G H F r E q
  unfold retF at e
  cases hf : f ρ with
  | none => rw [hf] at e; cases e
  | some p =>
    obtain ⟨d, ρ1⟩ := p
    rw [hf] at e; cases e
    exact h1 ρ d ρ1 hf σ G H F r _ fun v G1 H1 F1 L t1 r1 rv n1 => q v σ G1 H1 F1 L t1 r1 Pin.refl rv n1
theorem simS_retN : SimS K pn W tRetN retN := by
  intro ρ o e σ G H F r E q
  cases e
  exact q .non σ G H F [] ((Tr.refl r.sub).post fun a h => h.elim id fun z => nomatch z) r Pin.refl .non (fun a z => nomatch z)
theorem simS_if {c : TT} {t u : TS} {fc : FB} {f g : FS} (h0 : SimT K c fc) (h1 : SimS K pn W t f) (h2 : SimS K pn W u g) : SimS K pn W (tIfS c t u) (ifF fc f g) := by
  intro ρ o e σ G H F r E q
  unfold ifF at e
  cases hf : fc ρ with
  | none => rw [hf] at e; cases e
  | some p =>
    obtain ⟨b, ρ1⟩ := p
    rw [hf] at e
    refine h0 ρ b ρ1 hf σ G H F r _ fun G1 H1 F1 t1 r1 => ?_
    cases b with
    | true => rw [if_pos rfl]; exact h1 ρ1 o e σ G1 H1 F1 r1 E (q.mono t1 Pin.refl)
    | false => rw [if_neg Bool.false_ne_true]; exact h2 ρ1 o e σ G1 H1 F1 r1 E (q.mono t1 Pin.refl)
/-- a value is frozen -/
theorem REnv.frz {G H : Hp} {σ : L2.St} {ρ : Env} {F : Nat → List Addr} {v : V} {d : D} {L : List Addr} (r : REnv K G H σ ρ F) (h : Rep K G H v d L) (n : ∀ a ∈ L, ¬ own F a) :
    ∃ G1, Tr G H (fun a => own F a ∨ a ∈ L) G1 H (own F) ∧ REnv K G1 H σ ρ F ∧ Rep K G1 H v (freeze d) [] := by
  have ho := h.owned
  refine ⟨fun a => if a ∈ L then H a else G a, ?_⟩
  have hG : ∀ a, a ∉ L → (fun a => if a ∈ L then H a else G a : Hp) a = G a := fun a h => if_neg h
  have hG1 : ∀ a ∈ L, (fun a => if a ∈ L then H a else G a : Hp) a = H a := fun a h => if_pos h
  generalize (fun a => if a ∈ L then H a else G a : Hp) = G1 at hG hG1
  have s1 : Same G G1 := fun a o h => by
    have : a ∉ L := fun z => by rw [(ho a z).1] at h; cases h
    rw [hG a this]; exact h
  have s2 : Same G1 H := fun a o h => by
    by_cases z : a ∈ L
    · rw [hG1 a z] at h; exact h
    · rw [hG a z] at h; exact r.sub a o h
  refine ⟨⟨s1, s2, fun _ _ h _ => h, fun a o h n => hG a fun z => n (.inr z), fun a h => .inl (.inl h), fun _ h => h⟩, ⟨s2, r.len, fun i e q => ?_, r.off, r.dis⟩, h.frz s1 hG1⟩
  obtain ⟨w, e1, e2⟩ := r.at_ i e q
  exact ⟨w, e1, e2.keep ⟨s1, fun a ha hg => by rw [hG a fun z => n a z ⟨i, ha⟩]; exact hg, fun a _ => rfl⟩⟩
end
/-! ### a bool as a test, and the other way -/
def truD : D → Option Bool
  | .non => some false
  | .bl b => some b
  | .int i => some (i != 0)
  | .str y => if y.length ≤ sizeLine then some ((y.length : Int) != 0) else none
  | .tup xs => some (!xs.isEmpty)
  | .lst _ xs => some (!xs.isEmpty)
  | .ty _ => none
  | .scr ns => some (!ns.isEmpty)
  | .exc _ _ => none
  | .dct _ kvs => some (!kvs.isEmpty)
/-- an expression's truth -/
def tstF (o : Op) : FB := fun ρ => (evOps [o] ρ).bind fun p => (fetch [o] p.1 p.2).bind fun ds => match ds with
  | [d] => (truD d).bind fun b => some (b, p.2)
  | _ => none
def notF (f : FB) : FB := fun ρ => (f ρ).bind fun p => some (!p.1, p.2)
def andF (f g : FB) : FB := fun ρ => (f ρ).bind fun p => if p.1 = true then g p.2 else some (false, p.2)
def orF (f g : FB) : FB := fun ρ => (f ρ).bind fun p => if p.1 = true then some (true, p.2) else g p.2
/-- a test's answer as a value -/
def bE (f : FB) : FE := fun ρ => (f ρ).bind fun p => some (.bl p.1, p.2)
def bT (f : FE) : FB := fun ρ => (f ρ).bind fun p => match p.1 with
  | .bl b => some (b, p.2)
  | _ => none
def ifE (c : FB) (f g : FE) : FE := fun ρ => (c ρ).bind fun p => if p.1 = true then f p.2 else g p.2
def andV (f g : FE) : FE := fun ρ => (f ρ).bind fun p => match p.1 with
  | .bl true => g p.2
  | .bl false => some (.bl false, p.2)
  | _ => none
def orV (f g : FE) : FE := fun ρ => (f ρ).bind fun p => match p.1 with
  | .bl false => g p.2
  | .bl true => some (.bl true, p.2)
  | _ => none
def notV (f : FE) : FE := fun ρ => (f ρ).bind fun p => match p.1 with
  | .bl b => some (.bl (!b), p.2)
  | _ => none
section
variable {K : PySem.W.Frag}
theorem len_emp {vs : List V} {xs : List D} (h : vs.length = xs.length) : (!xs.isEmpty) = !vs.isEmpty := by
  cases vs <;> cases xs <;> first | rfl | cases h
theorem Rep.tru {G H : Hp} {v : V} {d : D} {L : List Addr} {b : Bool} (hs : Same G H) (r : Rep K G H v d L) (h : truD d = some b) : TruV K v H b := by
  cases r with
  | non => cases h; rfl
  | bl c => cases h; rfl
  | int i => cases h; rfl
  | ty n => cases h
  | exc _ _ _ _ => cases h
  | str s =>
    have h' : (if s.length ≤ sizeLine then some ((s.length : Int) != 0) else none) = some b := h
    by_cases hl : s.length ≤ sizeLine
    · rw [if_pos hl] at h'; cases h'; exact ⟨hl, rfl⟩
    · rw [if_neg hl] at h'; cases h'
  | tup q r =>
    cases h
    exact .inr (.inl ⟨_, Same.seqT hs q, len_emp r.length⟩)
  | scr q =>
    cases h
    exact .inl ⟨_, Same.seq hs q, by cases ‹List Int› <;> rfl⟩
  | lstS q r e =>
    cases h
    exact .inl ⟨_, SqL.of (hs _ _ q), len_emp r.length⟩
  | lstO _ q _ r =>
    cases h
    exact .inl ⟨_, SqL.of q, len_emp r.length⟩
  | dctS q =>
    cases h
    exact .inr (.inr ⟨_, hs _ _ q, by cases ‹List (Int × Int)› <;> rfl⟩)
  | dctO _ q =>
    cases h
    exact .inr (.inr ⟨_, q, by cases ‹List (Int × Int)› <;> rfl⟩)
theorem simT_tst {te : TE} {o : Op} (h : SimO K te o) : SimT K (fun σ H Q => te σ H fun x H' => ∃ k, TruV K x H' k ∧ Q k H') (tstF o) := by
  intro ρ b ρ' e σ G H F r Q q
  unfold tstF at e
  cases he : evOps [o] ρ with
  | none => rw [he] at e; cases e
  | some p =>
    obtain ⟨ts, ρ1⟩ := p
    rw [he] at e
    cases hf : fetch [o] ts ρ1 with
    | none =>
      have e2 : (fetch [o] ts ρ1).bind (fun ds => match ds with | [d] => (truD d).bind fun b => some (b, ρ1) | _ => none) = some (b, ρ') := e
      rw [hf] at e2; cases e2
    | some ds =>
      have e2 : (fetch [o] ts ρ1).bind (fun ds => match ds with | [d] => (truD d).bind fun b => some (b, ρ1) | _ => none) = some (b, ρ') := e
      rw [hf] at e2
      have key := simA_cons (ta := tNil) (ops := []) h simA_nil ρ ts ρ1 he σ G H F r (fun vs H1 => ∀ x, vs = [x] → ∃ k, TruV K x H1 k ∧ Q k H1) fun vs G1 H1 F1 M t1 r1 ok n1 x ev => ?_
      · have : te σ H fun x H1 => ∀ y, [x] = [y] → ∃ k, TruV K y H1 k ∧ Q k H1 := key
        have m : (fun (x : V) H1 => ∀ y, [x] = [y] → ∃ k, TruV K y H1 k ∧ Q k H1) = (fun x H1 => ∃ k, TruV K x H1 k ∧ Q k H1) := by
          funext x H1
          exact propext ⟨fun h => h x rfl, fun h y e => by cases e; exact h⟩
        rw [m] at this
        exact this
      · subst ev
        have rl := ok.get r1 hf
        cases rl with
        | cons rv rr =>
          cases rr
          rename_i d L
          cases ht : truD d with
          | none => have e3 : (truD d).bind (fun b => some (b, ρ1)) = some (b, ρ') := e2; rw [ht] at e3; cases e3
          | some b1 =>
            have e3 : (truD d).bind (fun b => some (b, ρ1)) = some (b, ρ') := e2
            rw [ht] at e3; cases e3
            exact ⟨b, rv.tru r1.sub ht, q G1 H1 F1 (t1.post fun a h => .inl h) r1⟩
theorem simT_of {te : TE} {f : FE} (h : SimE K te f) : SimT K (fun σ H Q => te σ H fun x H' => ∃ k, x = .bl k ∧ Q k H') (bT f) := by
  intro ρ b ρ' e σ G H F r Q q
  unfold bT at e
  cases hf : f ρ with
  | none => rw [hf] at e; cases e
  | some p =>
    obtain ⟨d, ρ1⟩ := p
    rw [hf] at e
    cases d with
    | bl c =>
      cases e
      refine h ρ _ _ hf σ G H F r _ fun v G1 H1 F1 L t1 r1 rv n1 => ?_
      cases rv
      exact ⟨_, rfl, q G1 H1 F1 (t1.post fun a h => .inl h) r1⟩
    | _ => cases e
theorem simT_not {t : TT} {f : FB} (h : SimT K t f) : SimT K (tNot t) (notF f) := by
  intro ρ b ρ' e σ G H F r Q q
  unfold notF at e
  cases hf : f ρ with
  | none => rw [hf] at e; cases e
  | some p =>
    rw [hf] at e; cases e
    exact h ρ _ _ hf σ G H F r _ fun G1 H1 F1 t1 r1 => q G1 H1 F1 t1 r1
theorem simT_and {t u : TT} {f g : FB} (h1 : SimT K t f) (h2 : SimT K u g) : SimT K (tAnd t u) (andF f g) := by
  intro ρ b ρ' e σ G H F r Q q
  unfold andF at e
  cases hf : f ρ with
  | none => rw [hf] at e; cases e
  | some p =>
    obtain ⟨c, ρ1⟩ := p
    rw [hf] at e
    refine h1 ρ c ρ1 hf σ G H F r _ fun G1 H1 F1 t1 r1 => ?_
    cases c with
    | true => rw [if_pos rfl]; exact h2 ρ1 b ρ' e σ G1 H1 F1 r1 Q fun G2 H2 F2 t2 r2 => q G2 H2 F2 (t1.trans t2) r2
    | false => cases e; rw [if_neg Bool.false_ne_true]; exact q G1 H1 F1 t1 r1
theorem simT_or {t u : TT} {f g : FB} (h1 : SimT K t f) (h2 : SimT K u g) : SimT K (tOr t u) (orF f g) := by
  intro ρ b ρ' e σ G H F r Q q
  unfold orF at e
  cases hf : f ρ with
  | none => rw [hf] at e; cases e
  | some p =>
    obtain ⟨c, ρ1⟩ := p
    rw [hf] at e
    refine h1 ρ c ρ1 hf σ G H F r _ fun G1 H1 F1 t1 r1 => ?_
    cases c with
    | true => cases e; rw [if_pos rfl]; exact q G1 H1 F1 t1 r1
    | false => rw [if_neg Bool.false_ne_true]; exact h2 ρ1 b ρ' e σ G1 H1 F1 r1 Q fun G2 H2 F2 t2 r2 => q G2 H2 F2 (t1.trans t2) r2
theorem simE_if {t : TT} {ta tb : TE} {c : FB} {f g : FE} (h0 : SimT K t c) (h1 : SimE K ta f) (h2 : SimE K tb g) : SimE K (tIf t ta tb) (ifE c f g) := by
  intro ρ d ρ' e σ G H F r Q q
  unfold ifE at e
  cases hf : c ρ with
  | none => rw [hf] at e; cases e
  | some p =>
    obtain ⟨b, ρ1⟩ := p
    rw [hf] at e
    refine h0 ρ b ρ1 hf σ G H F r _ fun G1 H1 F1 t1 r1 => ?_
    cases b with
    | true => rw [if_pos rfl]; exact h1 ρ1 d ρ' e σ G1 H1 F1 r1 Q fun v G2 H2 F2 L t2 r2 => q v G2 H2 F2 L (t1.trans t2) r2
    | false => rw [if_neg Bool.false_ne_true]; exact h2 ρ1 d ρ' e σ G1 H1 F1 r1 Q fun v G2 H2 F2 L t2 r2 => q v G2 H2 F2 L (t1.trans t2) r2
theorem simE_andV {ta tb : TE} {f g : FE} (h1 : SimE K ta f) (h2 : SimE K tb g) : SimE K (tAndV ta tb) (andV f g) := by
  intro ρ d ρ' e σ G H F r Q q
  unfold andV at e
  cases hf : f ρ with
  | none => rw [hf] at e; cases e
  | some p =>
    obtain ⟨b, ρ1⟩ := p
    rw [hf] at e
    refine h1 ρ b ρ1 hf σ G H F r _ fun v G1 H1 F1 L t1 r1 rv n1 => ?_
    cases b with
    | bl c =>
      cases rv
      refine ⟨c, rfl, ?_⟩
      have t1' : Tr G H (own F) G1 H1 (own F1) := t1.post fun a h => .inl h
      cases c with
      | true => rw [if_pos rfl]; exact h2 ρ1 d ρ' e σ G1 H1 F1 r1 Q fun v G2 H2 F2 L t2 r2 => q v G2 H2 F2 L (t1'.trans t2) r2
      | false => cases e; rw [if_neg Bool.false_ne_true]; exact q _ G1 H1 F1 [] (t1.post fun a h => .inl (h.elim id fun z => nomatch z)) r1 (.bl false) (fun a z => nomatch z)
    | _ => cases e
theorem simE_orV {ta tb : TE} {f g : FE} (h1 : SimE K ta f) (h2 : SimE K tb g) : SimE K (tOrV ta tb) (orV f g) := by
  intro ρ d ρ' e σ G H F r Q q
  unfold orV at e
  cases hf : f ρ with
  | none => rw [hf] at e; cases e
  | some p =>
    obtain ⟨b, ρ1⟩ := p
    rw [hf] at e
    refine h1 ρ b ρ1 hf σ G H F r _ fun v G1 H1 F1 L t1 r1 rv n1 => ?_
    cases b with
    | bl c =>
      cases rv
      refine ⟨c, rfl, ?_⟩
      have t1' : Tr G H (own F) G1 H1 (own F1) := t1.post fun a h => .inl h
      cases c with
      | false => rw [if_neg Bool.false_ne_true]; exact h2 ρ1 d ρ' e σ G1 H1 F1 r1 Q fun v G2 H2 F2 L t2 r2 => q v G2 H2 F2 L (t1'.trans t2) r2
      | true => cases e; rw [if_pos rfl]; exact q _ G1 H1 F1 [] (t1.post fun a h => .inl (h.elim id fun z => nomatch z)) r1 (.bl true) (fun a z => nomatch z)
    | _ => cases e
theorem simE_notV {ta : TE} {f : FE} (h1 : SimE K ta f) : SimE K (tNotV ta) (notV f) := by
  intro ρ d ρ' e σ G H F r Q q
  unfold notV at e
  cases hf : f ρ with
  | none => rw [hf] at e; cases e
  | some p =>
    obtain ⟨b, ρ1⟩ := p
    rw [hf] at e
    refine h1 ρ b ρ1 hf σ G H F r _ fun v G1 H1 F1 L t1 r1 rv n1 => ?_
    cases b with
    | bl c =>
      cases rv; cases e
      exact ⟨c, rfl, q _ G1 H1 F1 [] (t1.post fun a h => .inl (h.elim id fun z => nomatch z)) r1 (.bl _) (fun a z => nomatch z)⟩
    | _ => cases e
end
end VS
set_option Elab.async false
set_option linter.all false
set_option maxRecDepth 100000
namespace VS
open PySem PySem.Spec PyProof.Rows L2
/-! ### loops -/
abbrev FI := Env → Option (List D × Env)
def goFor (tg : D → Env → Option Env) (body : FS) : List D → Env → Option Out
  | [], ρ => some (.nx ρ)
  | d :: ds, ρ => (tg d ρ).bind fun ρ1 => (body ρ1).bind fun o => match o with
    | .nx ρ2 => goFor tg body ds ρ2
    | .ct ρ2 => goFor tg body ds ρ2
    | .bk ρ2 => some (.nx ρ2)
    | .rt d ρ2 => some (.rt d ρ2)
    | .rz n d ρ2 => some (.rz n d ρ2)
def forF (it : FI) (tg : D → Env → Option Env) (body : FS) : FS := fun ρ => (it ρ).bind fun p => goFor tg body p.1 p.2
structure JOk (K : PySem.W.Frag) (J : It) (G0 : Hp) (ds : List D) : Prop where
  goes : ∀ i H, i < ds.length → Same G0 H → J.go i H
  stops : ∀ H, Same G0 H → J.stop ds.length H
  yields : ∀ i d G H x H', ds[i]? = some d → Same G0 G → Same G H → J.yld i H x H' → ∃ G', Tr G H (fun _ => False) G' H' (fun _ => False) ∧ Rep K G' H' x d []
def SimI (K : PySem.W.Frag) (wi : TI) (fi : FI) : Prop := ∀ ρ ds ρ', fi ρ = some (ds, ρ') → ∀ (σ : L2.St) (G H : Hp) (F : Nat → List Addr), REnv K G H σ ρ F → ∀ R : It → Hp → Prop,
  (∀ J G' H' F', Tr G H (own F) G' H' (own F') → REnv K G' H' σ ρ' F' → JOk K J G' ds → R J H') → wi σ H R
section
variable {K : PySem.W.Frag} {pn : Nat → Bool} {W : WX}
theorem simS_for {wi : TI} {g : TG} {tb : TS} {fi : FI} {fg : D → Env → Option Env} {fb : FS} (hi : SimI K wi fi) (hg : SimG K pn g fg) (hb : SimS K pn W tb fb) : SimS K pn W (tFor wi g tb) (forF fi fg fb) := by
  intro ρ o e σ G H F r E q
  unfold forF at e
  cases hf : fi ρ with
  | none => rw [hf] at e; cases e
  | some p =>
    obtain ⟨ds, ρ1⟩ := p
    rw [hf] at e
    have e0 : goFor fg fb ds ρ1 = some o := e
    refine hi ρ ds ρ1 hf σ G H F r _ fun J G1 H1 F1 t1 r1 jo => ?_
    refine ⟨fun i m σ' H' => m = ds.length - i ∧ i ≤ ds.length ∧ ∃ ρi Gi Fi, goFor fg fb (ds.drop i) ρi = some o ∧ REnv K Gi H' σ' ρi Fi ∧ Tr G1 H1 (own F1) Gi H' (own Fi) ∧ Pin pn σ σ',
      ⟨ds.length, by omega, Nat.zero_le _, ρ1, G1, F1, e0, r1, Tr.refl r1.sub, Pin.refl⟩, ?_⟩
    rintro i m σ' H' ⟨rfl, hle, ρi, Gi, Fi, eg, ri, ti, pi⟩
    have sG : Same G1 Gi := ti.g
    have sH : Same G1 H' := ti.g.trans ti.sub
    have qi := q.mono (t1.trans ti) pi
    by_cases hlt : i < ds.length
    · refine .inr ⟨jo.goes i H' hlt sH, fun σ2 H2 => ∃ m', m' < ds.length - i ∧ (m' = ds.length - (i + 1) ∧ i + 1 ≤ ds.length ∧ ∃ ρj Gj Fj, goFor fg fb (ds.drop (i + 1)) ρj = some o ∧ REnv K Gj H2 σ2 ρj Fj ∧ Tr G1 H1 (own F1) Gj H2 (own Fj) ∧ Pin pn σ σ2), fun _ _ h => h, fun x H2 hy => ?_⟩
      have hd : ds[i]? = some ds[i] := List.getElem?_eq_getElem hlt
      obtain ⟨G2, t2, rv⟩ := jo.yields i ds[i] Gi H' x H2 hd sG ri.sub hy
      have r2 := ri.tr t2 (fun _ _ z => z)
      have t2' : Tr Gi H' (own Fi) G2 H2 (own Fi) := t2.wk (fun _ z => z.elim) fun a h => .inr (.inl h)
      rw [show ds.drop i = ds[i] :: ds.drop (i + 1) from List.drop_eq_getElem_cons hlt] at eg
      have eg1 : (fg ds[i] ρi).bind (fun ρ1 => (fb ρ1).bind fun o => match o with | .nx ρ2 => goFor fg fb (ds.drop (i + 1)) ρ2 | .ct ρ2 => goFor fg fb (ds.drop (i + 1)) ρ2 | .bk ρ2 => some (.nx ρ2) | .rt d ρ2 => some (.rt d ρ2) | .rz n d ρ2 => some (.rz n d ρ2)) = some o := eg
      cases hg1 : fg ds[i] ρi with
      | none => rw [hg1] at eg1; cases eg1
      | some ρ2 =>
        rw [hg1] at eg1
        have eg2 : (fb ρ2).bind (fun o => match o with | .nx ρ2 => goFor fg fb (ds.drop (i + 1)) ρ2 | .ct ρ2 => goFor fg fb (ds.drop (i + 1)) ρ2 | .bk ρ2 => some (Out.nx ρ2) | .rt d ρ2 => some (.rt d ρ2) | .rz n d ρ2 => some (.rz n d ρ2)) = some o := eg1
        refine hg ds[i] ρi ρ2 hg1 x σ' G2 H2 Fi [] r2 rv (fun a z => nomatch z) _ fun σ3 G3 H3 F3 t3 r3 p3 => ?_
        have t3' : Tr G2 H2 (own Fi) G3 H3 (own F3) := t3.wk (fun a h => h.elim id fun z => nomatch z) fun a h => .inl h
        have q3 := qi.mono (t2'.trans t3') p3
        have tt : Tr G1 H1 (own F1) G3 H3 (own F3) := ti.trans (t2'.trans t3')
        cases hb1 : fb ρ2 with
        | none => rw [hb1] at eg2; cases eg2
        | some o2 =>
          rw [hb1] at eg2
          refine hb ρ2 o2 hb1 σ3 G3 H3 F3 r3 _ ?_
          have go : ∀ ρ4, goFor fg fb (ds.drop (i + 1)) ρ4 = some o → PostE K pn σ3 G3 H3 (own F3) ρ4 (fun σ2 H2 => ∃ m', m' < ds.length - i ∧ (m' = ds.length - (i + 1) ∧ i + 1 ≤ ds.length ∧ ∃ ρj Gj Fj, goFor fg fb (ds.drop (i + 1)) ρj = some o ∧ REnv K Gj H2 σ2 ρj Fj ∧ Tr G1 H1 (own F1) Gj H2 (own Fj) ∧ Pin pn σ σ2)) :=
            fun ρ4 e4 σ4 G4 H4 F4 t4 r4 p4 => ⟨_, by omega, rfl, hlt, ρ4, G4, F4, e4, r4, tt.trans t4, pi.trans (p3.trans p4)⟩
          cases o2 with
          | nx ρ4 => exact go ρ4 eg2
          | ct ρ4 => exact go ρ4 eg2
          | bk ρ4 => cases eg2; exact q3
          | rt d ρ4 => cases eg2; exact q3
          | rz n d ρ4 => cases eg2; exact q3
    · have ei : i = ds.length := by omega
      subst ei
      rw [List.drop_length] at eg
      cases eg
      exact .inl ⟨jo.stops H' sH, qi σ' Gi H' Fi (Tr.refl ri.sub) ri Pin.refl⟩
/-! ### while, by fuel -/
def goWhile (c : FB) (body : FS) : Nat → Env → Option Out
  | 0, _ => none
  | n + 1, ρ => (c ρ).bind fun p => if p.1 = true then (body p.2).bind fun o => match o with
      | .nx ρ2 => goWhile c body n ρ2
      | .ct ρ2 => goWhile c body n ρ2
      | .bk ρ2 => some (.nx ρ2)
      | .rt d ρ2 => some (.rt d ρ2)
      | .rz n d ρ2 => some (.rz n d ρ2)
    else some (.nx p.2)
def whF (n : Nat) (c : FB) (body : FS) : FS := fun ρ => goWhile c body n ρ
theorem simS_while {c : TT} {tb : TS} {fc : FB} {fb : FS} (n : Nat) (hc : SimT K c fc) (hb : SimS K pn W tb fb) : SimS K pn W (tWhile c tb) (whF n fc fb) := by
  intro ρ o e σ G H F r E q
  have e0 : goWhile fc fb n ρ = some o := e
  refine ⟨fun m σ' H' => ∃ ρi Gi Fi, goWhile fc fb m ρi = some o ∧ REnv K Gi H' σ' ρi Fi ∧ Tr G H (own F) Gi H' (own Fi) ∧ Pin pn σ σ', ⟨n, ρ, G, F, e0, r, Tr.refl r.sub, Pin.refl⟩, ?_⟩
  rintro m σ' H' ⟨ρi, Gi, Fi, eg, ri, ti, pi⟩
  have qi := q.mono ti pi
  cases m with
  | zero => cases eg
  | succ m =>
    have eg1 : (fc ρi).bind (fun p => if p.1 = true then (fb p.2).bind (fun o => match o with | .nx ρ2 => goWhile fc fb m ρ2 | .ct ρ2 => goWhile fc fb m ρ2 | .bk ρ2 => some (.nx ρ2) | .rt d ρ2 => some (.rt d ρ2) | .rz n d ρ2 => some (.rz n d ρ2)) else some (.nx p.2)) = some o := eg
    cases hc1 : fc ρi with
    | none => rw [hc1] at eg1; cases eg1
    | some p =>
      obtain ⟨b, ρ2⟩ := p
      rw [hc1] at eg1
      refine hc ρi b ρ2 hc1 σ' Gi H' Fi ri _ fun G2 H2 F2 t2 r2 => ?_
      have q2 := qi.mono t2 Pin.refl
      cases b with
      | false =>
        rw [if_neg Bool.false_ne_true]
        cases eg1
        exact q2 σ' G2 H2 F2 (Tr.refl r2.sub) r2 Pin.refl
      | true =>
        rw [if_pos rfl]
        have eg2 : (fb ρ2).bind (fun o => match o with | .nx ρ2 => goWhile fc fb m ρ2 | .ct ρ2 => goWhile fc fb m ρ2 | .bk ρ2 => some (Out.nx ρ2) | .rt d ρ2 => some (.rt d ρ2) | .rz n d ρ2 => some (.rz n d ρ2)) = some o := eg1
        refine ⟨fun σ3 H3 => ∃ m', m' < m + 1 ∧ ∃ ρi Gi Fi, goWhile fc fb m' ρi = some o ∧ REnv K Gi H3 σ3 ρi Fi ∧ Tr G H (own F) Gi H3 (own Fi) ∧ Pin pn σ σ3, fun _ _ h => h, ?_⟩
        cases hb1 : fb ρ2 with
        | none => rw [hb1] at eg2; cases eg2
        | some o2 =>
          rw [hb1] at eg2
          refine hb ρ2 o2 hb1 σ' G2 H2 F2 r2 _ ?_
          have go : ∀ ρ4, goWhile fc fb m ρ4 = some o → PostE K pn σ' G2 H2 (own F2) ρ4 (fun σ3 H3 => ∃ m', m' < m + 1 ∧ ∃ ρi Gi Fi, goWhile fc fb m' ρi = some o ∧ REnv K Gi H3 σ3 ρi Fi ∧ Tr G H (own F) Gi H3 (own Fi) ∧ Pin pn σ σ3) :=
            fun ρ4 e4 σ4 G4 H4 F4 t4 r4 p4 => ⟨m, Nat.lt_succ_self m, ρ4, G4, F4, e4, r4, ti.trans (t2.trans t4), pi.trans p4⟩
          cases o2 with
          | nx ρ4 => exact go ρ4 eg2
          | ct ρ4 => exact go ρ4 eg2
          | bk ρ4 => cases eg2; exact q2
          | rt d ρ4 => cases eg2; exact q2
          | rz n d ρ4 => cases eg2; exact q2
/-! ### what is walked -/
theorem Rep.far {G H G1 H1 : Hp} {v : V} {d : D} (r : Rep K G H v d []) (k : Same G G1) : Rep K G1 H1 v d [] := r.keep ⟨k, fun _ z _ => (nomatch z), fun _ z => (nomatch z)⟩
theorem Reps.far {G H G1 H1 : Hp} {v : List V} {d : List D} (r : Reps K G H v d []) (k : Same G G1) : Reps K G1 H1 v d [] := r.keep ⟨k, fun _ z _ => (nomatch z), fun _ z => (nomatch z)⟩
theorem Reps.get0 {G H : Hp} : ∀ {vs : List V} {ds : List D} {L : List Addr} {i : Nat} {v : V} {d : D}, Reps K G H vs ds L → vs[i]? = some v → ds[i]? = some d → ∃ M, Rep K G H v d M ∧ ∀ a ∈ M, a ∈ L
  | _, _, _, i, _, _, .nil, h, _ => by simp at h
  | _, _, _, 0, _, _, .cons hv _ _, h1, h2 => by
    simp at h1 h2; subst h1; subst h2
    exact ⟨_, hv, fun a ha => List.mem_append_left _ ha⟩
  | _, _, _, i + 1, _, _, .cons _ hr _, h1, h2 => by
    obtain ⟨M, q, s⟩ := hr.get0 (i := i) (by simpa using h1) (by simpa using h2)
    exact ⟨M, q, fun a ha => List.mem_append_right _ (s a ha)⟩
theorem jok_list {G0 H0 : Hp} {a : Addr} {vs : List V} {ds : List D} (h : SqL K G0 a vs) (r : Reps K G0 H0 vs ds []) : JOk K (Itl K a) G0 ds := by
  have hl := r.length
  have w := walk_list (K := K) (a := a) (xs := vs)
  refine ⟨fun i H hi s => w.goes i H (by omega) (Same.seq s h), fun H s => by rw [← hl]; exact w.stops H (Same.seq s h), fun i d G H x H' hd s1 s2 y => ?_⟩
  have hi : i < vs.length := by rw [hl]; exact (List.getElem?_eq_some_iff.mp hd).1
  obtain ⟨e, hx⟩ := w.yields i H x H' hi (Same.seq (s1.trans s2) h) y
  subst e
  obtain ⟨M, q, s⟩ := r.get0 hx hd
  have : M = [] := List.eq_nil_iff_forall_not_mem.mpr fun a ha => nomatch s a ha
  subst this
  exact ⟨G, Tr.refl s2, q.far s1⟩
theorem jok_tup {G0 H0 : Hp} {a : Addr} {vs : List V} {ds : List D} (h : SqT K G0 a vs) (r : Reps K G0 H0 vs ds []) : JOk K (Itt K a) G0 ds := by
  have hl := r.length
  have w := walk_tup (K := K) (a := a) (xs := vs)
  refine ⟨fun i H hi s => w.goes i H (by omega) (Same.seqT s h), fun H s => by rw [← hl]; exact w.stops H (Same.seqT s h), fun i d G H x H' hd s1 s2 y => ?_⟩
  have hi : i < vs.length := by rw [hl]; exact (List.getElem?_eq_some_iff.mp hd).1
  obtain ⟨e, hx⟩ := w.yields i H x H' hi (Same.seqT (s1.trans s2) h) y
  subst e
  obtain ⟨M, q, s⟩ := r.get0 hx hd
  have : M = [] := List.eq_nil_iff_forall_not_mem.mpr fun a ha => nomatch s a ha
  subst this
  exact ⟨G, Tr.refl s2, q.far s1⟩
def intsTo (lo : Int) (n : Nat) : List D := (List.range n).map fun i => .int (lo + (i : Nat))
theorem jok_range {G0 : Hp} {lo : Int} {n : Nat} : JOk K (Itr lo n) G0 (intsTo lo n) := by
  have w := walk_range (lo := lo) (n := n)
  have hl : (intsTo lo n).length = n := by unfold intsTo; rw [List.length_map, List.length_range]
  refine ⟨fun i H hi _ => w.goes i H (by omega) trivial, fun H _ => by rw [hl]; exact w.stops H trivial, fun i d G H x H' hd s1 s2 y => ?_⟩
  have hi : i < n := by rw [← hl]; exact (List.getElem?_eq_some_iff.mp hd).1
  obtain ⟨e, hx⟩ := w.yields i H x H' hi trivial y
  subst e
  have : d = .int (lo + (i : Nat)) := by
    unfold intsTo at hd
    rw [List.getElem?_map, List.getElem?_range hi] at hd
    exact (Option.some.inj hd).symm
  subst this
  rw [hx]
  exact ⟨G, Tr.refl s2, .int _⟩
def intsBy (lo c : Int) (n : Nat) : List D := (List.range n).map fun i => .int (lo + (i : Nat) * c)
theorem jok_rangeC {G0 : Hp} {lo c : Int} {n : Nat} : JOk K (Itc lo c n) G0 (intsBy lo c n) := by
  have w := walk_rangeC (lo := lo) (c := c) (n := n)
  have hl : (intsBy lo c n).length = n := by unfold intsBy; rw [List.length_map, List.length_range]
  refine ⟨fun i H hi _ => w.goes i H (by omega) trivial, fun H _ => by rw [hl]; exact w.stops H trivial, fun i d G H x H' hd s1 s2 y => ?_⟩
  have hi : i < n := by rw [← hl]; exact (List.getElem?_eq_some_iff.mp hd).1
  obtain ⟨e, hx⟩ := w.yields i H x H' hi trivial y
  subst e
  have : d = .int (lo + (i : Nat) * c) := by
    unfold intsBy at hd
    rw [List.getElem?_map, List.getElem?_range hi] at hd
    exact (Option.some.inj hd).symm
  subst this
  rw [hx]
  exact ⟨G, Tr.refl s2, .int _⟩
/-- an iterator that gives new pairs -/
theorem jok_pair {G0 : Hp} {J : It} {n : Nat} {P : Hp → Prop} {xs ys : Nat → Option V} {ds es : List D} (w : Walk J n P (YPair xs ys)) (hP : ∀ H, Same G0 H → P H) (hl : ds.length = n) (hl2 : es.length = n)
    (hx : ∀ i d x G H, ds[i]? = some d → xs i = some x → Same G0 G → Rep K G H x d []) (hy : ∀ i d x G H, es[i]? = some d → ys i = some x → Same G0 G → Rep K G H x d []) : JOk K J G0 ((ds.zip es).map fun p => .tup [p.1, p.2]) := by
  have hz : ((ds.zip es).map fun p => D.tup [p.1, p.2]).length = n := by rw [List.length_map, List.length_zip]; omega
  refine ⟨fun i H hi s => w.goes i H (by omega) (hP H s), fun H s => by rw [hz]; exact w.stops H (hP H s), fun i d G H x H' hd s1 s2 y => ?_⟩
  have hi : i < n := by rw [← hz]; exact (List.getElem?_eq_some_iff.mp hd).1
  obtain ⟨T, u, v, rfl, hT, rfl, h1, h2⟩ := w.yields i H x H' hi (hP H (s1.trans s2)) y
  have i1 : i < ds.length := by omega
  have i2 : i < es.length := by omega
  have : d = .tup [ds[i], es[i]] := by
    have hzz : (ds.zip es)[i]? = some (ds[i], es[i]) := List.getElem?_zip_eq_some.mpr ⟨List.getElem?_eq_getElem i1, List.getElem?_eq_getElem i2⟩
    rw [List.getElem?_map, hzz] at hd
    exact (Option.some.inj hd).symm
  subst this
  refine ⟨_, Tr.newG s2 hT, .tup (.inl (.inl upd_same)) ?_⟩
  have sn : Same G (upd G T (.tup [u, v])) := (Tr.newG (A := fun _ => False) s2 hT).g
  have r1 := hx i _ u (upd G T (.tup [u, v])) (upd H T (.tup [u, v])) (List.getElem?_eq_getElem i1) h1 (s1.trans sn)
  have r2 := hy i _ v (upd G T (.tup [u, v])) (upd H T (.tup [u, v])) (List.getElem?_eq_getElem i2) h2 (s1.trans sn)
  exact .cons r1 (.cons r2 .nil fun a z => nomatch z) fun a z => nomatch z
end
end VS
set_option Elab.async false
set_option linter.all false
set_option maxRecDepth 100000
namespace VS
open PySem PySem.Spec PyProof.Rows L2
/-! ### the program's text and its data: the readings told by the data alone -/
section
variable (K : PySem.W.Frag) (pn : Nat → Bool) (W : WX)
def teOf (f : FE) : TE := fun σ H Q => ∃ ρ d ρ' G F, f ρ = some (d, ρ') ∧ REnv K G H σ ρ F ∧ ∀ v G' H' F' L, Tr G H (own F) G' H' (fun a => own F' a ∨ a ∈ L) → REnv K G' H' σ ρ' F' → Rep K G' H' v d L → (∀ a ∈ L, ¬ own F' a) → Q v H'
def ttOf (f : FB) : TT := fun σ H Q => ∃ ρ b ρ' G F, f ρ = some (b, ρ') ∧ REnv K G H σ ρ F ∧ ∀ G' H' F', Tr G H (own F) G' H' (own F') → REnv K G' H' σ ρ' F' → Q b H'
def taOf (ops : List Op) : TA := fun σ H Q => ∃ ρ ts ρ' G F, evOps ops ρ = some (ts, ρ') ∧ REnv K G H σ ρ F ∧ ∀ vs G' H' F' M, Tr G H (own F) G' H' (fun a => own F' a ∨ a ∈ M) → REnv K G' H' σ ρ' F' → OpsOk K G' H' σ ops ts vs M → (∀ a ∈ M, ¬ own F' a) → Q vs H'
def tsOf (f : FS) : TS := fun E σ H => ∃ ρ o G F, f ρ = some o ∧ REnv K G H σ ρ F ∧ Post K pn W σ G H (own F) E o
def tgOf (f : D → Env → Option Env) : TG := fun v σ H Q => ∃ d ρ ρ' G F L, f d ρ = some ρ' ∧ REnv K G H σ ρ F ∧ Rep K G H v d L ∧ (∀ a ∈ L, ¬ own F a) ∧ PostE K pn σ G H (fun a => own F a ∨ a ∈ L) ρ' Q
def tgsOf (f : List D → Env → Option Env) : TGs := fun vs σ H Q => ∃ ds ρ ρ' G F L, f ds ρ = some ρ' ∧ REnv K G H σ ρ F ∧ Reps K G H vs ds L ∧ (∀ a ∈ L, ¬ own F a) ∧ PostE K pn σ G H (fun a => own F a ∨ a ∈ L) ρ' Q
def tiOf (f : FI) : TI := fun σ H R => ∃ ρ ds ρ' G F, f ρ = some (ds, ρ') ∧ REnv K G H σ ρ F ∧ ∀ J G' H' F', Tr G H (own F) G' H' (own F') → REnv K G' H' σ ρ' F' → JOk K J G' ds → R J H'
end
section
variable {K : PySem.W.Frag} {pn : Nat → Bool} {W : WX}
theorem simE_of (f : FE) : SimE K (teOf K f) f := fun ρ d ρ' e σ G H F r Q q => ⟨ρ, d, ρ', G, F, e, r, q⟩
theorem simT_of' (f : FB) : SimT K (ttOf K f) f := fun ρ b ρ' e σ G H F r Q q => ⟨ρ, b, ρ', G, F, e, r, q⟩
theorem simA_of (f : List Op) : SimA K (taOf K f) f := fun ρ ts ρ' e σ G H F r Q q => ⟨ρ, ts, ρ', G, F, e, r, q⟩
theorem simS_of (f : FS) : SimS K pn W (tsOf K pn W f) f := fun ρ o e σ G H F r E q => ⟨ρ, o, G, F, e, r, q⟩
theorem simG_of (f : D → Env → Option Env) : SimG K pn (tgOf K pn f) f := fun d ρ ρ' e v σ G H F L r h n Q q => ⟨d, ρ, ρ', G, F, L, e, r, h, n, q⟩
theorem simGs_of (f : List D → Env → Option Env) : SimGs K pn (tgsOf K pn f) f := fun d ρ ρ' e v σ G H F L r h n Q q => ⟨d, ρ, ρ', G, F, L, e, r, h, n, q⟩
theorem simI_of (f : FI) : SimI K (tiOf K f) f := fun ρ ds ρ' e σ G H F r R q => ⟨ρ, ds, ρ', G, F, e, r, q⟩
end
section
variable (X : Cx) (pn : Nat → Bool) (W : WX)
abbrev PEf (e : Expr) (f : FE) : Prop := PE X e (teOf X.K f)
abbrev PTf (e : Expr) (f : FB) : Prop := PT X e (ttOf X.K f)
abbrev PWf (e : Expr) (f : FB) : Prop := PW X e (ttOf X.K f)
def POf (e : Expr) : Op → Prop
  | .b i => PE X e (tVar i)
  | .t f => PEf X e f
abbrev PAf (es : List Expr) (ops : List Op) : Prop := PA X es (taOf X.K ops)
abbrev PSf (st : Stmt) (f : FS) : Prop := PS X st (tsOf X.K pn W f)
abbrev PSsf (st : List Stmt) (f : FS) : Prop := PSs X st (tsOf X.K pn W f)
abbrev PGf (e : Expr) (f : D → Env → Option Env) : Prop := PG X e (tgOf X.K pn f)
abbrev PGsf (es : List Expr) (f : List D → Env → Option Env) : Prop := PGs X es (tgsOf X.K pn f)
abbrev PIf (tg e : Expr) (f : FI) : Prop := PI X tg e (tiOf X.K f)
end
section
variable {X : Cx} {pn : Nat → Bool} {W : WX} {e a b : Expr} {es : List Expr} {pos : Pos}
theorem PEf.mk {te : TE} {f : FE} (h : PE X e te) (s : SimE X.K te f) : PEf X e f := ⟨fun pins sh σ H Q I ⟨ρ, d, ρ', G, F, ee, r, q⟩ => h.run pins sh σ H Q I (s ρ d ρ' ee σ G H F r Q q)⟩
theorem PTf.mk {te : TT} {f : FB} (h : PT X e te) (s : SimT X.K te f) : PTf X e f := ⟨fun pins sh σ H Q I ⟨ρ, d, ρ', G, F, ee, r, q⟩ => h.run pins sh σ H Q I (s ρ d ρ' ee σ G H F r Q q)⟩
theorem PWf.mk {te : TT} {f : FB} (h : PW X e te) (s : SimT X.K te f) : PWf X e f := ⟨fun w pins sh σ H Q I ⟨ρ, d, ρ', G, F, ee, r, q⟩ => h.run w pins sh σ H Q I (s ρ d ρ' ee σ G H F r Q q)⟩
theorem PAf.mk {te : TA} {f : List Op} (h : PA X es te) (s : SimA X.K te f) : PAf X es f := ⟨fun p pins sh σ H Q I ⟨ρ, d, ρ', G, F, ee, r, q⟩ => h.run p pins sh σ H Q I (s ρ d ρ' ee σ G H F r Q q)⟩
theorem PSf.mk {st : Stmt} {te : TS} {f : FS} (h : PS X st te) (s : SimS X.K pn W te f) : PSf X pn W st f := ⟨fun pins sh σ H Q I ⟨ρ, d, G, F, ee, r, q⟩ => h.run pins sh σ H Q I (s ρ d ee σ G H F r Q q)⟩
theorem PSsf.mk {st : List Stmt} {te : TS} {f : FS} (h : PSs X st te) (s : SimS X.K pn W te f) : PSsf X pn W st f := ⟨fun pins sh σ H Q I ⟨ρ, d, G, F, ee, r, q⟩ => h.run pins sh σ H Q I (s ρ d ee σ G H F r Q q)⟩
theorem PGf.mk {te : TG} {f : D → Env → Option Env} (h : PG X e te) (s : SimG X.K pn te f) : PGf X pn e f := ⟨fun pins sh σ H v u Q I rv ⟨d, ρ, ρ', G, F, L, ee, r, hr, n, q⟩ => h.run pins sh σ H v u Q I rv (s d ρ ρ' ee v σ G H F L r hr n Q q)⟩
theorem PGsf.mk {te : TGs} {f : List D → Env → Option Env} (h : PGs X es te) (s : SimGs X.K pn te f) : PGsf X pn es f := ⟨fun pins sh σ H v u Q I rv ⟨d, ρ, ρ', G, F, L, ee, r, hr, n, q⟩ => h.run pins sh σ H v u Q I rv (s d ρ ρ' ee v σ G H F L r hr n Q q)⟩
theorem PIf.mk {tg : Expr} {te : TI} {f : FI} (h : PI X tg e te) (s : SimI X.K te f) : PIf X tg e f := ⟨fun pins sh σ H R I ⟨ρ, ds, ρ', G, F, ee, r, q⟩ => h.run pins sh σ H R I (s ρ ds ρ' ee σ G H F r R q)⟩
theorem POf.ex {o : Op} (h : POf X e o) : ∃ te, PE X e te ∧ SimO X.K te o := by
  cases o with
  | b i => exact ⟨_, h, rfl⟩
  | t f => exact ⟨_, h, simE_of f⟩
theorem po_b {i : Nat} (h : PE X e (tVar i)) : POf X e (.b i) := h
theorem po_t {f : FE} (h : PEf X e f) : POf X e (.t f) := h
theorem pf_var {i : Nat} (h : PE X e (tVar i)) : PEf X e (varF i) := .mk h (simE_var i)
theorem pf_mov {i : Nat} (h : PE X e (tVar i)) : PEf X e (movF i) := .mk h (simE_mov i)
theorem pf_int {i : Int} {j} : PEf X (.Constant (.int i) j pos) (litF (.int i)) := .mk pe_int (simE_lit fun _ _ => .int i)
theorem pf_bl {i : Bool} {j} : PEf X (.Constant (.bool i) j pos) (litF (.bl i)) := .mk pe_bl (simE_lit fun _ _ => .bl i)
theorem pf_non {j} : PEf X (.Constant .none j pos) (litF .non) := .mk pe_non (simE_lit fun _ _ => .non)
theorem pf_str {x : Str} {j} : PEf X (.Constant (.str x) j pos) (litF (.str x)) := .mk pe_str (simE_lit fun _ _ => .str x)
theorem paf_nil : PAf X [] [] := .mk pa_nil simA_nil
theorem paf_cons {o : Op} {ops : List Op} (h1 : POf X e o) (h2 : PAf X es ops) (hs : starEach (e :: es) X.env = (false, eval e X.env) :: starEach es X.env := by rfl) : PAf X (e :: es) (o :: ops) := by
  obtain ⟨te, p1, s1⟩ := h1.ex
  exact .mk (pa_cons p1 h2 hs) (simA_cons s1 (simA_of _))
/-- a two-place rule on a list of two -/
def r2L (r : R2) : List V → Hp → VK → Prop := fun vs H Q => match vs with
  | [x, y] => r x y H Q
  | _ => False
def r1L (r : V → Hp → VK → Prop) : List V → Hp → VK → Prop := fun vs H Q => match vs with
  | [x] => r x H Q
  | _ => False
theorem pf_bin {op : Operator} {r : R2} {g : List D → Option D} {o1 o2 : Op} (ho : OpR X (binaryOp op) r) (hv : VOk X.K (r2L r) g) (h1 : POf X a o1) (h2 : POf X b o2) : PEf X (.BinOp a op b pos) (opF g [o1, o2]) := by
  obtain ⟨ta, p1, s1⟩ := h1.ex
  obtain ⟨tb, p2, s2⟩ := h2.ex
  exact .mk (pe_op ho p1 p2) (simE_op (simA_cons s1 (simA_cons s2 simA_nil)) hv)
theorem pf_un {op : UnaryOp} {r : V → Hp → VK → Prop} {g : List D → Option D} {o1 : Op} (ho : UnR X (unaryOp op) r) (hv : VOk X.K (r1L r) g) (h1 : POf X a o1) : PEf X (.UnaryOp op a pos) (opF g [o1]) := by
  obtain ⟨ta, p1, s1⟩ := h1.ex
  exact .mk (pe_un ho p1) (simE_op (simA_cons s1 simA_nil) hv)
theorem pf_cmp {op : CmpOp} {r : R2} {g : List D → Option D} {o1 o2 : Op} (ho : OpR X (compareOp op) r) (hv : VOk X.K (r2L r) g) (h1 : POf X a o1) (h2 : POf X b o2) (hm : behindInMarks op b = false) : PEf X (.Compare a [op] [b] pos) (opF g [o1, o2]) := by
  obtain ⟨ta, p1, s1⟩ := h1.ex
  obtain ⟨tb, p2, s2⟩ := h2.ex
  exact .mk (pe_cmpR ho p1 p2 hm) (simE_op (simA_cons s1 (simA_cons s2 simA_nil)) hv)
theorem pt_cmpf {op : CmpOp} {r : R2} {g : List D → Option D} {o1 o2 : Op} (ho : OpR X (compareOp op) r) (hv : VOk X.K (r2L r) g) (h1 : POf X a o1) (h2 : POf X b o2) (hm : behindInMarks op b = false) : PTf X (.Compare a [op] [b] pos) (bT (opF g [o1, o2])) := by
  obtain ⟨ta, p1, s1⟩ := h1.ex
  obtain ⟨tb, p2, s2⟩ := h2.ex
  exact .mk (pt_cmpR ho p1 p2 hm) (simT_of (simE_op (simA_cons s1 (simA_cons s2 simA_nil)) hv))
theorem pf_ix {r : R2} {g : List D → Option D} {o1 o2 : Op} (ho : IxR X r) (hv : VOk X.K (r2L r) g) (h1 : POf X a o1) (h2 : POf X b o2) (hs : PlainIx b) : PEf X (.Subscript a b pos) (opF g [o1, o2]) := by
  obtain ⟨ta, p1, s1⟩ := h1.ex
  obtain ⟨tb, p2, s2⟩ := h2.ex
  exact .mk (pe_ix ho p1 p2 hs) (simE_op (simA_cons s1 (simA_cons s2 simA_nil)) hv)
theorem pf_callB {id : String} {x : Str} {p : Pos} {o : Op} {r : List V → Hp → VK → Prop} {g : List D → Option D} {ops : List Op} (hc : CallR X (.builtin id) r) (hv' : VOk X.K r g) (hg : Gl X x) (hm : X.mg x = none) (hv : bootBuiltins x = some (.builtin id)) (ha : PAf X (e :: es) (o :: ops)) (hn : x ≠ "__name__" := by decide) (hdb : (x == ("__debug__" : Str)) = false := by decide)
    (he : starEach (e :: es) X.env = (false, eval e X.env) :: starEach es X.env := by rfl) (hpl : (backTo pos (starEach es X.env)).any (·.1) = false := by rfl) : PEf X (.Call (.Name x p) (e :: es) [] pos) (opF g (o :: ops)) :=
  .mk (pe_callB hc hg hm hv ha hn hdb he hpl) (simE_op (simA_of _) hv')
theorem pf_callTy {T : String} {x : Str} {p : Pos} {o : Op} {r : List V → Hp → VK → Prop} {g : List D → Option D} {ops : List Op} (hc : CallR X (.type T) r) (hv' : VOk X.K r g) (hg : Gl X x) (hm : X.mg x = none) (hv : bootBuiltins x = some (.type T)) (ha : PAf X (e :: es) (o :: ops)) (hn : x ≠ "__name__" := by decide) (hdb : (x == ("__debug__" : Str)) = false := by decide)
    (he : starEach (e :: es) X.env = (false, eval e X.env) :: starEach es X.env := by rfl) (hpl : (backTo pos (starEach es X.env)).any (·.1) = false := by rfl) : PEf X (.Call (.Name x p) (e :: es) [] pos) (opF g (o :: ops)) :=
  .mk (pe_callTy hc hg hm hv ha hn hdb he hpl) (simE_op (simA_of _) hv')
/-! tests -/
theorem pt_tst {o : Op} (h : POf X e o) (he : ∀ whole, isTrue e X.env whole = (do let v ← whole; standAt e.pos; holding [v] (truthy v)) := by intro _; rfl) : PTf X e (tstF o) := by
  obtain ⟨te, p1, s1⟩ := h.ex
  exact .mk (pt_truth p1 he) (simT_tst s1)
theorem ptf_not {f : FB} (h : PTf X a f) : PTf X (.UnaryOp .Not a pos) (notF f) := .mk (pt_not h) (simT_not (simT_of' f))
theorem pwf_and1 {f : FB} (h : PTf X a f) : PWf X (.BoolOp .And [a] pos) f := pw_and1 h
theorem pwf_or1 {f : FB} (h : PTf X a f) : PWf X (.BoolOp .Or [a] pos) f := pw_or1 h
theorem pwf_and {rest : List Expr} {f g : FB} (h : PTf X a f) (h2 : PWf X (.BoolOp .And (b :: rest) pos) g) : PWf X (.BoolOp .And (a :: b :: rest) pos) (andF f g) := .mk (pw_and h h2) (simT_and (simT_of' f) (simT_of' g))
theorem pwf_or {rest : List Expr} {f g : FB} (h : PTf X a f) (h2 : PWf X (.BoolOp .Or (b :: rest) pos) g) : PWf X (.BoolOp .Or (a :: b :: rest) pos) (orF f g) := .mk (pw_or h h2) (simT_or (simT_of' f) (simT_of' g))
theorem PWf.pt {f : FB} (h : PWf X e f) : PTf X e f := L2.PW.pt h
theorem pf_one {op} {f : FE} (h : PEf X a f) : PEf X (.BoolOp op [a] pos) f := pe_one h
theorem pf_and {rest : List Expr} {f g : FE} (h : PEf X a f) (h2 : PEf X (.BoolOp .And (b :: rest) pos) g) : PEf X (.BoolOp .And (a :: b :: rest) pos) (andV f g) := .mk (pe_and h h2) (simE_andV (simE_of f) (simE_of g))
theorem pf_or {rest : List Expr} {f g : FE} (h : PEf X a f) (h2 : PEf X (.BoolOp .Or (b :: rest) pos) g) : PEf X (.BoolOp .Or (a :: b :: rest) pos) (orV f g) := .mk (pe_or h h2) (simE_orV (simE_of f) (simE_of g))
theorem pf_not {f : FE} (h : PEf X a f) : PEf X (.UnaryOp .Not a pos) (notV f) := .mk (pe_not h) (simE_notV (simE_of f))
theorem pf_if {c : Expr} {fc : FB} {f g : FE} (hc : PTf X c fc) (h1 : PEf X a f) (h2 : PEf X b g) : PEf X (.IfExp c a b pos) (ifE fc f g) := .mk (pe_ifExp hc h1 h2) (simE_if (simT_of' fc) (simE_of f) (simE_of g))
/-! statements -/
theorem psf_nil : PSsf X pn W [] passF := .mk pss_nil simS_pass
theorem psf_cons {st : Stmt} {rest : List Stmt} {f g : FS} (h1 : PSf X pn W st f) (h2 : PSsf X pn W rest g) : PSsf X pn W (st :: rest) (seqF f g) := .mk (pss_cons h1 h2) (simS_seq (simS_of f) (simS_of g))
theorem psf_one {st : Stmt} {f : FS} (h1 : PSf X pn W st f) : PSsf X pn W [st] f := pss_one h1
theorem psf_pass : PSf X pn W (.Pass pos) passF := .mk ps_pass simS_pass
theorem psf_brk : PSf X pn W (.Break pos) brkF := .mk ps_break simS_brk
theorem psf_cnt : PSf X pn W (.Continue pos) cntF := .mk ps_continue simS_cnt
theorem psf_never {st : Stmt} : PSf X pn W st neverF := .mk ps_never simS_never
theorem psf_expr {f : FE} (h : PEf X e f) (hs : swapsWith e none pos.line X.env = pure false := by rfl) : PSf X pn W (.Expr e pos) (dropF f) := .mk (ps_expr h hs) (simS_drop (simE_of f))
theorem psf_ret {f : FE} (h : PEf X e f) : PSf X pn W (.Return (some e) pos) (retF f) := .mk (ps_ret h) (simS_ret (simE_of f))
theorem psf_retN : PSf X pn W (.Return none pos) retN := .mk ps_retN simS_retN
theorem psf_if {c : Expr} {A B : List Stmt} {fc : FB} {f g : FS} (hc : PTf X c fc) (h1 : PSsf X pn W A f) (h2 : PSsf X pn W B g) : PSf X pn W (.If c A B pos) (ifF fc f g) := .mk (ps_if hc h1 h2) (simS_if (simT_of' fc) (simS_of f) (simS_of g))
theorem psf_asg {tg : Expr} {f : FE} {g : D → Env → Option Env} (h : PEf X e f) (hg : PGf X pn tg g) (hs : swapsWithSole [tg] e pos.line X.env = pure false := by rfl) (hw : swappedStores [tg] e X.env = pure none := by rfl)
    (h1 : (assignEach [tg] X.env).map (·.2) = [assign tg X.env] := by rfl) : PSf X pn W (.Assign [tg] e pos) (asgF f g) := .mk (ps_asg h hg hs hw h1) (simS_asg (simE_of f) (simG_of g))
theorem psf_set {i : Nat} {x : Str} {pos' : Pos} {f : FE} (hN : X.N.Nodup) (hi : X.N[i]? = some x) (hx : Loc X.env.scope x) (hp : pn i = false) (h : PEf X e f) (hs : swapsWith e (some (.Name x pos')) pos.line X.env = pure false := by rfl) (hf : X.fn x = true ∨ X.env.scope.names.lookup x = some .local := by first | exact .inl rfl | exact .inr rfl | assumption) :
    PSf X pn W (.Assign [.Name x pos'] e pos) (asgF f (tgN i)) := .mk (ps_set hN hi hx h hs hf) (simS_asg (simE_of f) (simG_name hp))
theorem pgf_name {i : Nat} {x : Str} (hN : X.N.Nodup) (hi : X.N[i]? = some x) (hx : Loc X.env.scope x) (hp : pn i = false) (hf : X.fn x = true ∨ X.env.scope.names.lookup x = some .local := by first | exact .inl rfl | exact .inr rfl | assumption) : PGf X pn (.Name x pos) (tgN i) := .mk (pg_name hN hi hx hf) (simG_name hp)
theorem pgsf_nil : PGsf X pn [] tgNil := .mk pgs_nil simGs_nil
theorem pgsf_cons {g : D → Env → Option Env} {gs : List D → Env → Option Env} (h1 : PGf X pn e g) (h2 : PGsf X pn es gs) (hs : (assignEach (e :: es) X.env).map (·.2) = assign e X.env :: (assignEach es X.env).map (·.2) := by rfl) : PGsf X pn (e :: es) (tgCons g gs) := .mk (pgs_cons h1 h2 hs) (simGs_cons (simG_of g) (simGs_of gs))
theorem pgf_tup {k n : Nat} {gs : List D → Env → Option Env} (hc : X.calm = true) (h : PGsf X pn es gs) (hn : (assignEach es X.env).length = n := by rfl) (hst : (assignEach es X.env).findIdx? (·.1) = none := by rfl) : PGf X pn (.Tuple es k pos) (tgT n gs) := .mk (pg_tup hc h hn hst) (simG_tup (simGs_of gs))
theorem psf_for {tg iter : Expr} {body : List Stmt} {fi : FI} {g : D → Env → Option Env} {f : FS} (hp : PassesOwn (model X.prog X.w) X.A X.env X.xe) (hc : X.calm = true) (hi : PIf X tg iter fi) (hg : PGf X pn tg g) (hb : PSsf X pn W body f)
    (hs : ∀ x, foldedSetIterable iter X.env x = pure x := by intro _; rfl) : PSf X pn W (.For tg iter body [] pos) (forF fi g f) := .mk (ps_for hp hc hi hg hb hs) (simS_for (simI_of fi) (simG_of g) (simS_of f))
theorem psf_while {c : Expr} {body : List Stmt} {fc : FB} {f : FS} (n : Nat) (hp : PassesOwn (model X.prog X.w) X.A X.env X.xe) (hc : PTf X c fc) (hb : PSsf X pn W body f) : PSf X pn W (.While c body [] pos) (whF n fc f) := .mk (ps_while hp hc hb) (simS_while n (simT_of' fc) (simS_of f))
end
end VS
set_option Elab.async false
set_option linter.all false
set_option maxRecDepth 100000
namespace VS
open PySem PySem.Spec PyProof.Rows L2
/-! ### operands that are kept: what is read off a slot bears nothing owned -/
def takeN : List Op → List (Option D) → Env → Option (List D)
  | .b i :: r, _ :: ts, ρ => (getS ρ i).bind fun d => if noOwn d = true then (takeN r ts ρ).bind fun ds => some (d :: ds) else none
  | .t _ :: r, some d :: ts, ρ => (takeN r ts ρ).bind fun ds => some (d :: ds)
  | [], _, _ => some []
  | _, _, _ => none
def smallL : Nat := 100000
def tupF (ops : List Op) : FE := fun ρ => (evOps ops ρ).bind fun p => (takeN ops p.1 p.2).bind fun ds => if ds.length ≤ smallL then some (.tup ds, p.2) else none
def lstF (ops : List Op) : FE := fun ρ => (evOps ops ρ).bind fun p => (takeN ops p.1 p.2).bind fun ds => if ds.length ≤ smallL then some (.lst true ds, p.2) else none
/-- a method of a list that stands in a slot -/
def mutF (i : Nat) (g : List D → List D → Option (D × List D)) (ops : List Op) : FE := fun ρ => match getS ρ i with
  | some (.lst true _) => (evOps ops ρ).bind fun p => (takeN ops p.1 p.2).bind fun ds => match getS p.2 i with
    | some (.lst true xs) => (g xs ds).bind fun q => some (q.1, p.2.set i (some (.lst true q.2)))
    | _ => none
  | _ => none
section
variable {K : PySem.W.Frag} {pn : Nat → Bool} {W : WX}
theorem small_line {n : Nat} (h : n ≤ smallL) : n ≤ sizeLine := Nat.le_trans h (by decide)
theorem OpsOk.take {G H : Hp} {σ : L2.St} {ρ : Env} {F : Nat → List Addr} (r : REnv K G H σ ρ F) : ∀ {ops : List Op} {ts : List (Option D)} {vs : List V} {M : List Addr} {ds : List D}, OpsOk K G H σ ops ts vs M → takeN ops ts ρ = some ds → Reps K G H vs ds M
  | _, _, _, _, ds, .nil, e => by
    unfold takeN at e; cases e; exact .nil
  | .b i :: ops, o :: ts, v :: vs, M, ds, .b hv ok, e => by
    unfold takeN at e
    cases hd : getS ρ i with
    | none => rw [hd] at e; cases e
    | some d =>
      rw [hd] at e
      have e1 : (if noOwn d = true then (takeN ops ts ρ).bind fun ds => some (d :: ds) else none) = some ds := e
      by_cases hn : noOwn d = true
      · rw [if_pos hn] at e1
        cases he : takeN ops ts ρ with
        | none => rw [he] at e1; cases e1
        | some ds1 =>
          rw [he] at e1; cases e1
          obtain ⟨w, hw, hr⟩ := r.at_ i d hd
          rw [hv] at hw; cases hw
          have h0 := hr.noL hn
          rw [h0] at hr
          have := Reps.cons hr (ok.take r he) (fun a z => nomatch z)
          exact this
      · rw [if_neg hn] at e1; cases e1
  | .t f :: ops, some d :: ts, v :: vs, _, ds, .t hr hn ok, e => by
    unfold takeN at e
    cases he : takeN ops ts ρ with
    | none => rw [he] at e; cases e
    | some ds1 => rw [he] at e; cases e; exact .cons hr (ok.take r he) hn
theorem simE_disp {ta : TA} {ops : List Op} {mk : List V → HO} {f : FE} {mkD : List D → D} (h : SimA K ta ops)
    (hf : ∀ ρ d ρ', f ρ = some (d, ρ') → ∃ ts ds, evOps ops ρ = some (ts, ρ') ∧ takeN ops ts ρ' = some ds ∧ ds.length ≤ smallL ∧ d = mkD ds)
    (hm : ∀ (G H : Hp) (vs : List V) (ds : List D) (M : List Addr) (p : Addr), Same G H → H p = none → Reps K G H vs ds M → ∃ G' L, Tr G H (fun a => a ∈ M) G' (upd H p (mk vs)) (fun a => a ∈ L) ∧ (∀ a, H a ≠ none → a ∉ M → a ∉ L) ∧ Rep K G' (upd H p (mk vs)) (.ref p) (mkD ds) L) :
    SimE K (fun σ H Q => ta σ H fun xs H1 => xs.length ≤ sizeLine ∧ ∀ p, H1 p = none → Q (.ref p) (upd H1 p (mk xs))) f := by
  intro ρ d ρ' e σ G H F r Q q
  obtain ⟨ts, ds, he, ht, hz, rfl⟩ := hf ρ d ρ' e
  refine h ρ ts ρ' he σ G H F r _ fun vs G1 H1 F1 M t1 r1 ok n1 => ?_
  have rs := ok.take r1 ht
  refine ⟨by rw [rs.length]; exact small_line hz, fun p hp => ?_⟩
  obtain ⟨G2, L, t2, hL, rv⟩ := hm G1 H1 vs ds M p r1.sub hp rs
  have nF : ∀ a, own F1 a → a ∉ M := fun a h m => n1 a m h
  have r2 := r1.tr t2 nF
  refine q (.ref p) G2 _ F1 L (t1.trans (t2.wk (fun a m => .inr m) fun a h => ?_)) r2 rv fun a ha ⟨j, hj⟩ => ?_
  · rcases h with h | h
    · exact .inr (.inl (.inl h))
    · exact .inl h
  · refine hL a (fun z => ?_) (nF a ⟨j, hj⟩) ha
    obtain ⟨_, vs, e, _⟩ := r1.owned j a hj
    rw [z] at e; cases e
theorem simE_tup {ta : TA} {ops : List Op} (h : SimA K ta ops) : SimE K (tTup ta) (tupF ops) := by
  refine simE_disp (mk := .tup) (mkD := .tup) h (fun ρ d ρ' e => ?_) fun G H vs ds M p s hp rs => ?_
  · unfold tupF at e
    cases he : evOps ops ρ with
    | none => rw [he] at e; cases e
    | some pr =>
      obtain ⟨ts, ρ1⟩ := pr
      rw [he] at e
      cases ht : takeN ops ts ρ1 with
      | none => have e2 : (takeN ops ts ρ1).bind (fun ds => if ds.length ≤ smallL then some (D.tup ds, ρ1) else none) = some (d, ρ') := e; rw [ht] at e2; cases e2
      | some ds =>
        have e2 : (takeN ops ts ρ1).bind (fun ds => if ds.length ≤ smallL then some (D.tup ds, ρ1) else none) = some (d, ρ') := e
        rw [ht] at e2
        have e3 : (if ds.length ≤ smallL then some (D.tup ds, ρ1) else none) = some (d, ρ') := e2
        by_cases hz : ds.length ≤ smallL
        · rw [if_pos hz] at e3; cases e3; exact ⟨ts, ds, rfl, ht, hz, rfl⟩
        · rw [if_neg hz] at e3; cases e3
  · have t := Tr.newG (A := fun a => a ∈ M) (o := .tup vs) s hp
    refine ⟨_, M, t, fun a _ n => n, .tup (.inl (.inl upd_same)) (rs.keep ⟨t.g, fun a ha hg => ?_, fun a ha => ?_⟩)⟩
    · have : a ≠ p := fun z => by subst z; obtain ⟨_, vs, e, _⟩ := rs.owned a ha; rw [hp] at e; cases e
      rw [upd_ne this]; exact hg
    · have : a ≠ p := fun z => by subst z; obtain ⟨_, vs, e, _⟩ := rs.owned a ha; rw [hp] at e; cases e
      rw [upd_ne this]
theorem simE_lst {ta : TA} {ops : List Op} (h : SimA K ta ops) : SimE K (tLst ta) (lstF ops) := by
  refine simE_disp (mk := .lst) (mkD := .lst true) h (fun ρ d ρ' e => ?_) fun G H vs ds M p s hp rs => ?_
  · unfold lstF at e
    cases he : evOps ops ρ with
    | none => rw [he] at e; cases e
    | some pr =>
      obtain ⟨ts, ρ1⟩ := pr
      rw [he] at e
      cases ht : takeN ops ts ρ1 with
      | none => have e2 : (takeN ops ts ρ1).bind (fun ds => if ds.length ≤ smallL then some (D.lst true ds, ρ1) else none) = some (d, ρ') := e; rw [ht] at e2; cases e2
      | some ds =>
        have e2 : (takeN ops ts ρ1).bind (fun ds => if ds.length ≤ smallL then some (D.lst true ds, ρ1) else none) = some (d, ρ') := e
        rw [ht] at e2
        have e3 : (if ds.length ≤ smallL then some (D.lst true ds, ρ1) else none) = some (d, ρ') := e2
        by_cases hz : ds.length ≤ smallL
        · rw [if_pos hz] at e3; cases e3; exact ⟨ts, ds, rfl, ht, hz, rfl⟩
        · rw [if_neg hz] at e3; cases e3
  · have t := Tr.newO (A := fun a => a ∈ M) (o := .lst vs) s hp
    have hne : ∀ a ∈ M, a ≠ p := fun a ha z => by subst z; obtain ⟨_, vs, e, _⟩ := rs.owned a ha; rw [hp] at e; cases e
    refine ⟨G, p :: M, t.post fun a h => ?_, fun a ha n m => ?_, .lstO (s.free hp) upd_same (fun z => hne p z rfl) (rs.keep ⟨t.g, fun a ha hg => hg, fun a ha => upd_ne (hne a ha)⟩)⟩
    · rcases List.mem_cons.mp h with h | h
      · exact .inr h
      · exact .inl h
    · rcases List.mem_cons.mp m with z | z
      · subst z; exact ha hp
      · exact n z
/-- a method that changes its list -/
def MOk (K : PySem.W.Frag) (r : V → List V → Hp → VK → Prop) (g : List D → List D → Option (D × List D)) : Prop := ∀ (G H : Hp) (a : Addr) (vs us : List V) (xs ds : List D) (L M : List Addr) (d : D) (xs' : List D), Same G H → G a = none → H a = some (.lst vs) →
  Reps K G H vs xs L → Reps K G H us ds M → (∀ b ∈ L, b ∉ M) → g xs ds = some (d, xs') → ∀ Q : VK,
  (∀ v vs' L' N, Reps K G H vs' xs' L' → Rep K G H v d N → (∀ b ∈ L', b ∈ L ∨ b ∈ M) → (∀ b ∈ N, b ∈ L ∨ b ∈ M) → (∀ b ∈ L', b ∉ N) → Q v (upd H a (.lst vs'))) → r (.ref a) us H Q
theorem simE_mut {to : TE} {i : Nat} {ta : TA} {ops : List Op} {r : V → List V → Hp → VK → Prop} {g : List D → List D → Option (D × List D)} (ho : to = tVar i) (h : SimA K ta ops) (hm : MOk K r g) : SimE K (tBM K "list" r to ta) (mutF i g ops) := by
  subst ho
  intro ρ d ρ' e σ G H F rr Q q
  unfold mutF at e
  cases h0 : getS ρ i with
  | none => rw [h0] at e; cases e
  | some d0 =>
    rw [h0] at e
    cases d0 with
    | lst o xs0 =>
      cases o with
      | false => cases e
      | true =>
        obtain ⟨v, hv, hrep⟩ := rr.at_ i _ h0
        have e1 : ((evOps ops ρ).bind fun p => (takeN ops p.1 p.2).bind fun ds => match getS p.2 i with
          | some (.lst true xs) => (g xs ds).bind fun q => some (q.1, p.2.set i (some (.lst true q.2)))
          | _ => none) = some (d, ρ') := e
        cases he : evOps ops ρ with
        | none => rw [he] at e1; cases e1
        | some pr =>
          obtain ⟨ts, ρ1⟩ := pr
          rw [he] at e1
          have e2 : ((takeN ops ts ρ1).bind fun ds => match getS ρ1 i with
            | some (.lst true xs) => (g xs ds).bind fun q => some (q.1, ρ1.set i (some (.lst true q.2)))
            | _ => none) = some (d, ρ') := e1
          cases ht : takeN ops ts ρ1 with
          | none => rw [ht] at e2; cases e2
          | some ds =>
            rw [ht] at e2
            have e3 : (match getS ρ1 i with
              | some (.lst true xs) => (g xs ds).bind fun q => some (q.1, ρ1.set i (some (.lst true q.2)))
              | _ => none) = some (d, ρ') := e2
            cases h1 : getS ρ1 i with
            | none => rw [h1] at e3; cases e3
            | some d1 =>
              rw [h1] at e3
              cases d1 with
              | lst o1 xs =>
                cases o1 with
                | false => cases e3
                | true =>
                  have e4 : ((g xs ds).bind fun q => some (q.1, ρ1.set i (some (.lst true q.2)))) = some (d, ρ') := e3
                  cases hg : g xs ds with
                  | none => rw [hg] at e4; cases e4
                  | some pq =>
                    obtain ⟨d2, xs'⟩ := pq
                    rw [hg] at e4; cases e4
                    refine ⟨v, hv, ?_, h ρ ts ρ1 he σ G H F rr _ fun us G1 H1 F1 M t1 r1 ok n1 => ?_⟩
                    · generalize hFi : F i = Fi at hrep
                      cases hrep with
                      | lstO _ hH _ _ => exact .inl ⟨rfl, _, .inl (.inl hH)⟩
                    · have rs := ok.take r1 ht
                      obtain ⟨v', hv', hrep'⟩ := r1.at_ i _ h1
                      rw [hv] at hv'; cases hv'
                      generalize hFi : F1 i = Fi at hrep'
                      cases hrep' with
                      | lstO hG hH hn hr =>
                        rename_i a vs L
                        have hsub : ∀ b ∈ a :: L, b ∈ F1 i := fun b hb => by rw [hFi]; exact hb
                        have nLM : ∀ b ∈ L, b ∉ M := fun b hb hm => n1 b hm ⟨i, hsub b (List.mem_cons_of_mem _ hb)⟩
                        have naM : a ∉ M := fun hm => n1 a hm ⟨i, hsub a List.mem_cons_self⟩
                        refine hm G1 H1 a vs us xs ds L M _ xs' r1.sub hG hH hr rs nLM hg Q fun v2 vs' L' N hr' hrv sL' sN nLN => ?_
                        have naL' : a ∉ L' := fun z => (sL' a z).elim hn naM
                        have naN : a ∉ N := fun z => (sN a z).elim hn naM
                        have tw : Tr G1 H1 (fun b => b = a) G1 (upd H1 a (.lst vs')) (fun b => b = a) := Tr.write r1.sub hG rfl ⟨_, hH⟩
                        have kL : ∀ {L0 : List Addr}, a ∉ L0 → Keep G1 H1 G1 (upd H1 a (.lst vs')) L0 := fun {L0} hn0 => ⟨Same.refl _, fun _ _ h => h, fun b hb => upd_ne fun z => hn0 (z ▸ hb)⟩
                        have rd := (r1.drop i).tr tw fun b ⟨j, hj⟩ z => by
                          subst z
                          by_cases hji : j = i
                          · subst hji; rw [fset_same] at hj; cases hj
                          · rw [fset_ne hji] at hj; exact r1.dis j i hji _ hj (hsub _ List.mem_cons_self)
                        have hnew : Rep K G1 (upd H1 a (.lst vs')) (.ref a) (.lst true xs') (a :: L') := .lstO hG upd_same naL' (hr'.keep (kL naL'))
                        have hap : ∀ b ∈ a :: L', ∀ j, j ≠ i → b ∉ fset F1 i [] j := fun b hb j hj hbj => by
                          rw [fset_ne hj] at hbj
                          rcases List.mem_cons.mp hb with z | z
                          · subst z; exact r1.dis j i hj _ hbj (hsub _ List.mem_cons_self)
                          · rcases sL' b z with y | y
                            · exact r1.dis j i hj _ hbj (hsub b (List.mem_cons_of_mem _ y))
                            · exact n1 b y ⟨j, hbj⟩
                        have rp := rd.re (i := i) (by rw [List.length_set]; exact r1.lt h1) hv hnew hap
                        rw [List.set_set] at rp
                        refine q v2 G1 _ _ N ?_ rp (hrv.keep (kL naN)) fun b hb ⟨j, hj⟩ => ?_
                        · refine t1.trans (tw.wk (fun b z => .inl ⟨i, z ▸ hsub a List.mem_cons_self⟩) fun b hb => .inr (.inl ?_))
                          rcases hb with ⟨j, hj⟩ | hb
                          · by_cases hji : j = i
                            · subst hji
                              rw [fset_same] at hj
                              rcases List.mem_cons.mp hj with z | z
                              · exact .inl ⟨j, z ▸ hsub a List.mem_cons_self⟩
                              · rcases sL' b z with y | y
                                · exact .inl ⟨j, hsub b (List.mem_cons_of_mem _ y)⟩
                                · exact .inr y
                            · rw [fset_ne hji, fset_ne hji] at hj; exact .inl ⟨j, hj⟩
                          · rcases sN b hb with y | y
                            · exact .inl ⟨i, hsub b (List.mem_cons_of_mem _ y)⟩
                            · exact .inr y
                        · by_cases hji : j = i
                          · subst hji
                            rw [fset_same] at hj
                            rcases List.mem_cons.mp hj with z | z
                            · subst z; exact naN hb
                            · exact nLN b z hb
                          · rw [fset_ne hji, fset_ne hji] at hj
                            rcases sN b hb with y | y
                            · exact r1.dis j i hji _ hj (hsub b (List.mem_cons_of_mem _ y))
                            · exact n1 b y ⟨j, hj⟩
              | _ => cases e3
    | _ => cases e
end
end VS
set_option Elab.async false
set_option linter.all false
set_option maxRecDepth 100000
namespace VS
open PySem PySem.Spec PyProof.Rows L2
/-! ### defs and their calls -/
/-- a def by its data: how many parameters, which of them are never stored anew (a list handed in there is the caller's still), and what it makes: a value, and the data of those parameters behind -/
structure Fn where
  np : Nat
  pins : List Bool
  sem : List D → Option (D × List (Option D))
  len : ∀ ds r, sem ds = some r → ds.length = np
def finP : List Bool → Env → List (Option D)
  | p :: ps, o :: ρ => (if p = true then o else none) :: finP ps ρ
  | _, _ => []
def bodySem (nN np : Nat) (pins : List Bool) (f : FS) : List D → Option (D × List (Option D)) := fun ds =>
  if ds.length = np then match f (ds.map some ++ List.replicate (nN - np) none) with
    | some (.rt d ρ) => some (d, finP pins ρ)
    | some (.nx ρ) => some (.non, finP pins ρ)
    | _ => none
  else none
def fetchC : List Bool → List Op → List (Option D) → Env → Option (List D × Env)
  | p :: ps, .b i :: r, _ :: ts, ρ => (getS ρ i).bind fun d => if noOwn d = true then (fetchC ps r ts ρ).bind fun q => some (d :: q.1, q.2) else if p = true then (fetchC ps r ts (ρ.set i none)).bind fun q => some (d :: q.1, q.2) else none
  | _ :: ps, .t _ :: r, some d :: ts, ρ => (fetchC ps r ts ρ).bind fun q => some (d :: q.1, q.2)
  | [], [], [], ρ => some ([], ρ)
  | _, _, _, _ => none
def putB : List Op → List D → List (Option D) → Env → Env
  | .b i :: r, d :: ds, o :: os, ρ => if noOwn d = true then putB r ds os ρ else putB r ds os (ρ.set i o)
  | .t _ :: r, _ :: ds, _ :: os, ρ => putB r ds os ρ
  | _, _, _, ρ => ρ
def callF (fn : Fn) (ops : List Op) : FE := fun ρ => (evOps ops ρ).bind fun p => (fetchC fn.pins ops p.1 p.2).bind fun c => (fn.sem c.1).bind fun q => some (q.1, putB ops c.1 q.2 c.2)
inductive ROs (K : PySem.W.Frag) (G H : Hp) : List V → List (Option D) → List Addr → Prop
  | nil : ROs K G H [] [] []
  | no {v : V} {vs os L} : ROs K G H vs os L → ROs K G H (v :: vs) (none :: os) L
  | yes {v : V} {d : D} {L1 vs os L} : Rep K G H v d L1 → ROs K G H vs os L → (∀ a, a ∈ L1 → a ∉ L) → ROs K G H (v :: vs) (some d :: os) (L1 ++ L)
/-- the promise of a def, by its data -/
def spOf (K : PySem.W.Frag) (fn : Fn) : Sp := fun vs H Q _ => ∃ G ds L d os, Same G H ∧ Reps K G H vs ds L ∧ vs.length = fn.np ∧ fn.sem ds = some (d, os) ∧
  ∀ v G' H' P N, Tr G H (fun a => a ∈ L) G' H' (fun a => a ∈ P ∨ a ∈ N) → ROs K G' H' vs os P → Rep K G' H' v d N → (∀ a ∈ N, a ∉ P) → Q v H'
section
variable {K : PySem.W.Frag} {G H : Hp}
theorem own_cons {L1 : List Addr} {F : Nat → List Addr} {a : Addr} (h : own (fun j => match j with | 0 => L1 | j + 1 => F j) a) : a ∈ L1 ∨ own F a := by
  obtain ⟨j, h⟩ := h
  cases j with
  | zero => exact .inl h
  | succ j => exact .inr ⟨j, h⟩
theorem getS_cons {o : Option D} {ρ : Env} {j : Nat} : getS (o :: ρ) (j + 1) = getS ρ j := rfl
theorem REnv.cons (v : V) {d : D} {L1 : List Addr} {σ : L2.St} {ρ : Env} {F : Nat → List Addr} (h : Rep K G H v d L1) (r : REnv K G H σ ρ F) (n : ∀ a ∈ L1, ¬ own F a) :
    REnv K G H (some v :: σ) (some d :: ρ) (fun j => match j with | 0 => L1 | j + 1 => F j) := by
  refine ⟨r.sub, by simp [r.len], fun i e q => ?_, fun i q => ?_, fun i j ne a ha => ?_⟩
  · cases i with
    | zero => cases q; exact ⟨v, rfl, h⟩
    | succ i => exact r.at_ i e q
  · cases i with
    | zero => cases q
    | succ i => exact r.off i q
  · cases i with
    | zero =>
      cases j with
      | zero => exact absurd rfl ne
      | succ j => exact fun z => n a ha ⟨j, z⟩
    | succ i =>
      cases j with
      | zero => exact fun z => n a z ⟨i, ha⟩
      | succ j => exact r.dis i j (fun z => ne (by rw [z])) a ha
theorem REnv.empty (s : Same G H) (n : Nat) : REnv K G H (List.replicate n none) (List.replicate n none) (fun _ => []) := by
  refine ⟨s, by simp, fun i e q => ?_, fun _ _ => rfl, fun _ _ _ a z => nomatch z⟩
  unfold getS at q
  cases h : (List.replicate n (none : Option D))[i]? with
  | none => rw [h] at q; cases q
  | some o =>
    have := List.mem_of_getElem? h
    rw [List.mem_replicate] at this
    rw [h, this.2] at q; cases q
theorem REnv.start (s : Same G H) : ∀ {vs : List V} {ds : List D} {L : List Addr} (n : Nat), Reps K G H vs ds L → ∃ F, REnv K G H (vs.map some ++ List.replicate n none) (ds.map some ++ List.replicate n none) F ∧ ∀ a, own F a → a ∈ L
  | _, _, _, n, .nil => ⟨_, REnv.empty s n, fun a ⟨_, h⟩ => nomatch h⟩
  | _, _, _, n, .cons (v := v) hv hr nn => by
    obtain ⟨F, r, o⟩ := REnv.start s n hr
    refine ⟨_, REnv.cons v hv r (fun a ha z => nn a ha (o a z)), fun a h => ?_⟩
    rcases own_cons h with z | z
    · exact List.mem_append_left _ z
    · exact List.mem_append_right _ (o a z)
theorem REnv.tail {s : Option V} {o : Option D} {σ : L2.St} {ρ : Env} {F : Nat → List Addr} (r : REnv K G H (s :: σ) (o :: ρ) F) : REnv K G H σ ρ (fun j => F (j + 1)) :=
  ⟨r.sub, by simpa using r.len, fun i d q => r.at_ (i + 1) d q, fun i q => r.off (i + 1) q, fun i j n a => r.dis (i + 1) (j + 1) (by omega) a⟩
theorem REnv.fin : ∀ {pins : List Bool} {vs : List V} {σ : L2.St} {ρ : Env} {F : Nat → List Addr}, REnv K G H σ ρ F → vs.length = pins.length → pins.length ≤ σ.length → (∀ j : Nat, pins[j]? = some true → σ[j]? = (vs[j]?).map some) →
    ∃ P, ROs K G H vs (finP pins ρ) P ∧ ∀ a ∈ P, own F a
  | [], vs, σ, ρ, F, r, h, _, _ => by
    have : vs = [] := List.length_eq_zero_iff.mp h
    subst this
    refine ⟨[], ?_, fun a z => nomatch z⟩
    have : finP [] ρ = [] := by cases ρ <;> rfl
    rw [this]; exact .nil
  | p :: ps, [], σ, ρ, F, r, h, _, _ => by cases h
  | p :: ps, v :: vs, [], ρ, F, r, h, hl, _ => by simp at hl
  | p :: ps, v :: vs, s :: σ, [], F, r, h, hl, _ => by have := r.len; cases this
  | p :: ps, v :: vs, s :: σ, o :: ρ, F, r, h, hl, hp => by
    obtain ⟨P, q, s1⟩ := REnv.fin (pins := ps) (vs := vs) r.tail (by simpa using h) (by simpa using hl) (fun j hj => hp (j + 1) hj)
    unfold finP
    by_cases hpp : p = true
    · rw [if_pos hpp]
      cases o with
      | none => exact ⟨P, .no q, fun a ha => let ⟨j, hj⟩ := s1 a ha; ⟨j + 1, hj⟩⟩
      | some d =>
        obtain ⟨w, e, hr⟩ := r.at_ 0 d rfl
        have e2 := hp 0 (by rw [hpp]; rfl)
        have : w = v := by
          have e3 : some s = some (some v) := e2
          have e4 : some s = some (some w) := e
          rw [e4] at e3; cases e3; rfl
        subst this
        refine ⟨F 0 ++ P, .yes hr q fun a ha hP => ?_, fun a ha => ?_⟩
        · obtain ⟨j, hj⟩ := s1 a hP
          exact r.dis 0 (j + 1) (by omega) a ha hj
        · rcases List.mem_append.mp ha with z | z
          · exact ⟨0, z⟩
          · obtain ⟨j, hj⟩ := s1 a z; exact ⟨j + 1, hj⟩
    · rw [if_neg hpp]
      exact ⟨P, .no q, fun a ha => let ⟨j, hj⟩ := s1 a ha; ⟨j + 1, hj⟩⟩
theorem OpsOk.fetchC {σ : L2.St} : ∀ {pins : List Bool} {ops : List Op} {ts : List (Option D)} {vs : List V} {M : List Addr} {ds : List D} {ρ ρr : Env} {F : Nat → List Addr}, REnv K G H σ ρ F → OpsOk K G H σ ops ts vs M → (∀ a ∈ M, ¬ own F a) → VS.fetchC pins ops ts ρ = some (ds, ρr) →
    ∃ L Fr, Reps K G H vs ds L ∧ REnv K G H σ ρr Fr ∧ (∀ a ∈ L, ¬ own Fr a) ∧ (∀ a ∈ L, own F a ∨ a ∈ M) ∧ (∀ a, own Fr a → own F a)
  | [], _, _, _, _, ds, ρ, ρr, F, r, .nil, n, e => by
    unfold VS.fetchC at e; cases e
    exact ⟨[], F, .nil, r, fun a z => (nomatch z), fun a z => (nomatch z), fun _ h => h⟩
  | p :: ps, _, _, _, _, ds, ρ, ρr, F, r, .nil, n, e => by
    unfold VS.fetchC at e; cases e
  | [], .b i :: ops, o :: ts, v :: vs, M, ds, ρ, ρr, F, r, .b hv ok, n, e => by
    unfold VS.fetchC at e; cases e
  | p :: ps, .b i :: ops, o :: ts, v :: vs, M, ds, ρ, ρr, F, r, .b hv ok, n, e => by
    unfold VS.fetchC at e
    cases hd : getS ρ i with
    | none => rw [hd] at e; cases e
    | some d =>
      rw [hd] at e
      obtain ⟨w, hw, hr⟩ := r.at_ i d hd
      rw [hv] at hw; cases hw
      have e1 : (if noOwn d = true then (VS.fetchC ps ops ts ρ).bind fun q => some (d :: q.1, q.2) else if p = true then (VS.fetchC ps ops ts (ρ.set i none)).bind fun q => some (d :: q.1, q.2) else none) = some (ds, ρr) := e
      by_cases hn : noOwn d = true
      · rw [if_pos hn] at e1
        cases he : VS.fetchC ps ops ts ρ with
        | none => rw [he] at e1; cases e1
        | some q =>
          rw [he] at e1; cases e1
          obtain ⟨L, Fr, h1, h2, h3, h4, h5⟩ := ok.fetchC r n he
          have h0 := hr.noL hn
          rw [h0] at hr
          exact ⟨L, Fr, Reps.cons hr h1 (fun a z => nomatch z), h2, h3, h4, h5⟩
      · rw [if_neg hn] at e1
        by_cases hp : p = true
        · rw [if_pos hp] at e1
          cases he : VS.fetchC ps ops ts (ρ.set i none) with
          | none => rw [he] at e1; cases e1
          | some q =>
            rw [he] at e1; cases e1
            have sub : ∀ a, own (fset F i []) a → own F a := fun a h => (own_set h).elim id fun z => nomatch z
            obtain ⟨L, Fr, h1, h2, h3, h4, h5⟩ := ok.fetchC (r.drop i) (fun a ha z => n a ha (sub a z)) he
            have nFi : ∀ a ∈ F i, ¬ own (fset F i []) a := fun a ha ⟨j, hj⟩ => by
              by_cases hji : j = i
              · subst hji; rw [fset_same] at hj; cases hj
              · rw [fset_ne hji] at hj; exact r.dis j i hji a hj ha
            refine ⟨F i ++ L, Fr, Reps.cons hr h1 (fun a ha hL => ?_), h2, fun a ha => ?_, fun a ha => ?_, fun a h => sub a (h5 a h)⟩
            · rcases h4 a hL with z | z
              · exact nFi a ha z
              · exact n a z ⟨i, ha⟩
            · rcases List.mem_append.mp ha with z | z
              · exact fun y => nFi a z (h5 a y)
              · exact h3 a z
            · rcases List.mem_append.mp ha with z | z
              · exact .inl ⟨i, z⟩
              · exact (h4 a z).imp (sub a) id
        · rw [if_neg hp] at e1; cases e1
  | [], .t f :: ops, some d :: ts, v :: vs, _, ds, ρ, ρr, F, r, .t hr hn ok, n, e => by
    unfold VS.fetchC at e; cases e
  | p :: ps, .t f :: ops, some d :: ts, v :: vs, _, ds, ρ, ρr, F, r, .t (L := L1) (M := M) hr hn ok, n, e => by
    unfold VS.fetchC at e
    cases he : VS.fetchC ps ops ts ρ with
    | none => rw [he] at e; cases e
    | some q =>
      rw [he] at e; cases e
      obtain ⟨L, Fr, h1, h2, h3, h4, h5⟩ := ok.fetchC r (fun a ha => n a (List.mem_append_right _ ha)) he
      refine ⟨L1 ++ L, Fr, Reps.cons hr h1 (fun a ha hL => ?_), h2, fun a ha => ?_, fun a ha => ?_, h5⟩
      · rcases h4 a hL with z | z
        · exact n a (List.mem_append_left _ ha) z
        · exact hn a ha z
      · rcases List.mem_append.mp ha with z | z
        · exact fun y => n a (List.mem_append_left _ z) (h5 a y)
        · exact h3 a z
      · rcases List.mem_append.mp ha with z | z
        · exact .inr (List.mem_append_left _ z)
        · exact (h4 a z).imp id (List.mem_append_right _)
/-- the places of the operands' slots -/
inductive OpsAt (σ : L2.St) : List Op → List V → Prop
  | nil : OpsAt σ [] []
  | b {i v ops vs} : σ[i]? = some (some v) → OpsAt σ ops vs → OpsAt σ (.b i :: ops) (v :: vs)
  | t {f v ops vs} : OpsAt σ ops vs → OpsAt σ (.t f :: ops) (v :: vs)
theorem OpsOk.at' {σ : L2.St} : ∀ {ops ts vs M}, OpsOk K G H σ ops ts vs M → OpsAt σ ops vs
  | _, _, _, _, .nil => .nil
  | _, _, _, _, .b h r => .b h r.at'
  | _, _, _, _, .t _ _ r => .t r.at'
theorem putB_ok {σ : L2.St} : ∀ {ops : List Op} {vs : List V} {ds : List D} {os : List (Option D)} {P : List Addr} {ρ : Env} {F : Nat → List Addr}, OpsAt σ ops vs → ROs K G H vs os P → REnv K G H σ ρ F → (∀ a ∈ P, ¬ own F a) →
    ∃ F', REnv K G H σ (putB ops ds os ρ) F' ∧ ∀ a, own F' a → own F a ∨ a ∈ P
  | [], _, ds, os, P, ρ, F, .nil, h, r, n => by
    have e : putB [] ds os ρ = ρ := by cases ds <;> rfl
    rw [e]
    exact ⟨F, r, fun a h => .inl h⟩
  | .b i :: ops, v :: vs, [], os, P, ρ, F, .b hv ha, h, r, n => ⟨F, r, fun a h => .inl h⟩
  | .t f :: ops, v :: vs, [], os, P, ρ, F, .t ha, h, r, n => ⟨F, r, fun a h => .inl h⟩
  | .t f :: ops, v :: vs, d :: ds, _, P, ρ, F, .t ha, .no h, r, n => by
    unfold putB; exact putB_ok ha h r n
  | .t f :: ops, v :: vs, d :: ds, _, _, ρ, F, .t ha, .yes hr h hn, r, n => by
    unfold putB
    obtain ⟨F', r', s⟩ := putB_ok (ds := ds) ha h r (fun a ha => n a (List.mem_append_right _ ha))
    exact ⟨F', r', fun a q => (s a q).imp id (List.mem_append_right _)⟩
  | .b i :: ops, v :: vs, d :: ds, _, P, ρ, F, .b hv ha, .no h, r, n => by
    unfold putB
    by_cases hd : noOwn d = true
    · rw [if_pos hd]; exact putB_ok ha h r n
    · rw [if_neg hd]
      have sub : ∀ a, own (fset F i []) a → own F a := fun a h => (own_set h).elim id fun z => nomatch z
      obtain ⟨F', r', s⟩ := putB_ok (ds := ds) ha h (r.drop i) (fun a ha z => n a ha (sub a z))
      exact ⟨F', r', fun a q => (s a q).imp (sub a) id⟩
  | .b i :: ops, v :: vs, d :: ds, _, _, ρ, F, .b hv ha, .yes (d := d') (L1 := L1) (L := L) hr h hn, r, n => by
    unfold putB
    by_cases hd : noOwn d = true
    · rw [if_pos hd]
      obtain ⟨F', r', s⟩ := putB_ok (ds := ds) ha h r (fun a ha => n a (List.mem_append_right _ ha))
      exact ⟨F', r', fun a q => (s a q).imp id (List.mem_append_right _)⟩
    · rw [if_neg hd]
      have hi : i < ρ.length := by rw [← r.len]; exact (List.getElem?_eq_some_iff.mp hv).1
      have r1 := r.re hi hv hr (fun a ha j _ z => n a (List.mem_append_left _ ha) ⟨j, z⟩)
      have sub : ∀ a, own (fset F i L1) a → own F a ∨ a ∈ L1 := fun a h => own_set h
      obtain ⟨F', r', s⟩ := putB_ok (ds := ds) ha h r1 (fun a ha z => (sub a z).elim (n a (List.mem_append_right _ ha)) fun y => hn a y ha)
      refine ⟨F', r', fun a q => ?_⟩
      rcases s a q with z | z
      · exact (sub a z).imp id (List.mem_append_left _)
      · exact .inr (List.mem_append_right _ z)
theorem ROs.owned : ∀ {vs : List V} {os : List (Option D)} {P : List Addr}, ROs K G H vs os P → ∀ a ∈ P, G a = none ∧ ∃ o, H a = some o ∧ LD o
  | _, _, _, .nil, a, h => nomatch h
  | _, _, _, .no r, a, h => r.owned a h
  | _, _, _, .yes hr r _, a, h => by
    rcases List.mem_append.mp h with z | z
    · exact hr.owned a z
    · exact r.owned a z
/-- the operands' values, then the def -/
theorem simE_call {ta : TA} {ops : List Op} {fn : Fn} {dv : List V} {E : XK} (h : SimA K ta ops) (hd : dv = []) : SimE K (tCall (spOf K fn) dv E ta) (callF fn ops) := by
  subst hd
  intro ρ d ρ' e σ G H F r Q q
  unfold callF at e
  cases he : evOps ops ρ with
  | none => rw [he] at e; cases e
  | some p =>
    obtain ⟨ts, ρ1⟩ := p
    rw [he] at e
    have e1 : ((VS.fetchC fn.pins ops ts ρ1).bind fun c => (fn.sem c.1).bind fun q => some (q.1, putB ops c.1 q.2 c.2)) = some (d, ρ') := e
    cases hf : VS.fetchC fn.pins ops ts ρ1 with
    | none => rw [hf] at e1; cases e1
    | some c =>
      obtain ⟨ds, ρr⟩ := c
      rw [hf] at e1
      have e2 : ((fn.sem ds).bind fun q => some (q.1, putB ops ds q.2 ρr)) = some (d, ρ') := e1
      cases hs : fn.sem ds with
      | none => rw [hs] at e2; cases e2
      | some pq =>
        obtain ⟨d1, os⟩ := pq
        rw [hs] at e2; cases e2
        refine h ρ ts ρ1 he σ G H F r _ fun vs G1 H1 F1 M t1 r1 ok n1 => ?_
        obtain ⟨L, Fr, hR, rr, nL, sL, sF⟩ := ok.fetchC r1 n1 hf
        have ap := ok.at'
        show spOf K fn (vs ++ []) H1 Q E
        rw [List.append_nil]
        have hnp : vs.length = fn.np := hR.length.trans (fn.len ds _ hs)
        · refine ⟨G1, ds, L, _, os, r1.sub, hR, hnp, hs, fun v G2 H2 P N t2 ro rv nN => ?_⟩
          have rr2 := rr.tr t2 (fun a ho hl => nL a hl ho)
          have apF : ∀ a, own Fr a → ¬ (a ∈ P ∨ a ∈ N) := fun a ho => by
            obtain ⟨j, hj⟩ := id ho
            exact t2.apart (L := Fr j) (rr.owned j) (fun b hb hl => nL b hl ⟨j, hb⟩) a hj
          obtain ⟨F', r', s⟩ := putB_ok (ds := ds) ap ro rr2 (fun a ha ho => apF a ho (.inl ha))
          refine q v G2 H2 F' N (t1.trans (t2.wk (fun a ha => ?_) fun a ha => ?_)) r' rv fun a ha ho => ?_
          · exact (sL a ha).imp id id
          · rcases ha with z | z
            · rcases s a z with y | y
              · exact .inr (.inl (.inl (sF a y)))
              · exact .inl (.inl y)
            · exact .inl (.inr z)
          · rcases s a ho with y | y
            · exact apF a y (.inr ha)
            · exact nN a ha y
end
end VS
set_option Elab.async false
set_option linter.all false
set_option maxRecDepth 100000
namespace VS
open PySem PySem.Spec PyProof.Rows L2
/-- nothing is let out -/
def noW : WX := fun _ _ _ _ => False
def pnOf (pins : List Bool) : Nat → Bool := fun j => pins.getD j false
def bodyFn (nN np : Nat) (pins : List Bool) (f : FS) : Fn := ⟨np, pins, bodySem nN np pins f, fun ds r h => by
  unfold bodySem at h
  by_cases e : ds.length = np
  · exact e
  · rw [if_neg e] at h; cases h⟩
def stuckFn (np : Nat) (pins : List Bool) : Fn := ⟨np, pins, fun _ => none, fun _ _ h => by cases h⟩
theorem bodySem_cases {nN np : Nat} {pins : List Bool} {f : FS} {ds : List D} {d : D} {os : List (Option D)} (h : bodySem nN np pins f ds = some (d, os)) :
    ds.length = np ∧ ∃ ρ, os = finP pins ρ ∧ (f (ds.map some ++ List.replicate (nN - np) none) = some (.rt d ρ) ∨ (d = .non ∧ f (ds.map some ++ List.replicate (nN - np) none) = some (.nx ρ))) := by
  unfold bodySem at h
  by_cases hn : ds.length = np
  · rw [if_pos hn] at h
    cases hf : f (ds.map some ++ List.replicate (nN - np) none) with
    | none => rw [hf] at h; cases h
    | some o =>
      rw [hf] at h
      cases o with
      | rt d' ρ => cases h; exact ⟨hn, ρ, rfl, .inl rfl⟩
      | nx ρ => cases h; exact ⟨hn, ρ, rfl, .inr ⟨rfl, rfl⟩⟩
      | bk ρ => cases h
      | ct ρ => cases h
      | rz _ _ ρ => cases h
  · rw [if_neg hn] at h; cases h
theorem body_sim {K : PySem.W.Frag} {W : WX} {N : List Str} {np : Nat} {pins : List Bool} {f : FS} (hpl : pins.length = np) (hN : np ≤ N.length) {vs : List V} {H : Hp} {Q : VK} {E : XK} (h : spOf K (bodyFn N.length np pins f) vs H Q E) :
    tsOf K (pnOf pins) W f { nx := fun _ H' => Q .non H', rt := Q } (L2.start N vs) H := by
  obtain ⟨G, ds, L, d, os, s, hR, hl, hs, q⟩ := h
  have hl' : vs.length = np := hl
  obtain ⟨hn, ρ, rfl, hb⟩ := bodySem_cases hs
  obtain ⟨F, r, sF⟩ := REnv.start s (N.length - np) hR
  have es : L2.start N vs = vs.map some ++ List.replicate (N.length - np) none := by unfold L2.start; rw [hl']
  rw [← es] at r
  have post : ∀ (v : V) (σ' : L2.St) (G' H' : Hp) (F' : Nat → List Addr) (M : List Addr), Tr G H (own F) G' H' (fun a => own F' a ∨ a ∈ M) → REnv K G' H' σ' ρ F' → Pin (pnOf pins) (L2.start N vs) σ' → Rep K G' H' v d M → (∀ a ∈ M, ¬ own F' a) → Q v H' := fun v σ' G' H' F' M t r' p rv n => by
    have lσ : pins.length ≤ σ'.length := by
      rw [p.1, es, List.length_append, List.length_map, List.length_replicate, hpl]; omega
    obtain ⟨P, ro, sP⟩ := REnv.fin (pins := pins) (vs := vs) r' (by rw [hl', hpl]) lσ (fun j hj => by
      have hjp : pnOf pins j = true := by unfold pnOf; rw [List.getD_eq_getElem?_getD, hj]; rfl
      rw [p.2 j hjp, es]
      have hjl : j < vs.length := by rw [hl', ← hpl]; exact (List.getElem?_eq_some_iff.mp hj).1
      rw [List.getElem?_append_left (by simpa using hjl), List.getElem?_map])
    refine q v G' H' P M (t.wk (fun a h => sF a h) fun a h => ?_) ro rv fun a ha hP => n a ha (sP a hP)
    rcases h with h | h
    · exact .inl (.inl (sP a h))
    · exact .inl (.inr h)
  rcases hb with hb | ⟨rfl, hb⟩
  · exact ⟨_, _, G, F, hb, r, fun v σ' G' H' F' M t r' p rv n => post v σ' G' H' F' M t r' p rv n⟩
  · exact ⟨_, _, G, F, hb, r, fun σ' G' H' F' t r' p => post .non σ' G' H' F' [] (t.post fun a h => h.elim id fun z => nomatch z) r' p .non (fun a z => nomatch z)⟩
end VS
set_option Elab.async false
set_option linter.all false
set_option maxRecDepth 100000
namespace VS
open PySem PySem.Spec PyProof.Rows L2
section
variable {P : Program} {w : World} {K : PySem.W.Frag} {mg : Str → Option Value} {base : Heap}
theorem fn_ok {x qual : Str} {st : Stmt} {f : Addr} {fd : FuncData} {N ps : List Str} {k : Nat} {pins : List Bool} {fb : FS} (F : Fun K x qual st f fd) (S : FnScope N ps (defScope st)) (hpl : pins.length = ps.length) (hN : ps.length ≤ N.length)
    (hbody : ∀ (cdv : Value) (A : Around) (outer : List PySem.Env) (s : Shared) (H : Hp) (E : XK), Room k (A.deeper (envOfC qual (defScope st) s.heap.objs.size f cdv)) →
      PSsf (cxOf CX0 P w K mg base N qual (defScope st) f cdv A outer s H E).nox (pnOf pins) noW (defBody st) fb) : FnOk P w K mg base CX0 (k + 1) f fd ps (spOf K (bodyFn N.length ps.length pins fb)) :=
  F.ok S (fun vs H Q E ⟨_, _, _, _, _, _, _, h, _⟩ => h) fun cdv A outer s H vs Q E hr h => ⟨_, hbody cdv A outer s H E hr, body_sim hpl hN h⟩
theorem stuck_ok {x qual : Str} {st : Stmt} {f : Addr} {fd : FuncData} {N ps : List Str} {k : Nat} {pins : List Bool} (F : Fun K x qual st f fd) (S : FnScope N ps (defScope st)) : FnOk P w K mg base CX0 (k + 1) f fd ps (spOf K (stuckFn ps.length pins)) :=
  F.ok S (fun vs H Q E ⟨_, _, _, _, _, _, _, h, _⟩ => h) fun cdv A outer s H vs Q E hr ⟨_, _, _, _, _, _, _, _, h, _⟩ => by cases h
end
section
variable {X : Cx} {pn : Nat → Bool} {W : WX} {k : Nat} {f : Addr} {fd : FuncData} {ps : List Str} {fn : Fn} {x : Str} {p pos : Pos} {e : Expr} {es : List Expr} {o : Op} {ops : List Op}
theorem pf_call (F : FnOk X.prog X.w X.K X.mg X.base CX0 k f fd ps (spOf X.K fn)) (hr : Room k X.A) (hg : Gl X x) (hm : X.mg x = some (.ref f)) (hk : PySem.W.keepIn X.K (.ref f) = true) (hb : Binds X.K fd ps [])
    (ha : PAf X (e :: es) ops) (hdb : (x == ("__debug__" : Str)) = false := by decide) (he : starEach (e :: es) X.env = (false, eval e X.env) :: starEach es X.env := by rfl) (hpl : (backTo pos (starEach es X.env)).any (·.1) = false := by rfl) :
    PEf X (.Call (.Name x p) (e :: es) [] pos) (callF fn ops) := .mk (pe_call F hr hg hm hk hb .nil pass0 ha hdb he hpl) (simE_call (simA_of _) rfl)
theorem pf_call0 (F : FnOk X.prog X.w X.K X.mg X.base CX0 k f fd ps (spOf X.K fn)) (hr : Room k X.A) (hg : Gl X x) (hm : X.mg x = some (.ref f)) (hk : PySem.W.keepIn X.K (.ref f) = true) (hb : Binds X.K fd ps [])
    (hdb : (x == ("__debug__" : Str)) = false := by decide) : PEf X (.Call (.Name x p) [] [] pos) (callF fn []) := .mk (pe_call0 F hr hg hm hk hb .nil pass0 hdb) (simE_call simA_nil rfl)
end
/-! ### keywords: the operands put in the parameters' order -/
def permL {α : Type} (is : List Nat) (xs : List α) : List α := is.filterMap fun i => xs[i]?
def callKF (fn : Fn) (is : List Nat) (ops : List Op) : FE := fun ρ => (evOps ops ρ).bind fun p => (fetchC fn.pins (permL is ops) (permL is p.1) p.2).bind fun c => (fn.sem c.1).bind fun q => some (q.1, putB (permL is ops) c.1 q.2 c.2)
section
variable {K : PySem.W.Frag} {G H : Hp}
structure Q4 where
  o : Op
  t : Option D
  v : V
  L : List Addr
def Q4.ok (K : PySem.W.Frag) (G H : Hp) (σ : L2.St) (q : Q4) : Prop := match q.o with
  | .b i => σ[i]? = some (some q.v) ∧ q.L = []
  | .t _ => ∃ d, q.t = some d ∧ Rep K G H q.v d q.L
def Q4.apart (a b : Q4) : Prop := ∀ x, x ∈ a.L → x ∉ b.L
theorem Q4.apart_symm {a b : Q4} (h : a.apart b) : b.apart a := fun x hx hy => h x hy hx
theorem OpsOk.to4 {σ : L2.St} : ∀ {ops ts vs M}, OpsOk K G H σ ops ts vs M → ∃ qs : List Q4, qs.map (·.o) = ops ∧ qs.map (·.t) = ts ∧ qs.map (·.v) = vs ∧ (∀ q ∈ qs, q.ok K G H σ) ∧ qs.Pairwise Q4.apart ∧ (qs.map (·.L)).flatten = M
  | _, _, _, _, .nil => ⟨[], rfl, rfl, rfl, fun q z => (nomatch z), .nil, rfl⟩
  | _, _, _, _, .b (i := i) (v := v) (o := o) h r => by
    obtain ⟨qs, e1, e2, e3, h1, h2, e4⟩ := r.to4
    refine ⟨⟨.b i, o, v, []⟩ :: qs, by simp [e1], by simp [e2], by simp [e3], fun q hq => ?_, .cons (fun q _ x hx => nomatch hx) h2, by simp [e4]⟩
    rcases List.mem_cons.mp hq with z | z
    · subst z; exact ⟨h, rfl⟩
    · exact h1 q z
  | _, _, _, _, .t (f := f) (v := v) (d := d) (L := L) hr hn r => by
    obtain ⟨qs, e1, e2, e3, h1, h2, e4⟩ := r.to4
    refine ⟨⟨.t f, some d, v, L⟩ :: qs, by simp [e1], by simp [e2], by simp [e3], fun q hq => ?_, .cons (fun q hq x hx hy => ?_) h2, by simp [e4]⟩
    · rcases List.mem_cons.mp hq with z | z
      · subst z; exact ⟨d, rfl, hr⟩
      · exact h1 q z
    · refine hn x hx ?_
      rw [← e4]
      exact List.mem_flatten.mpr ⟨q.L, List.mem_map.mpr ⟨q, hq, rfl⟩, hy⟩
theorem OpsOk.of4 {σ : L2.St} : ∀ {qs : List Q4}, (∀ q ∈ qs, q.ok K G H σ) → qs.Pairwise Q4.apart → OpsOk K G H σ (qs.map (·.o)) (qs.map (·.t)) (qs.map (·.v)) (qs.map (·.L)).flatten
  | [], _, _ => .nil
  | ⟨.b i, t', v, L⟩ :: qs, h, hp => by
    obtain ⟨h1, h2⟩ : _ ∧ L = [] := h _ List.mem_cons_self
    subst h2
    exact .b h1 (OpsOk.of4 (fun q hq => h q (List.mem_cons_of_mem _ hq)) (List.pairwise_cons.mp hp).2)
  | ⟨.t f, t', v, L⟩ :: qs, h, hp => by
    obtain ⟨d, h1, h2⟩ : ∃ d, t' = some d ∧ Rep K G H v d L := h _ List.mem_cons_self
    subst h1
    obtain ⟨p1, p2⟩ := List.pairwise_cons.mp hp
    refine .t h2 (fun a ha hm => ?_) (OpsOk.of4 (fun q hq => h q (List.mem_cons_of_mem _ hq)) p2)
    obtain ⟨l, hl, ha2⟩ := List.mem_flatten.mp hm
    obtain ⟨q, hq, rfl⟩ := List.mem_map.mp hl
    exact p1 q hq a ha ha2
theorem permL_map {α β : Type} (is : List Nat) (xs : List α) (f : α → β) : permL is (xs.map f) = (permL is xs).map f := by
  unfold permL
  rw [List.map_filterMap]
  congr 1
  funext i
  rw [List.getElem?_map]
theorem range_self {α : Type} : ∀ xs : List α, (List.range xs.length).filterMap (fun i => xs[i]?) = xs
  | [] => rfl
  | x :: xs => by
    rw [List.length_cons, List.range_succ_eq_map, List.filterMap_cons]
    show x :: _ = x :: xs
    rw [List.filterMap_map]
    congr 1
    exact range_self xs
theorem permL_perm {α : Type} {is : List Nat} {xs : List α} (h : is.Perm (List.range xs.length)) : (permL is xs).Perm xs := by
  have := h.filterMap fun i => xs[i]?
  rw [range_self] at this
  exact this
theorem OpsOk.perm {σ : L2.St} {is : List Nat} {ops ts vs M} (h : OpsOk K G H σ ops ts vs M) (hp : is.Perm (List.range ops.length)) : ∃ M', OpsOk K G H σ (permL is ops) (permL is ts) (permL is vs) M' ∧ ∀ a, a ∈ M' → a ∈ M := by
  obtain ⟨qs, e1, e2, e3, h1, h2, e4⟩ := h.to4
  have hl : is.Perm (List.range qs.length) := by rw [← e1, List.length_map] at hp; exact hp
  have pp := permL_perm (xs := qs) hl
  subst e1; subst e2; subst e3; subst e4
  rw [permL_map, permL_map, permL_map]
  refine ⟨_, OpsOk.of4 (fun q hq => h1 q (pp.subset hq)) ((pp.pairwise_iff fun {a b} h => Q4.apart_symm h).mpr h2), fun a ha => ?_⟩
  obtain ⟨l, hl, ha2⟩ := List.mem_flatten.mp ha
  obtain ⟨q, hq, rfl⟩ := List.mem_map.mp hl
  exact List.mem_flatten.mpr ⟨q.L, List.mem_map.mpr ⟨q, pp.subset hq, rfl⟩, ha2⟩
theorem simE_callK {ta : TA} {ops : List Op} {fn : Fn} {is : List Nat} {E : XK} (h : SimA K ta ops) (hp : is.Perm (List.range ops.length)) : SimE K (fun σ H Q => ta σ H fun vs H1 => spOf K fn (permL is vs) H1 Q E) (callKF fn is ops) := by
  intro ρ d ρ' e σ G H F r Q q
  unfold callKF at e
  cases he : evOps ops ρ with
  | none => rw [he] at e; cases e
  | some p =>
    obtain ⟨ts, ρ1⟩ := p
    rw [he] at e
    have e1 : ((VS.fetchC fn.pins (permL is ops) (permL is ts) ρ1).bind fun c => (fn.sem c.1).bind fun q => some (q.1, putB (permL is ops) c.1 q.2 c.2)) = some (d, ρ') := e
    cases hf : VS.fetchC fn.pins (permL is ops) (permL is ts) ρ1 with
    | none => rw [hf] at e1; cases e1
    | some c =>
      obtain ⟨ds, ρr⟩ := c
      rw [hf] at e1
      have e2 : ((fn.sem ds).bind fun q => some (q.1, putB (permL is ops) ds q.2 ρr)) = some (d, ρ') := e1
      cases hs : fn.sem ds with
      | none => rw [hs] at e2; cases e2
      | some pq =>
        obtain ⟨d1, os⟩ := pq
        rw [hs] at e2; cases e2
        refine h ρ ts ρ1 he σ G H F r _ fun vs0 G1 H1 F1 M0 t1 r1 ok0 n0 => ?_
        obtain ⟨M, ok, sM⟩ := ok0.perm hp
        generalize permL is vs0 = vs at ok
        have n1 : ∀ a ∈ M, ¬ own F1 a := fun a ha => n0 a (sM a ha)
        obtain ⟨L, Fr, hR, rr, nL, sL, sF⟩ := ok.fetchC r1 n1 hf
        have ap := ok.at'
        have hnp : vs.length = fn.np := hR.length.trans (fn.len ds _ hs)
        refine ⟨G1, ds, L, _, os, r1.sub, hR, hnp, hs, fun v G2 H2 P N t2 ro rv nN => ?_⟩
        have rr2 := rr.tr t2 (fun a ho hl => nL a hl ho)
        have apF : ∀ a, own Fr a → ¬ (a ∈ P ∨ a ∈ N) := fun a ho => by
          obtain ⟨j, hj⟩ := id ho
          exact t2.apart (L := Fr j) (rr.owned j) (fun b hb hl => nL b hl ⟨j, hb⟩) a hj
        obtain ⟨F', r', s⟩ := putB_ok (ds := ds) ap ro rr2 (fun a ha ho => apF a ho (.inl ha))
        refine q v G2 H2 F' N (t1.trans (t2.wk (fun a ha => ?_) fun a ha => ?_)) r' rv fun a ha ho => ?_
        · exact (sL a ha).imp id (sM a)
        · rcases ha with z | z
          · rcases s a z with y | y
            · exact .inr (.inl (.inl (sF a y)))
            · exact .inl (.inl y)
          · exact .inl (.inr z)
        · rcases s a ho with y | y
          · exact apF a y (.inr ha)
          · exact nN a ha y
/-- values behind values -/
theorem simA_app {t u : TA} {ops opsu : List Op} (h1 : SimA K t ops) (h2 : SimA K u opsu) : SimA K (fun σ H Q => t σ H fun vs H1 => u σ H1 fun zs H2 => Q (vs ++ zs) H2) (ops ++ opsu) := by
  have ev : ∀ (ops opsu : List Op) ρ ts ρ', evOps (ops ++ opsu) ρ = some (ts, ρ') → ∃ t1 t2 ρ1, evOps ops ρ = some (t1, ρ1) ∧ evOps opsu ρ1 = some (t2, ρ') ∧ ts = t1 ++ t2 := by
    intro ops opsu
    induction ops with
    | nil => intro ρ ts ρ' e; exact ⟨[], ts, ρ, rfl, e, rfl⟩
    | cons o ops ih =>
      intro ρ ts ρ' e
      cases o with
      | b i =>
        have e1 : (getS ρ i).bind (fun _ => (evOps (ops ++ opsu) ρ).bind fun p => some (none :: p.1, p.2)) = some (ts, ρ') := e
        cases hd : getS ρ i with
        | none => rw [hd] at e1; cases e1
        | some d =>
          rw [hd] at e1
          cases he : evOps (ops ++ opsu) ρ with
          | none => rw [he] at e1; cases e1
          | some p =>
            rw [he] at e1; cases e1
            obtain ⟨t1, t2, ρ1, a, b, c⟩ := ih ρ p.1 p.2 he
            refine ⟨none :: t1, t2, ρ1, ?_, b, by rw [c]; rfl⟩
            show (getS ρ i).bind (fun _ => (evOps ops ρ).bind fun p => some (none :: p.1, p.2)) = _
            rw [hd, a]; rfl
      | t f =>
        have e1 : (f ρ).bind (fun q => (evOps (ops ++ opsu) q.2).bind fun p => some (some q.1 :: p.1, p.2)) = some (ts, ρ') := e
        cases hd : f ρ with
        | none => rw [hd] at e1; cases e1
        | some q0 =>
          rw [hd] at e1
          have e2 : (evOps (ops ++ opsu) q0.2).bind (fun p => some (some q0.1 :: p.1, p.2)) = some (ts, ρ') := e1
          cases he : evOps (ops ++ opsu) q0.2 with
          | none => rw [he] at e2; cases e2
          | some p =>
            rw [he] at e2; cases e2
            obtain ⟨t1, t2, ρ1, a, b, c⟩ := ih q0.2 p.1 p.2 he
            refine ⟨some q0.1 :: t1, t2, ρ1, ?_, b, by rw [c]; rfl⟩
            show (f ρ).bind (fun q => (evOps ops q.2).bind fun p => some (some q.1 :: p.1, p.2)) = _
            rw [hd]
            show (evOps ops q0.2).bind (fun p => some (some q0.1 :: p.1, p.2)) = _
            rw [a]; rfl
  intro ρ ts ρ' e σ G H F r Q q
  obtain ⟨t1, t2, ρ1, e1, e2, rfl⟩ := ev ops opsu ρ ts ρ' e
  refine h1 ρ t1 ρ1 e1 σ G H F r _ fun vs G1 H1 F1 M1 tr1 r1 ok1 n1 => ?_
  refine h2 ρ1 t2 ρ' e2 σ G1 H1 F1 r1 _ fun zs G2 H2 F2 M2 tr2 r2 ok2 n2 => ?_
  obtain ⟨qs1, a1, a2, a3, a4, a5, a6⟩ := ok1.to4
  obtain ⟨qs2, b1, b2, b3, b4, b5, b6⟩ := ok2.to4
  have own1 : ∀ x ∈ qs1, ∀ a ∈ x.L, G1 a = none ∧ ∃ o, H1 a = some o ∧ LD o := fun x hx a ha => by
    have hk := a4 x hx
    obtain ⟨o, t, v, L⟩ := x
    cases o with
    | b i => obtain ⟨_, hL⟩ : _ ∧ L = [] := hk; subst hL; cases ha
    | t f => obtain ⟨d, _, hr⟩ : ∃ d, t = some d ∧ Rep K G1 H1 v d L := hk; exact hr.owned a ha
  have inM1 : ∀ x ∈ qs1, ∀ a ∈ x.L, a ∈ M1 := fun x hx a ha => by rw [← a6]; exact List.mem_flatten.mpr ⟨x.L, List.mem_map.mpr ⟨x, hx, rfl⟩, ha⟩
  have inM2 : ∀ x ∈ qs2, ∀ a ∈ x.L, a ∈ M2 := fun x hx a ha => by rw [← b6]; exact List.mem_flatten.mpr ⟨x.L, List.mem_map.mpr ⟨x, hx, rfl⟩, ha⟩
  have apart1 : ∀ x ∈ qs1, ∀ a ∈ x.L, ¬ (own F2 a ∨ a ∈ M2) := fun x hx => tr2.apart (own1 x hx) fun a ha => n1 a (inM1 x hx a ha)
  have ok : OpsOk K G2 H2 σ (ops ++ opsu) (t1 ++ t2) (vs ++ zs) (M1 ++ M2) := by
    have := OpsOk.of4 (K := K) (G := G2) (H := H2) (σ := σ) (qs := qs1 ++ qs2) (fun x hx => ?_) (List.pairwise_append.mpr ⟨a5, b5, fun x hx y hy a ha hb => apart1 x hx a ha (.inr (inM2 y hy a hb))⟩)
    · rw [List.map_append, List.map_append, List.map_append, List.map_append, List.flatten_append, a1, a2, a3, a6, b1, b2, b3, b6] at this
      exact this
    · rcases List.mem_append.mp hx with z | z
      · have hk := a4 x z
        have ho := own1 x z
        have hn := inM1 x z
        obtain ⟨o, t, v, L⟩ := x
        cases o with
        | b i => exact hk
        | t f =>
          obtain ⟨d, hd, hr⟩ : ∃ d, t = some d ∧ Rep K G1 H1 v d L := hk
          exact ⟨d, hd, hr.tr tr2 fun a ha => n1 a (hn a ha)⟩
      · exact b4 x z
  refine q (vs ++ zs) G2 H2 F2 (M1 ++ M2) ?_ r2 ok fun a ha => ?_
  · refine (Tr.trans (tr1.post fun a h => .inl h) tr2).wk (fun _ h => h) fun a h => ?_
    rcases h with h | h
    · exact .inl (.inl h)
    · rcases List.mem_append.mp h with h | h
      · rcases tr1.new a (.inr h) with z | z
        · exact .inr (.inl z)
        · exact .inr (.inr z)
      · exact .inl (.inr h)
  · rcases List.mem_append.mp ha with z | z
    · rw [← a6] at z
      obtain ⟨l, hl, hal⟩ := List.mem_flatten.mp z
      obtain ⟨x, hx, rfl⟩ := List.mem_map.mp hl
      exact fun y => apart1 x hx a hal (.inl y)
    · exact n2 a z
end
section
variable {X : Cx} {k : Nat} {f : Addr} {fd : FuncData} {ps ks : List Str} {fn : Fn} {x : Str} {p pos kpos : Pos} {e : Expr} {es : List Expr} {kws : List Keyword} {ops kops : List Op} {nm : Option Str}
abbrev PKf (X : Cx) (kws : List Keyword) (ops : List Op) : Prop := PK X kws (taOf X.K ops)
theorem PKf.mk {ta : TA} (h : PK X kws ta) (s : SimA X.K ta ops) : PKf X kws ops := ⟨fun p pins sh σ H Q I ⟨ρ, d, ρ', G, F, ee, r, q⟩ => h.run p pins sh σ H Q I (s ρ d ρ' ee σ G H F r Q q)⟩
theorem pkf_nil : PKf X [] [] := .mk pk_nil simA_nil
theorem pkf_cons {o : Op} (h1 : POf X e o) (h2 : PKf X kws ops) : PKf X (⟨nm, e, kpos⟩ :: kws) (o :: ops) := by
  obtain ⟨te, p1, s1⟩ := h1.ex
  exact .mk (pk_cons p1 h2) (simA_cons s1 (simA_of _))
/-- how n positional values and the keywords ks are bound: the parameters' order is told by places -/
def KB (K : PySem.W.Frag) (fd : FuncData) (ps : List Str) (n : Nat) (ks : List Str) (is : List Nat) : Prop :=
  ∀ (s : Shared) (us ws : List Value), K.In s.heap → us.length = n → ws.length = ks.length → BindsTo s fd ⟨us, ks.zip ws⟩ (ps.zip (permL is (us ++ ws)))
theorem permL_vals {vs : List V} {us : List Value} (h : Vals vs us) : ∀ is : List Nat, Vals (permL is vs) (permL is us)
  | [] => .nil
  | i :: is => by
    unfold permL
    rw [List.filterMap_cons, List.filterMap_cons]
    cases hv : vs[i]? with
    | none =>
      rw [h.none_of hv]
      exact permL_vals h is
    | some v =>
      obtain ⟨u, hu, r⟩ := h.get hv
      rw [hu]
      exact .cons r (permL_vals h is)
theorem run_fnP {n : Nat} {is : List Nat} {pins : List (Addr × Obj)} {σ : L2.St} {H : Hp} {s : Shared} {Q : VK} {us ws : List Value} {vs zs : List V} (F : FnOk X.prog X.w X.K X.mg X.base CX0 k f fd ps (spOf X.K fn)) (hr : Room k X.A) (hb : KB X.K fd ps n ks is)
    (I : Inv X pins σ H s) (r : Vals vs us) (rz : Vals zs ws) (l1 : vs.length = n) (l2 : zs.length = ks.length) (h : spOf X.K fn (permL is (vs ++ zs)) H Q E0) : wpAny (model X.prog X.w) X.A (call (.ref f) us (ks.zip ws)) (EP X pins σ Q) X.xe s := by
  have r2 := permL_vals (r.append rz) is
  refine wpAny_call (codeAny_mono (F.run X.A X.stack s H ⟨us, ks.zip ws⟩ (permL is (us ++ ws)) (permL is (vs ++ zs)) Q E0 hr I.env0 (hb s us ws I.kIn (r.length.symm.trans l1) (rz.length.symm.trans l2)) r2 h) fun r s' hq => ?_)
  cases r with
  | error e => exact hq.elim
  | ok fl =>
    cases fl with
    | ret u => exact I.after hq
    | next => exact False.elim hq
    | brk => exact False.elim hq
    | cont => exact False.elim hq
theorem OpsOk.len {K : PySem.W.Frag} {G H : Hp} {σ : L2.St} : ∀ {ops ts vs M}, OpsOk K G H σ ops ts vs M → vs.length = ops.length
  | _, _, _, _, .nil => rfl
  | _, _, _, _, .b _ r => by simp [r.len]
  | _, _, _, _, .t _ _ r => by simp [r.len]
/-- a reading whose values are so many -/
def taN (n : Nat) (ta : TA) : TA := fun σ H Q => ta σ H fun vs H1 => vs.length = n ∧ Q vs H1
theorem simA_N {K : PySem.W.Frag} {ta : TA} (h : SimA K ta ops) : SimA K (taN ops.length ta) ops := fun ρ ts ρ' e σ G H F r Q q =>
  h ρ ts ρ' e σ G H F r _ fun vs G' H' F' M t r' ok n => ⟨ok.len, q vs G' H' F' M t r' ok n⟩
theorem pf_callK {is : List Nat} (F : FnOk X.prog X.w X.K X.mg X.base CX0 k f fd ps (spOf X.K fn)) (hr : Room k X.A) (hg : Gl X x) (hm : X.mg x = some (.ref f)) (hk : PySem.W.keepIn X.K (.ref f) = true) (hb : KB X.K fd ps ops.length ks is) (hp : is.Perm (List.range (ops ++ kops).length)) (hkl : kops.length = ks.length)
    (ha : PAf X (e :: es) ops) (hkw : PKf X kws kops) (hall : (backToKw pos (keywordEach kws X.env)).all (·.1.isSome) = true := by rfl) (hks : (backToKw pos (keywordEach kws X.env)).filterMap (·.1) = ks := by rfl)
    (hdb : (x == ("__debug__" : Str)) = false := by decide) (he : starEach (e :: es) X.env = (false, eval e X.env) :: starEach es X.env := by rfl)
    (hpl : ((backTo pos (starEach (e :: es) X.env)).any (·.1) || (backToKw pos (keywordEach kws X.env)).any (·.1.isNone)) = false := by rfl) : PEf X (.Call (.Name x p) (e :: es) kws pos) (callKF fn is (ops ++ kops)) := by
  refine .mk (te := fun σ H Q => taN ops.length (taOf X.K ops) σ H fun vs H1 => taN kops.length (taOf X.K kops) σ H1 fun zs H2 => spOf X.K fn (permL is (vs ++ zs)) H2 Q E0) ⟨fun pins s σ H Q I h => ?_⟩ (simE_callK (simA_app (simA_N (simA_of ops)) (simA_N (simA_of kops))) hp)
  refine wpAny_Call_Name_kw (ld_glob I hg hm ?_ hdb)
  refine PySem.W.callWith_KW (h₀ := X.base) I.ok.mod.kin hk hall (thn (ha.run pos pins s σ H _ I h) fun us s1 ⟨vs, H1, I1, r, q⟩ => ?_) hpl he
  refine thn (hkw.run pos pins s1 σ H1 _ I1 q.2) fun ws s2 ⟨zs, H2, I2, rz, q2⟩ => ⟨I2.kIn, ?_⟩
  rw [hks]
  exact run_fnP F hr hb I2 r rz q.1 (q2.1.trans hkl) q2.2
theorem pf_callK0 {is : List Nat} (F : FnOk X.prog X.w X.K X.mg X.base CX0 k f fd ps (spOf X.K fn)) (hr : Room k X.A) (hg : Gl X x) (hm : X.mg x = some (.ref f)) (hk : PySem.W.keepIn X.K (.ref f) = true) (hb : KB X.K fd ps 0 ks is) (hp : is.Perm (List.range kops.length)) (hkl : kops.length = ks.length)
    (hkw : PKf X kws kops) (hall : (backToKw pos (keywordEach kws X.env)).all (·.1.isSome) = true := by rfl) (hks : (backToKw pos (keywordEach kws X.env)).filterMap (·.1) = ks := by rfl)
    (hdb : (x == ("__debug__" : Str)) = false := by decide)
    (hpl : ((backTo pos (starEach [] X.env)).any (·.1) || (backToKw pos (keywordEach kws X.env)).any (·.1.isNone)) = false := by rfl) : PEf X (.Call (.Name x p) [] kws pos) (callKF fn is kops) := by
  refine .mk (te := fun σ H Q => taN kops.length (taOf X.K kops) σ H fun zs H2 => spOf X.K fn (permL is zs) H2 Q E0) ⟨fun pins s σ H Q I h => ?_⟩ (simE_callK (simA_N (simA_of kops)) hp)
  refine wpAny_Call_Name_kw (ld_glob I hg hm ?_ hdb)
  refine PySem.W.callWith_KW0 (h₀ := X.base) I.ok.mod.kin hk hall ?_ hpl
  refine thn (hkw.run pos pins s σ H _ I h) fun ws s2 ⟨zs, H2, I2, rz, q2⟩ => ⟨I2.kIn, ?_⟩
  rw [hks]
  have := run_fnP (us := []) (vs := []) F hr hb I2 .nil rz rfl (q2.1.trans hkl) (by rw [List.nil_append]; exact q2.2)
  exact this
end
end VS
set_option Elab.async false
set_option linter.all false
set_option maxRecDepth 100000
namespace VS
open PySem PySem.Spec PyProof.Rows L2
/-! ### comprehensions -/
def wipeD (ρ : Env) : List Nat → Env
  | [] => ρ
  | v :: vs => (wipeD ρ vs).set v none
def goLc (vs : List Nat) (fg : D → Env → Option Env) (ft : FB) (fe : FE) : List D → Env → Option (List D × Env)
  | [], ρ => some ([], ρ)
  | d :: ds, ρ => (fg d ρ).bind fun ρ1 => (ft ρ1).bind fun b => if b.1 = true then (fe b.2).bind fun q => (goLc vs fg ft fe ds (wipeD q.2 vs)).bind fun r => some (q.1 :: r.1, r.2) else goLc vs fg ft fe ds (wipeD b.2 vs)
def lcF (vs : List Nat) (fi : FI) (fg : D → Env → Option Env) (ft : FB) (fe : FE) : FE := fun ρ => (fi ρ).bind fun p => (goLc vs fg ft fe p.1 (wipeD p.2 vs)).bind fun q => if q.1.length ≤ smallL then some (.lst true q.1, q.2) else none
def yesF : FB := fun ρ => some (true, ρ)
section
variable {K : PySem.W.Frag} {G H : Hp} {σ : L2.St} {ρ : Env} {F : Nat → List Addr}
theorem REnv.drop2 (r : REnv K G H σ ρ F) (i : Nat) : REnv K G H (σ.set i none) (ρ.set i none) (fset F i []) := by
  have d := r.drop i
  refine ⟨d.sub, by rw [List.length_set]; exact d.len, fun j e q => ?_, d.off, d.dis⟩
  obtain ⟨v, e1, e2⟩ := d.at_ j e q
  have : j ≠ i := fun z => by
    subst z
    rw [getS_set] at q
    by_cases hl : j < ρ.length
    · rw [if_pos ⟨rfl, hl⟩] at q; cases q
    · rw [if_neg (fun z => hl z.2)] at q; exact hl (r.lt q)
  exact ⟨v, by rw [List.getElem?_set_ne (Ne.symm this)]; exact e1, e2⟩
theorem REnv.wipe (r : REnv K G H σ ρ F) : ∀ vs : List Nat, ∃ F', REnv K G H (L2.wipe σ vs) (wipeD ρ vs) F' ∧ ∀ a, own F' a → own F a
  | [] => ⟨F, r, fun _ h => h⟩
  | v :: vs => by
    obtain ⟨F', r', s⟩ := r.wipe vs
    exact ⟨_, r'.drop2 v, fun a h => s a ((own_set h).elim id fun z => nomatch z)⟩
theorem getS_wipe : ∀ {vs : List Nat} {i : Nat} {d : D}, getS (wipeD ρ vs) i = some d → i ∉ vs
  | [], _, _, _ => List.not_mem_nil
  | v :: vs, i, d, h => by
    unfold wipeD at h
    rw [getS_set] at h
    intro hm
    rcases List.mem_cons.mp hm with z | z
    · subst z
      by_cases hl : i < (wipeD ρ vs).length
      · rw [if_pos ⟨rfl, hl⟩] at h; cases h
      · rw [if_neg (fun z => hl z.2)] at h
        unfold getS at h
        rw [List.getElem?_eq_none (by omega)] at h; cases h
    · by_cases hv : i = v ∧ v < (wipeD ρ vs).length
      · rw [if_pos hv] at h; cases h
      · rw [if_neg hv] at h; exact getS_wipe h z
theorem wipeD_wipeD (vs : List Nat) (i : Nat) : ∀ us : List Nat, (∀ u ∈ us, u ∈ vs) → getS (wipeD (wipeD ρ vs) us) i = getS (wipeD ρ vs) i
  | [], _ => rfl
  | u :: us, h => by
    show getS ((wipeD (wipeD ρ vs) us).set u none) i = _
    rw [getS_set]
    by_cases hi : i = u ∧ u < (wipeD (wipeD ρ vs) us).length
    · rw [if_pos hi]
      cases q : getS (wipeD ρ vs) i with
      | none => rfl
      | some d => exact absurd (h u List.mem_cons_self) (hi.1 ▸ getS_wipe q)
    · rw [if_neg hi]; exact wipeD_wipeD vs i us fun w hw => h w (List.mem_cons_of_mem _ hw)
/-- nothing is known of the wiped slots: any values may stand there -/
theorem REnv.unwipe {vs : List Nat} (r : REnv K G H (L2.wipe σ vs) ρ F) (h : ∀ i d, getS ρ i = some d → i ∉ vs) : REnv K G H σ ρ F := by
  refine ⟨r.sub, by rw [← r.len, wipe_length], fun i d q => ?_, r.off, r.dis⟩
  obtain ⟨v, e, hr⟩ := r.at_ i d q
  exact ⟨v, by rw [← wipe_out (h i d q)]; exact e, hr⟩
theorem wipe_pin {vs : List Nat} {σ σ' : L2.St} (p : Pin (fun j => !vs.contains j) (L2.wipe σ vs) σ') : L2.wipe σ' vs = L2.wipe σ vs := by
  have none_in : ∀ (τ : L2.St) (us : List Nat) (i : Nat), i ∈ us → i < τ.length → (L2.wipe τ us)[i]? = some none := by
    intro τ us
    induction us with
    | nil => intro i h; cases h
    | cons u us ih =>
      intro i h hl
      unfold L2.wipe
      by_cases hu : u = i
      · subst hu; rw [List.getElem?_set_self (by rw [wipe_length]; exact hl)]
      · rw [List.getElem?_set_ne hu]
        rcases List.mem_cons.mp h with z | z
        · exact absurd z.symm hu
        · exact ih i z hl
  apply List.ext_getElem?
  intro i
  by_cases hi : i ∈ vs
  · by_cases hl : i < σ.length
    · rw [none_in _ _ _ hi (by rw [p.1, wipe_length]; exact hl), none_in _ _ _ hi hl]
    · rw [List.getElem?_eq_none (by rw [wipe_length, p.1, wipe_length]; omega), List.getElem?_eq_none (by rw [wipe_length]; omega)]
  · rw [wipe_out hi]
    exact p.2 i (by simpa using hi)
theorem Reps.snoc : ∀ {vs : List V} {ds : List D} {L M : List Addr} {v : V} {d : D}, Reps K G H vs ds L → Rep K G H v d M → (∀ a ∈ L, a ∉ M) → Reps K G H (vs ++ [v]) (ds ++ [d]) (L ++ M)
  | _, _, _, M, v, d, .nil, h, n => by
    have := Reps.cons h (.nil (K := K) (G := G) (H := H)) (fun a _ z => nomatch z)
    rw [List.append_nil] at this
    exact this
  | _, _, _, M, v, d, .cons (L := L1) (M := L2) hv hr hn, h, n => by
    have := Reps.cons hv (hr.snoc h fun a ha => n a (List.mem_append_right _ ha)) (fun a ha hm => (List.mem_append.mp hm).elim (hn a ha) (n a (List.mem_append_left _ ha)))
    rw [← List.append_assoc] at this
    exact this
theorem goLc_len {vs : List Nat} {fg : D → Env → Option Env} {ft : FB} {fe : FE} {ds : List D} {ρ ρ' : Env} {xs : List D} (h : goLc vs fg ft fe ds ρ = some (xs, ρ')) (hv : ∀ i d, getS ρ i = some d → i ∉ vs) : ∀ i d, getS ρ' i = some d → i ∉ vs := by
  induction ds generalizing ρ xs with
  | nil => unfold goLc at h; cases h; exact hv
  | cons d ds ih =>
    unfold goLc at h
    cases h1 : fg d ρ with
    | none => rw [h1] at h; cases h
    | some ρ1 =>
      rw [h1] at h
      have h2 : (ft ρ1).bind (fun b => if b.1 = true then (fe b.2).bind fun q => (goLc vs fg ft fe ds (wipeD q.2 vs)).bind fun r => some (q.1 :: r.1, r.2) else goLc vs fg ft fe ds (wipeD b.2 vs)) = some (xs, ρ') := h
      cases h3 : ft ρ1 with
      | none => rw [h3] at h2; cases h2
      | some b =>
        rw [h3] at h2
        have h4 : (if b.1 = true then (fe b.2).bind fun q => (goLc vs fg ft fe ds (wipeD q.2 vs)).bind fun r => some (q.1 :: r.1, r.2) else goLc vs fg ft fe ds (wipeD b.2 vs)) = some (xs, ρ') := h2
        by_cases hb : b.1 = true
        · rw [if_pos hb] at h4
          cases h5 : fe b.2 with
          | none => rw [h5] at h4; cases h4
          | some q =>
            rw [h5] at h4
            have h6 : (goLc vs fg ft fe ds (wipeD q.2 vs)).bind (fun r => some (q.1 :: r.1, r.2)) = some (xs, ρ') := h4
            cases h7 : goLc vs fg ft fe ds (wipeD q.2 vs) with
            | none => rw [h7] at h6; cases h6
            | some r => rw [h7] at h6; cases h6; exact ih h7 (fun i d q => getS_wipe q)
        · rw [if_neg hb] at h4
          exact ih h4 (fun i d q => getS_wipe q)
theorem simE_lc {wi : TI} {g : TG} {tt : TT} {te : TE} {vs : List Nat} {fi : FI} {fg : D → Env → Option Env} {ft : FB} {fe : FE} (hi : SimI K wi fi) (hg : SimG K (fun j => !vs.contains j) g fg) (ht : SimT K tt ft) (he : SimE K te fe) : SimE K (tLc wi g tt te vs) (lcF vs fi fg ft fe) := by
  intro ρ d ρ' e σ G H F r Q q
  unfold lcF at e
  cases hf : fi ρ with
  | none => rw [hf] at e; cases e
  | some p =>
    obtain ⟨ds, ρ1⟩ := p
    rw [hf] at e
    have e1 : (goLc vs fg ft fe ds (wipeD ρ1 vs)).bind (fun q => if q.1.length ≤ smallL then some (D.lst true q.1, q.2) else none) = some (d, ρ') := e
    cases hgo : goLc vs fg ft fe ds (wipeD ρ1 vs) with
    | none => rw [hgo] at e1; cases e1
    | some pq =>
      obtain ⟨xs, ρe⟩ := pq
      rw [hgo] at e1
      have e2 : (if xs.length ≤ smallL then some (D.lst true xs, ρe) else none) = some (d, ρ') := e1
      by_cases hz : xs.length ≤ smallL
      · rw [if_pos hz] at e2; cases e2
        have hwe : ∀ i d, getS ρ' i = some d → i ∉ vs := goLc_len hgo (fun i d q => getS_wipe q)
        refine hi ρ ds ρ1 hf σ G H F r _ fun J G1 H1 F1 t1 r1 jo Dl hDl => ?_
        obtain ⟨F0, r0, s0⟩ := r1.wipe vs
        have tn : Tr G1 H1 (own F1) G1 (upd H1 Dl (.lst [])) (fun a => own F1 a ∨ a = Dl) := Tr.newO r1.sub hDl
        have nD : ¬ own F1 Dl := fun ⟨j, hj⟩ => by obtain ⟨_, vs, ee, ld⟩ := r1.owned j _ hj; rw [hDl] at ee; cases ee
        have gD : G1 Dl = none := r1.sub.free hDl
        have r0' : REnv K G1 (upd H1 Dl (.lst [])) (L2.wipe σ vs) (wipeD ρ1 vs) F0 := r0.tr (Tr.newO (A := fun _ => False) r0.sub hDl) (fun _ _ z => z)
        -- the word
        let Wd : Nat → Hp → Prop := fun i H' => ∃ accV accD rest L ρi Gi Fi, goLc vs fg ft fe (ds.drop i) ρi = some (rest, ρ') ∧ accD ++ rest = xs ∧ H' Dl = some (.lst accV) ∧ Gi Dl = none ∧ Dl ∉ L ∧ ¬ own Fi Dl ∧ Reps K Gi H' accV accD L ∧ (∀ a ∈ L, ¬ own Fi a) ∧ REnv K Gi H' (L2.wipe σ vs) ρi Fi ∧ Tr G1 H1 (own F1) Gi H' (fun a => own Fi a ∨ a ∈ Dl :: L)
        refine ⟨fun i m H' => m = ds.length - i ∧ i ≤ ds.length ∧ Wd i H', ⟨ds.length, by omega, Nat.zero_le _, [], [], xs, [], wipeD ρ1 vs, G1, F0, hgo, rfl, upd_same, gD, List.not_mem_nil, fun z => nD (s0 _ z), .nil, fun a z => (nomatch z), r0', tn.post fun a h => ?_⟩, ?_⟩
        · rcases h with h | h
          · exact .inl (s0 a h)
          · exact .inr (by simpa using h)
        rintro i m H' ⟨rfl, hle, accV, accD, rest, L, ρi, Gi, Fi, eg, ex, hD, hGD, nDL, nDF, hR, nLF, ri, ti⟩
        have sH : Same G1 H' := ti.g.trans ti.sub
        by_cases hlt : i < ds.length
        · refine .inr ⟨jo.goes i H' hlt sH, fun H2 => ∃ m', m' < ds.length - i ∧ (m' = ds.length - (i + 1) ∧ i + 1 ≤ ds.length ∧ Wd (i + 1) H2), fun _ h => h, fun x H2 hy => ?_⟩
          have hd : ds[i]? = some ds[i] := List.getElem?_eq_getElem hlt
          obtain ⟨G2, t2, rv⟩ := jo.yields i ds[i] Gi H' x H2 hd ti.g ri.sub hy
          have r2 := ri.tr t2 (fun _ _ z => z)
          have hR2 := hR.tr t2 (fun _ _ z => z)
          have hD2 := t2.keep Dl _ hD (fun z => z)
          have hGD2 : G2 Dl = none := (t2.keepG Dl _ hD (fun z => z)).trans hGD
          have ti2 : Tr G1 H1 (own F1) G2 H2 (fun a => own Fi a ∨ a ∈ Dl :: L) := ti.trans (t2.wk (fun _ z => z.elim) fun a h => .inr (.inl h))
          rw [show ds.drop i = ds[i] :: ds.drop (i + 1) from List.drop_eq_getElem_cons hlt] at eg
          have eg1 : (fg ds[i] ρi).bind (fun ρ1 => (ft ρ1).bind fun b => if b.1 = true then (fe b.2).bind fun q => (goLc vs fg ft fe (ds.drop (i + 1)) (wipeD q.2 vs)).bind fun r => some (q.1 :: r.1, r.2) else goLc vs fg ft fe (ds.drop (i + 1)) (wipeD b.2 vs)) = some (rest, ρ') := eg
          cases hg1 : fg ds[i] ρi with
          | none => rw [hg1] at eg1; cases eg1
          | some ρ2 =>
            rw [hg1] at eg1
            have eg2 : (ft ρ2).bind (fun b => if b.1 = true then (fe b.2).bind fun q => (goLc vs fg ft fe (ds.drop (i + 1)) (wipeD q.2 vs)).bind fun r => some (q.1 :: r.1, r.2) else goLc vs fg ft fe (ds.drop (i + 1)) (wipeD b.2 vs)) = some (rest, ρ') := eg1
            refine hg ds[i] ρi ρ2 hg1 x (L2.wipe σ vs) G2 H2 Fi [] r2 rv (fun a z => nomatch z) _ fun σ3 G3 H3 F3 t3 r3 p3 => ?_
            have nA3 : ∀ a ∈ Dl :: L, ¬ (own Fi a ∨ a ∈ ([] : List Addr)) := fun a ha z => by
              rcases z with z | z
              · rcases List.mem_cons.mp ha with y | y
                · subst y; exact nDF z
                · exact nLF a y z
              · cases z
            have own2 : ∀ a ∈ Dl :: L, G2 a = none ∧ ∃ o, H2 a = some o ∧ LD o := fun a ha => by
              rcases List.mem_cons.mp ha with y | y
              · subst y; exact ⟨hGD2, _, hD2, .l _⟩
              · exact hR2.owned a y
            have ap3 := t3.apart own2 nA3
            have hR3 := hR2.tr t3 (fun a ha => nA3 a (List.mem_cons_of_mem _ ha))
            have hD3 := t3.keep Dl _ hD2 (nA3 Dl List.mem_cons_self)
            have hGD3 : G3 Dl = none := (t3.keepG Dl _ hD2 (nA3 Dl List.mem_cons_self)).trans hGD2
            refine ⟨wipe_pin p3, ?_⟩
            cases ht1 : ft ρ2 with
            | none => rw [ht1] at eg2; cases eg2
            | some b =>
              obtain ⟨b, ρ4⟩ := b
              rw [ht1] at eg2
              have eg3 : (if b = true then (fe ρ4).bind fun q => (goLc vs fg ft fe (ds.drop (i + 1)) (wipeD q.2 vs)).bind fun r => some (q.1 :: r.1, r.2) else goLc vs fg ft fe (ds.drop (i + 1)) (wipeD ρ4 vs)) = some (rest, ρ') := eg2
              refine ht ρ2 b ρ4 ht1 σ3 G3 H3 F3 r3 _ fun G4 H4 F4 t4 r4 => ?_
              have own3 : ∀ a ∈ Dl :: L, G3 a = none ∧ ∃ o, H3 a = some o ∧ LD o := fun a ha => by
                rcases List.mem_cons.mp ha with y | y
                · subst y; exact ⟨hGD3, _, hD3, .l _⟩
                · exact hR3.owned a y
              have ap4 := t4.apart own3 ap3
              have hR4 := hR3.tr t4 (fun a ha => ap3 a (List.mem_cons_of_mem _ ha))
              have hD4 := t4.keep Dl _ hD3 (ap3 Dl List.mem_cons_self)
              have hGD4 : G4 Dl = none := (t4.keepG Dl _ hD3 (ap3 Dl List.mem_cons_self)).trans hGD3
              have t34 : Tr G2 H2 (own Fi) G4 H4 (own F4) := (t3.wk (fun a h => h.elim id fun z => nomatch z) fun a h => .inl h).trans t4
              -- behind the turn so far
              have tlong : Tr G1 H1 (own F1) G4 H4 (fun a => own F4 a ∨ a ∈ Dl :: L) := ti2.trans (t34.wk (fun a h => .inl h) fun a h => by
                rcases h with h | h
                · exact .inl h
                · exact .inr (.inl (.inr h)))
              cases b with
              | false =>
                rw [if_neg Bool.false_ne_true] at eg3
                rw [if_neg Bool.false_ne_true]
                obtain ⟨F5, r5, s5⟩ := r4.wipe vs
                rw [wipe_pin p3] at r5
                refine ⟨_, by omega, rfl, hlt, accV, accD, rest, L, _, G4, F5, eg3, ex, hD4, hGD4, nDL, fun z => ap4 Dl List.mem_cons_self (s5 _ z), hR4, fun a ha z => ap4 a (List.mem_cons_of_mem _ ha) (s5 a z), r5, tlong.post fun a h => h.imp (s5 a) id⟩
              | true =>
                rw [if_pos rfl] at eg3
                rw [if_pos rfl]
                cases he1 : fe ρ4 with
                | none => rw [he1] at eg3; cases eg3
                | some qd =>
                  obtain ⟨y, ρ5⟩ := qd
                  rw [he1] at eg3
                  have eg4 : (goLc vs fg ft fe (ds.drop (i + 1)) (wipeD ρ5 vs)).bind (fun r => some (y :: r.1, r.2)) = some (rest, ρ') := eg3
                  cases hgo2 : goLc vs fg ft fe (ds.drop (i + 1)) (wipeD ρ5 vs) with
                  | none => rw [hgo2] at eg4; cases eg4
                  | some rr =>
                    obtain ⟨rest2, ρr⟩ := rr
                    rw [hgo2] at eg4; cases eg4
                    refine he ρ4 y ρ5 he1 σ3 G4 H4 F4 r4 _ fun v G5 H5 F5 M t5 r5 rv5 n5 => ?_
                    have own4 : ∀ a ∈ Dl :: L, G4 a = none ∧ ∃ o, H4 a = some o ∧ LD o := fun a ha => by
                      rcases List.mem_cons.mp ha with y | y
                      · subst y; exact ⟨hGD4, _, hD4, .l _⟩
                      · exact hR4.owned a y
                    have ap5 := t5.apart own4 ap4
                    have hR5 := hR4.tr t5 (fun a ha => ap4 a (List.mem_cons_of_mem _ ha))
                    have hD5 := t5.keep Dl _ hD4 (ap4 Dl List.mem_cons_self)
                    have hGD5 : G5 Dl = none := (t5.keepG Dl _ hD4 (ap4 Dl List.mem_cons_self)).trans hGD4
                    obtain ⟨F6, r6, s6⟩ := r5.wipe vs
                    rw [wipe_pin p3] at r6
                    have nDM : Dl ∉ M := fun z => ap5 Dl List.mem_cons_self (.inr z)
                    have nLM : ∀ a ∈ L, a ∉ M := fun a ha z => ap5 a (List.mem_cons_of_mem _ ha) (.inr z)
                    have sn := hR5.snoc rv5 nLM
                    have kp : ∀ {L0 : List Addr}, Dl ∉ L0 → Keep G5 H5 G5 (upd H5 Dl (.lst (accV ++ [v]))) L0 := fun {L0} hn0 => ⟨Same.refl _, fun _ _ h => h, fun b hb => upd_ne fun z => hn0 (z ▸ hb)⟩
                    have nDLM : Dl ∉ L ++ M := fun z => (List.mem_append.mp z).elim nDL nDM
                    have tw : Tr G5 H5 (fun b => b = Dl) G5 (upd H5 Dl (.lst (accV ++ [v]))) (fun b => b = Dl) := Tr.write r5.sub hGD5 rfl ⟨_, hD5⟩
                    have nD6 : ∀ a, own F6 a → a ≠ Dl := fun a h z => ap5 Dl List.mem_cons_self (.inl (s6 _ (z ▸ h)))
                    have hlen : accV.length = accD.length := hR.length
                    refine ⟨accV, hD5, ?_, _, by omega, rfl, hlt, accV ++ [v], accD ++ [y], rest2, L ++ M, _, G5, F6, hgo2, by rw [List.append_assoc]; exact ex, upd_same, hGD5, nDLM, fun z => nD6 _ z rfl, sn.keep (kp nDLM), fun a ha z => ?_, r6.tr tw nD6, ?_⟩
                    · have : accD.length ≤ smallL := by
                        have h1 : accD.length ≤ xs.length := by rw [← ex, List.length_append]; omega
                        omega
                      rw [hlen]
                      exact Nat.lt_of_le_of_lt this (by decide)
                    · rcases List.mem_append.mp ha with w | w
                      · exact ap5 a (List.mem_cons_of_mem _ w) (.inl (s6 a z))
                      · exact n5 a w (s6 a z)
                    · refine (tlong.trans (t5.wk (A2 := fun a => own F5 a ∨ a ∈ Dl :: (L ++ M)) (B := fun a => own F4 a ∨ a ∈ Dl :: L) (fun a h => .inl h) fun a h => ?_)).trans (tw.wk (fun b z => .inr (z ▸ List.mem_cons_self)) fun a h => ?_)
                      · rcases h with h | h
                        · exact .inl (.inl h)
                        · rcases List.mem_cons.mp h with z | z
                          · exact .inr (.inl (.inr (z ▸ List.mem_cons_self)))
                          · rcases List.mem_append.mp z with y | y
                            · exact .inr (.inl (.inr (List.mem_cons_of_mem _ y)))
                            · exact .inl (.inr y)
                      · rcases h with h | h
                        · exact .inr (.inl (.inl (s6 a h)))
                        · exact .inr (.inl (.inr h))
        · have ei : i = ds.length := by omega
          subst ei
          rw [List.drop_length] at eg
          cases eg
          rw [List.append_nil] at ex
          subst ex
          have ru := ri.unwipe hwe
          refine .inl ⟨jo.stops H' sH, q (.ref Dl) Gi H' Fi (Dl :: L) (t1.trans ti) ru (.lstO hGD hD nDL hR) fun a ha => ?_⟩
          rcases List.mem_cons.mp ha with z | z
          · subst z; exact nDF
          · exact nLF a z
      · rw [if_neg hz] at e2; cases e2
end
end VS
set_option Elab.async false
set_option linter.all false
set_option maxRecDepth 100000
namespace VS
open PySem PySem.Spec PyProof.Rows L2
/-- name op= e: what stands in the slot bears nothing owned -/
def augF (i : Nat) (g : List D → Option D) (o : Op) : FS := fun ρ => (getS ρ i).bind fun d0 => if noOwn d0 = true then (evOps [o] ρ).bind fun p => (fetch [o] p.1 p.2).bind fun ds => (g (d0 :: ds)).bind fun d => some (.nx (p.2.set i (some d))) else none
section
variable {K : PySem.W.Frag} {pn : Nat → Bool} {W : WX}
theorem simS_aug {i : Nat} {te : TE} {ti : TIp} {o : Op} {g : List D → Option D} (hp : pn i = false) (ho : SimO K te o) (hv : VOk K (fun vs H Q => match vs with | [x, y] => ti x y H Q | _ => False) g) : SimS K pn W (tAug i te ti) (augF i g o) := by
  intro ρ out e σ G H F r E q
  unfold augF at e
  cases h0 : getS ρ i with
  | none => rw [h0] at e; cases e
  | some d0 =>
    rw [h0] at e
    have e0 : (if noOwn d0 = true then (evOps [o] ρ).bind fun p => (fetch [o] p.1 p.2).bind fun ds => (g (d0 :: ds)).bind fun d => some (Out.nx (p.2.set i (some d))) else none) = some out := e
    by_cases hn : noOwn d0 = true
    · rw [if_pos hn] at e0
      obtain ⟨v, hv0, hr⟩ := r.at_ i d0 h0
      have hL := hr.noL hn
      rw [hL] at hr
      cases he : evOps [o] ρ with
      | none => rw [he] at e0; cases e0
      | some p =>
        obtain ⟨ts, ρ1⟩ := p
        rw [he] at e0
        have e1 : (fetch [o] ts ρ1).bind (fun ds => (g (d0 :: ds)).bind fun d => some (Out.nx (ρ1.set i (some d)))) = some out := e0
        cases hf : fetch [o] ts ρ1 with
        | none => rw [hf] at e1; cases e1
        | some ds =>
          rw [hf] at e1
          have e2 : (g (d0 :: ds)).bind (fun d => some (Out.nx (ρ1.set i (some d)))) = some out := e1
          cases hg : g (d0 :: ds) with
          | none => rw [hg] at e2; cases e2
          | some d =>
            rw [hg] at e2; cases e2
            refine ⟨v, hv0, ?_⟩
            have key := simA_cons (ta := tNil) (ops := []) ho simA_nil ρ ts ρ1 he σ G H F r (fun vs H1 => ∀ x, vs = [x] → ti v x H1 fun z H2 => E.nx (σ.set i (some z)) H2) fun vs G1 H1 F1 M t1 r1 ok n1 x ev => ?_
            · have k2 : te σ H fun x H1 => ∀ y, [x] = [y] → ti v y H1 fun z H2 => E.nx (σ.set i (some z)) H2 := key
              have m : (fun (x : V) H1 => ∀ y, [x] = [y] → ti v y H1 fun z H2 => E.nx (σ.set i (some z)) H2) = (fun x H1 => ti v x H1 fun z H2 => E.nx (σ.set i (some z)) H2) := by
                funext x H1
                exact propext ⟨fun h => h x rfl, fun h y e => by cases e; exact h⟩
              rw [m] at k2
              exact k2
            · subst ev
              have rl := ok.get r1 hf
              refine hv G1 H1 [v, x] (d0 :: ds) d r1.sub (.cons (hr.far t1.g) rl) hg _ fun z G2 H2 L t2 rz => ?_
              have r2 := r1.tr t2 (fun _ _ z => z)
              have nL : ∀ a ∈ L, ¬ own F1 a := fun a ha ⟨j, hj⟩ => by
                rcases t2.new a ha with y | y
                · exact y
                · obtain ⟨_, vs, ee, ld⟩ := r1.owned j a hj
                  rw [y] at ee; cases ee
              obtain ⟨F3, r3, s3⟩ := r2.put' i rz nL
              refine q _ G2 H2 F3 ((t1.post fun a h => .inl h).trans (t2.wk (fun _ z => z.elim) fun a h => ?_)) r3 (Pin.set hp)
              rcases s3 a h with y | y
              · exact .inr (.inl y)
              · exact .inl y
    · rw [if_neg hn] at e0; cases e0
theorem Reps.setAt : ∀ {G H : Hp} {vs : List V} {ds : List D} {L M : List Addr} {v : V} {d : D} (j : Nat), Reps K G H vs ds L → Rep K G H v d M → (∀ a ∈ L, a ∉ M) → ∃ N, Reps K G H (vs.set j v) (ds.set j d) N ∧ ∀ a ∈ N, a ∈ L ∨ a ∈ M
  | _, _, _, _, _, M, v, d, j, .nil, h, n => ⟨[], .nil, fun a z => (nomatch z)⟩
  | _, _, _, _, _, M, v, d, 0, .cons (L := L1) (M := L2) hv hr hn, h, n =>
    ⟨M ++ L2, .cons h hr fun a ha hm => n a (List.mem_append_right _ hm) ha, fun a ha => (List.mem_append.mp ha).elim .inr fun z => .inl (List.mem_append_right _ z)⟩
  | _, _, _, _, _, M, v, d, j + 1, .cons (L := L1) (M := L2) hv hr hn, h, n => by
    obtain ⟨N, q, s⟩ := hr.setAt j h fun a ha => n a (List.mem_append_right _ ha)
    refine ⟨L1 ++ N, .cons hv q fun a ha hm => ?_, fun a ha => ?_⟩
    · rcases s a hm with z | z
      · exact hn a ha z
      · exact n a (List.mem_append_left _ ha) z
    · rcases List.mem_append.mp ha with z | z
      · exact .inl (List.mem_append_left _ z)
      · exact (s a z).imp (List.mem_append_right _) id
/-- x[i] = v -/
theorem simG_sub {k : Nat} {ti : TE} {oi : Op} (hi : SimO K ti oi) : SimG K pn (gSub (tVar k) ti rSetL) (tgSub k oi) := by
  intro d ρ ρ' e v σ G H F L r hv nn Q q
  unfold tgSub at e
  cases h0 : getS ρ k with
  | none => rw [h0] at e; cases e
  | some d0 =>
    rw [h0] at e
    obtain ⟨w, hw, hr0⟩ := r.at_ k d0 h0
    have e0 : (evOps [oi] ρ).bind (fun p => (fetch [oi] p.1 p.2).bind fun ds => subPut p.2 k d ds (getS p.2 k)) = some ρ' := e
    cases he : evOps [oi] ρ with
    | none => rw [he] at e0; cases e0
    | some p =>
      obtain ⟨ts, ρ1⟩ := p
      rw [he] at e0
      have e1 : (fetch [oi] ts ρ1).bind (fun ds => subPut ρ1 k d ds (getS ρ1 k)) = some ρ' := e0
      cases hf : fetch [oi] ts ρ1 with
      | none => rw [hf] at e1; cases e1
      | some ds =>
        rw [hf] at e1
        have e2 : subPut ρ1 k d ds (getS ρ1 k) = some ρ' := e1
        have key := simA_cons (ta := tNil) (ops := []) hi simA_nil ρ ts ρ1 he σ G H F r (fun vs H1 => ∀ x, vs = [x] → rSetL w x v H1 fun H2 => Q σ H2) fun vs G1 H1 F1 M t1 r1 ok n1 x ev => ?_
        · have k2 : ti σ H fun x H1 => ∀ y, [x] = [y] → rSetL w y v H1 fun H2 => Q σ H2 := key
          have m : (fun (x : V) H1 => ∀ y, [x] = [y] → rSetL w y v H1 fun H2 => Q σ H2) = (fun x H1 => rSetL w x v H1 fun H2 => Q σ H2) := by
            funext x H1
            exact propext ⟨fun h => h x rfl, fun h y e => by cases e; exact h⟩
          rw [m] at k2
          exact ⟨w, hw, k2⟩
        · subst ev
          have rl := ok.get r1 hf
          cases rl with
          | cons rx rr =>
            cases rr
            rename_i dx Lx
            cases dx with
            | int i =>
              cases rx
              cases h1 : getS ρ1 k with
              | none => rw [h1] at e2; cases e2
              | some d1 =>
                rw [h1] at e2
                cases d1 with
                | lst o xs =>
                  cases o with
                  | false => cases e2
                  | true =>
                    have e3 : (ixN xs.length i).bind (fun j => some (ρ1.set k (some (.lst true (xs.set j d))))) = some ρ' := e2
                    cases hj : ixN xs.length i with
                    | none => rw [hj] at e3; cases e3
                    | some j =>
                      rw [hj] at e3; cases e3
                      obtain ⟨w', hw', hrep⟩ := r1.at_ k _ h1
                      rw [hw] at hw'; cases hw'
                      generalize hFk : F1 k = Fk at hrep
                      cases hrep with
                      | lstO hG hH hn hr =>
                        rename_i a vs La
                        have hsub : ∀ b ∈ a :: La, own F1 b := fun b hb => ⟨k, by rw [hFk]; exact hb⟩
                        have apv : ∀ b ∈ L, ¬ (own F1 b ∨ b ∈ M) := t1.apart hv.owned nn
                        have hv1 := hv.tr t1 nn
                        obtain ⟨N, hN, sN⟩ := hr.setAt j hv1 fun b hb hbL => apv b hbL (.inl (hsub b (List.mem_cons_of_mem _ hb)))
                        have naN : a ∉ N := fun z => (sN a z).elim hn fun y => apv a y (.inl (hsub a List.mem_cons_self))
                        refine ⟨a, vs, i, j, rfl, rfl, hH, by rw [hr.length]; exact hj, ?_⟩
                        have tw : Tr G1 H1 (fun b => b = a) G1 (upd H1 a (.lst (vs.set j v))) (fun b => b = a) := Tr.write r1.sub hG rfl ⟨_, hH⟩
                        have rd := (r1.drop k).tr tw fun b ⟨jj, hjj⟩ z => by
                          subst z
                          by_cases hji : jj = k
                          · subst hji; rw [fset_same] at hjj; cases hjj
                          · rw [fset_ne hji] at hjj; exact r1.dis jj k hji _ hjj (by rw [hFk]; exact List.mem_cons_self)
                        have hnew : Rep K G1 (upd H1 a (.lst (vs.set j v))) (.ref a) (.lst true (xs.set j d)) (a :: N) := .lstO hG upd_same naN (hN.keep ⟨Same.refl _, fun _ _ h => h, fun b hb => upd_ne fun z => naN (z ▸ hb)⟩)
                        have rp := rd.re (i := k) (by rw [List.length_set]; exact r1.lt h1) hw hnew (fun b hb jj hjk hbj => by
                          rw [fset_ne hjk] at hbj
                          rcases List.mem_cons.mp hb with z | z
                          · subst z; exact r1.dis jj k hjk _ hbj (by rw [hFk]; exact List.mem_cons_self)
                          · rcases sN b z with y | y
                            · exact r1.dis jj k hjk _ hbj (by rw [hFk]; exact List.mem_cons_of_mem _ y)
                            · exact apv b y (.inl ⟨jj, hbj⟩))
                        rw [List.set_set] at rp
                        have t1' : Tr G H (fun a => own F a ∨ a ∈ L) G1 H1 (fun a => own F1 a ∨ a ∈ L) := t1.wk (fun a h => .inl h) fun a h => by
                          rcases h with h | h
                          · exact .inl (.inl h)
                          · exact .inr (.inl (.inr h))
                        refine q σ G1 _ _ (t1'.trans (tw.wk (fun b z => .inl (z ▸ hsub a List.mem_cons_self)) fun b hb => .inr (.inl ?_))) rp Pin.refl
                        obtain ⟨jj, hjj⟩ := hb
                        by_cases hji : jj = k
                        · subst hji
                          rw [fset_same] at hjj
                          rcases List.mem_cons.mp hjj with z | z
                          · exact .inl (z ▸ hsub a List.mem_cons_self)
                          · rcases sN b z with y | y
                            · exact .inl (hsub b (List.mem_cons_of_mem _ y))
                            · exact .inr y
                        · rw [fset_ne hji, fset_ne hji] at hjj; exact .inl ⟨jj, hjj⟩
                | _ => cases e2
            | _ => cases e2
end
section
variable {X : Cx} {pn : Nat → Bool} {W : WX} {e a b : Expr} {es : List Expr} {pos : Pos}
theorem psf_aug {i : Nat} {x : Str} {op : Operator} {ti : TIp} {pos' : Pos} {o : Op} {g : List D → Option D} (hN : X.N.Nodup) (hi : X.N[i]? = some x) (hx : Loc X.env.scope x) (hp : pn i = false) (he : POf X e o) (ho : PIp X op ti) (hv : VOk X.K (fun vs H Q => match vs with | [x, y] => ti x y H Q | _ => False) g)
    (hf : X.fn x = true ∨ X.env.scope.names.lookup x = some .local := by first | exact .inl rfl | exact .inr rfl | assumption) : PSf X pn W (.AugAssign (.Name x pos') op e pos) (augF i g o) := by
  obtain ⟨te, p1, s1⟩ := he.ex
  exact .mk (ps_aug hN hi hx p1 ho hf) (simS_aug hp s1 hv)
theorem pgf_sub {k : Nat} {o i : Expr} {oi : Op} (ho : PE X o (tVar k)) (hi : POf X i oi) (ha : ∀ v, assign (.Subscript o i pos) X.env v = (do
      let ov ← holding [v] (eval o X.env)
      let iv ← holding [v, ov] (eval i X.env)
      standAt pos
      holding [v, ov, iv] (setItem ov iv v)
      release [v, ov, iv] []) := by intro _; rfl) : PGf X pn (.Subscript o i pos) (tgSub k oi) := by
  obtain ⟨te, p1, s1⟩ := hi.ex
  exact .mk (pg_sub ho p1 set_list ha) (simG_sub s1)
theorem pf_tup {x1} {ops : List Op} (h : PAf X es ops) : PEf X (.Tuple es x1 pos) (tupF ops) := .mk (pe_tup h) (simE_tup (simA_of ops))
theorem pf_lst {ops : List Op} (h : PAf X es ops) : PEf X (.List es pos) (lstF ops) := .mk (pe_lst h) (simE_lst (simA_of ops))
theorem pf_lc {elt tg iter : Expr} {ifs : List Expr} {scope : Scope} {own : List (Str × Nat)} {fi : FI} {fg : D → Env → Option Env} {ft : FB} {fe : FE} (hc : X.calm = true) (hN : X.N.Nodup) (hi : PIf X tg iter fi) (ok : BlkOk X.N X.env.scope scope own)
    (hg : ∀ (s : Shared) (H : Hp) (C : Addr) (cl : List (Str × Addr)) (fp : List Addr), PGf (X.blk s H scope (compEnvC scope cl C X.env) fp) (fun j => !(own.map (·.2)).contains j) tg fg)
    (ht : ∀ (s : Shared) (H : Hp) (C : Addr) (cl : List (Str × Addr)) (fp : List Addr), PTs (X.blk s H scope (compEnvC scope cl C X.env) fp) ifs (ttOf X.K ft))
    (he : ∀ (s : Shared) (H : Hp) (C : Addr) (cl : List (Str × Addr)) (fp : List Addr), PEf (X.blk s H scope (compEnvC scope cl C X.env) fp) elt fe) (hs : ∀ x, foldedSetIterable iter X.env x = pure x := by intro _; rfl) :
    PEf X (.ListComp elt [⟨tg, iter, ifs, 0⟩] scope pos) (lcF (own.map (·.2)) fi fg ft fe) :=
  .mk (pe_lc hc hN hi ok hg ht he hs) (simE_lc (simI_of fi) (simG_of fg) (simT_of' ft) (simE_of fe))
theorem psf_setLc {i : Nat} {y : Str} {py : Pos} {elt tg iter : Expr} {ifs : List Expr} {scope : Scope} {own : List (Str × Nat)} {spos : Pos} {fi : FI} {fg : D → Env → Option Env} {ft : FB} {fe : FE} (hp : pn i = false) (hc : X.calm = true) (hN : X.N.Nodup) (hy : X.N[i]? = some y) (hyl : X.env.scope.names.lookup y = some .local)
    (hsw : swapsWith (.ListComp elt [⟨tg, iter, ifs, 0⟩] scope pos) (some (.Name y py)) spos.line X.env = pure true) (hi : PIf X tg iter fi) (ok : BlkOk X.N X.env.scope scope own)
    (hg : ∀ (s : Shared) (H : Hp) (C : Addr) (cl : List (Str × Addr)) (fp : List Addr), PGf (X.blk s H scope (compEnvC scope cl C X.env) fp) (fun j => !(own.map (·.2)).contains j) tg fg)
    (ht : ∀ (s : Shared) (H : Hp) (C : Addr) (cl : List (Str × Addr)) (fp : List Addr), PTs (X.blk s H scope (compEnvC scope cl C X.env) fp) ifs (ttOf X.K ft))
    (he : ∀ (s : Shared) (H : Hp) (C : Addr) (cl : List (Str × Addr)) (fp : List Addr), PEf (X.blk s H scope (compEnvC scope cl C X.env) fp) elt fe) (hs : ∀ x, foldedSetIterable iter X.env x = pure x := by intro _; rfl) :
    PSf X pn W (.Assign [.Name y py] (.ListComp elt [⟨tg, iter, ifs, 0⟩] scope pos) spos) (asgF (lcF (own.map (·.2)) fi fg ft fe) (tgN i)) :=
  .mk (ps_setLc hc hN hy hyl hsw hi ok hg ht he hs) (simS_asg (simE_lc (simI_of fi) (simG_of fg) (simT_of' ft) (simE_of fe)) (simG_name hp))
theorem ptsf_nil : PTs X [] (ttOf X.K yesF) := ⟨fun pins s σ H Q I ⟨ρ, b, ρ', G, F, ee, r, q⟩ => by
  cases ee
  exact pts_nil.run pins s σ H Q I (q G H F (Tr.refl r.sub) r)⟩
theorem ptsf_one {c : Expr} {f : FB} (h : PTf X c f) : PTs X [c] (ttOf X.K f) := pts_one h
theorem pf_mut {name id : String} {o : Expr} {i : Nat} {ops : List Op} {p1 p2 : Pos} {r : V → List V → Hp → VK → Prop} {g : List D → List D → Option (D × List D)} (h : PE X (.Call (.Attribute o name p1) es [] p2) (tBM X.K "list" r (tVar i) (taOf X.K ops))) (hm : MOk X.K r g) : PEf X (.Call (.Attribute o name p1) es [] p2) (mutF i g ops) := .mk h (simE_mut rfl (simA_of ops) hm)
end
end VS
set_option Elab.async false
set_option linter.all false
set_option maxRecDepth 100000
namespace PySem
open Sem (wp)
open AutoSeq1 (wpAny_loadPart')
/-- enumerate(v), v one that begins -/
theorem vs_enum_new {v : Value} {o : Obj} {H : Heap → Prop} (B : Begins v o H) :
    Meets (Builtin.«enumerate.__new__» ⟨[.type "enumerate", v], []⟩) (fun _ R s => H s.heap ∧
      R (.ok (.ret (.ref (s.heap.push o).objs.size))) { s with heap := (s.heap.push o).push { cls := .type "enumerate", data := .fields #[.none, .bool false, .ref s.heap.objs.size, rawInt 0, .none, .none] } }) :=
  .of_wp fun prog w A R s h => by
    obtain ⟨hp, g, d, tk, os⟩ := s; obtain ⟨h1, h⟩ := h
    have hsub := sub_enumerate
    have q1 : ∀ {A' : Around} {E : Value → Shared → Prop} {Q : Value → Shared → Prop}, Q (.ref hp.objs.size) ⟨hp.push o, g, d, tk, os⟩ → wpAny (model prog w) A' (pyIter v) Q E ⟨hp, g, d, tk, os⟩ :=
      fun q => B.iter prog w _ _ ⟨hp, g, d, tk, os⟩ _ h1 q
    wp_walk using q1
    refine wpAny_stack_any fun st => wpAny_pure ?_
    split
    · rename_i c _ _ _ _ _
      cases (c == Value.type "enumerate")
      · wp_walk using q1
        exact ⟨_, rfl, h⟩
      · wp_walk using q1
        exact ⟨_, rfl, h⟩
    · wp_walk using q1
      exact ⟨_, rfl, h⟩
section
variable {prog : Program} {w : World} {A : Around} {E : Value → Shared → Prop} {s : Shared}
theorem vs_enum_begins {v : Value} {o : Obj} {H : Heap → Prop} {Q : Value → Shared → Prop} (B : Begins v o H) (h1 : H s.heap)
    (h : ∀ h', IsEnum h' (s.heap.objs.size + 1) s.heap.objs.size 0 .none → h'.get? s.heap.objs.size = some o → h'.objs.size = s.heap.objs.size + 2 →
      (∀ b o, s.heap.get? b = some o → h'.get? b = some o) → Q (.ref (s.heap.objs.size + 1)) { s with heap := h' }) :
    wpAny (model prog w) A (call (.type "enumerate") [v]) Q E s := by
  refine callType_new F.called_enumerate (by decide) (F.typeCall_enumerate_1 _) (F.newCall_enumerate_1 _) (fun obj => F.args_object_init_2 obj _) F.entry_enumerate_new
    (vs_enum_new B) ⟨h1, ?_⟩
  have hz : (s.heap.push o).objs.size = s.heap.objs.size + 1 := Heap.size_push ..
  show _ ∧ _
  rw [hz]
  have he : IsEnum ((s.heap.push o).push { cls := .type "enumerate", data := .fields #[.none, .bool false, .ref s.heap.objs.size, rawInt 0, .none, .none] }) (s.heap.objs.size + 1) s.heap.objs.size 0 .none := by
    have := Heap.get?_push_size (s.heap.push o) (o := { cls := .type "enumerate", data := .fields #[.none, .bool false, .ref s.heap.objs.size, rawInt 0, .none, .none] }) rfl
    rw [hz] at this; exact this
  refine ⟨⟨_, he, rfl⟩, h _ he (Heap.get?_push_of_some _ (Heap.get?_push_size _ B.free)) (by rw [Heap.size_push, hz]) fun b o x => Heap.get?_push_of_some _ (Heap.get?_push_of_some _ x)⟩
end
end PySem
namespace VS
open PySem PySem.Spec PyProof.Rows L2
/-- the tuple at a, each item in a new pair -/
def IteT (K : PySem.W.Frag) (a : Addr) : It :=
  ⟨fun i H => ∃ (xs : List V) (x : V), SqT K H a xs ∧ xs[i]? = some x, fun i H v H' => ∃ T x, v = .ref T ∧ H T = none ∧ H' = upd H T (.tup [.int (i : Nat), x]) ∧ ∀ xs, SqT K H a xs → xs[i]? = some x, fun i H => ∃ xs : List V, SqT K H a xs ∧ xs.length ≤ i⟩
theorem turn_enumT {P : Program} {w : World} {K : PySem.W.Frag} {elts : List Expr} {kk : Nat} {tpos : Pos} (a e it : Addr) :
    Turn P w K (.Tuple elts kk tpos) (IteT K a) [e, it] e (fun i h => (∃ old, IsEnum h e it ((i : Nat) : Int) old) ∧ h.IsTupleIter it a i ∧ e ≠ it ∧ a ≠ it ∧ a ≠ e) where
  mem := by simp
  obj := fun i h st b hb => by
    obtain ⟨⟨old, he⟩, ⟨o, ho, hc, hd⟩, _⟩ := st
    have e' : b = e ∨ b = it := by simpa using hb
    rcases e' with z | z
    · rw [z]; exact ⟨_, he, fun v q => nomatch q⟩
    · rw [z]; exact ⟨o, ho, fun v q => by rw [hd] at q; cases q⟩
  keep := fun i h h' st k => let ⟨⟨old, he⟩, hi, hne⟩ := st; ⟨⟨old, k e (by simp) _ he⟩, hi.at fun o q => k it (by simp) o q, hne⟩
  item := by
    intro X hP hw hK hc i pins s σ H E I hf st hg
    subst hP hw hK
    obtain ⟨⟨old, he⟩, hit, hne, hai, hae⟩ := st
    obtain ⟨xs, x, hq, hx⟩ := hg
    obtain ⟨its, rv, p, hz⟩ := I.tuple hq
    obtain ⟨u, hu, ru⟩ := rv.get hx
    have hel : e < s.heap.objs.size := Heap.lt_size he
    have hil : it < s.heap.objs.size := by obtain ⟨_, q, _⟩ := hit; exact Heap.lt_size q
    have hh : X.A.in1.handled = none := I.ok.hd hc
    have hlt : i < its.toArray.size := by
      have := (List.getElem?_eq_some_iff.mp hu).1
      simpa using this
    refine wpAny_pyNext_enum_itemD (Draws.tuple hh it a hai its.toArray) he ⟨hit, p⟩ hlt hne (by simp only [List.mem_cons, List.not_mem_nil, or_false, not_or]; exact ⟨hne, fun z => hae z.symm⟩) fun x' h' tk hx' ho hst' hT hsz hk => ?_
    have ex : x' = u := by
      have : its.toArray[i]? = some u := by simpa using hu
      rw [this] at hx'; cases hx'; rfl
    subst ex
    refine ⟨_, rfl, wpAny_letOwnedTupleGo_enum (s := { s with heap := h', toks := tk + 1 }) ho fun h'' he' sb => ?_⟩
    have hT2 : h''.get? s.heap.objs.size = some { cls := .type "tuple", data := .seq #[.int i tk, x'] } := (sb.2 _ (Nat.ne_of_gt hel)).trans hT
    have new : ObjOk X.prog X.w (upd H s.heap.objs.size (.tup [.int (i : Nat), x])) h'' s.heap.objs.size (.tup [.int (i : Nat), x]) :=
      ⟨by show 2 ≤ sizeLine; decide, [.int i tk, x'], .cons ⟨_, rfl⟩ (.cons ru .nil), ⟨_, hT2, rfl, _, rfl⟩⟩
    have I1 : Inv X pins σ (upd H s.heap.objs.size (.tup [.int (i : Nat), x])) { s with heap := h'', toks := tk + 1 } :=
      I.turnedNew (ch := [e, it]) (fun b ob hb q => (sb.2 b (fun z => hb (by simp [z]))).trans (hk b ob (fun z => hb (by simp [z])) (fun z => hb (by simp [z])) q)) hf (Nat.le_refl _) new
    refine ⟨.ref s.heap.objs.size, _, I1, rfl, ⟨_, x, rfl, I.hok.fresh (Nat.le_refl _), rfl, fun ys hy => by rw [I.tuple_inj hy hq]; exact hx⟩, ⟨⟨x', ?_⟩, hst'.1.at fun o q => (sb.2 it (Ne.symm hne)).trans q, hne, hai, hae⟩, fun b hb => ?_⟩
    · have e1 : ((i + 1 : Nat) : Int) = (i : Int) + 1 := by omega
      rw [e1]; exact he'
    · have hb' : b < s.heap.objs.size := by
        have e' : b = e ∨ b = it := by simpa using hb
        rcases e' with z | z
        · rw [z]; exact hel
        · rw [z]; exact hil
      rw [upd_ne (Nat.ne_of_lt hb')]
      exact (hf b hb).1
  done := by
    intro X hP hw hK hc i pins s σ H E I hf st hg
    subst hP hw hK
    obtain ⟨⟨old, he⟩, hit, hne, hai, hae⟩ := st
    obtain ⟨xs, hq, hx⟩ := hg
    obtain ⟨its, rv, p, hz⟩ := I.tuple hq
    obtain ⟨f0, f1, f2, f3, f4, f5⟩ := hf it (by simp)
    have hl := rv.length
    have hh : X.A.in1.handled = none := I.ok.hd hc
    have hT : s.TypeIs (.ref e) "enumerate" := ⟨_, he, rfl⟩
    unfold pyNext
    refine wpAny_bind (wpAny_attempt (wpAny_callSpecial?_slot (name := Str.ofString "__next__") hT F.slot_enumerate_next
      (wpAny_call_entry F.slot_enumerate_next hT F.entry_enumerate_next ?_ (F.args_enumerate_next_1 _))))
    show wpAny _ _ (field (.ref e) 2 >>= _) _ _ _
    refine wpAny_bind (wpAny_field he rfl (x := .ref it) rfl ?_)
    refine wpAny_bind (wpAny_nextOf_tuple_end (i := i) hh hit p (by simp; omega) fun h' x he' hx' => ?_)
    obtain ⟨o, ho, hc'⟩ := hx'
    refine wpAny_bind (wpAny_isInstance (T := "StopIteration") (b := true) ⟨o, ho, hc'⟩ isSubtype_stop ?_)
    exact wpAny_pure ⟨rfl, I.turned (t' := s.toks) (fun b o hb q => he' b o hb q) f0 f1 f3 f4 f5⟩
  self := fun A i s Q E st h => let ⟨⟨_, he⟩, _⟩ := st; wpAny_pyIter_enum he h
theorem walk_enumT {K : PySem.W.Frag} {a : Addr} {xs : List V} : Walk (IteT K a) xs.length (fun H => SqT K H a xs) (YPair (fun i => some (.int (i : Nat))) (fun i => xs[i]?)) := by
  refine ⟨fun i _ hi q => ⟨xs, xs[i], q, by simp [hi]⟩, fun _ q => ⟨xs, q, Nat.le_refl _⟩, fun i H v H' _ q y => ?_⟩
  obtain ⟨T, x, h1, h2, h3, h4⟩ := y
  exact ⟨T, .int (i : Nat), x, h1, h2, h3, rfl, h4 xs q⟩
def iEnumA (K : PySem.W.Frag) (te : TE) : TI := fun σ H R => te σ H fun v H1 => ∃ a xs, v = .ref a ∧ ((SqL K H1 a xs ∧ R (Ite K a) H1) ∨ (SqT K H1 a xs ∧ R (IteT K a) H1))
theorem pi_enumA {X : Cx} {e : Expr} {te : TE} {p pos tpos : Pos} {elts : List Expr} {kk : Nat} (hg : Gl X "enumerate") (hm : X.mg "enumerate" = none) (he : PE X e te) (hs : starEach [e] X.env = [(false, eval e X.env)] := by rfl) :
    PI X (.Tuple elts kk tpos) (.Call (.Name "enumerate" p) [e] [] pos) (iEnumA X.K te) := by
  refine ⟨fun pins s σ H R I h => ?_⟩
  have ha : PA X [e] (tCons te tNil) := pa_cons he pa_nil hs
  have h' : (tCons te tNil) σ H fun vs H1 => ∃ v, vs = [v] ∧ ∃ a xs, v = .ref a ∧ ((SqL X.K H1 a xs ∧ R (Ite X.K a) H1) ∨ (SqT X.K H1 a xs ∧ R (IteT X.K a) H1)) := by
    show te σ H fun x H1 => ∃ v, [x] = [v] ∧ ∃ a xs, v = .ref a ∧ ((SqL X.K H1 a xs ∧ R (Ite X.K a) H1) ∨ (SqT X.K H1 a xs ∧ R (IteT X.K a) H1))
    have m : (fun (x : V) H1 => ∃ v, [x] = [v] ∧ ∃ a xs, v = .ref a ∧ ((SqL X.K H1 a xs ∧ R (Ite X.K a) H1) ∨ (SqT X.K H1 a xs ∧ R (IteT X.K a) H1))) = (fun v H1 => ∃ a xs, v = .ref a ∧ ((SqL X.K H1 a xs ∧ R (Ite X.K a) H1) ∨ (SqT X.K H1 a xs ∧ R (IteT X.K a) H1))) := by
      funext x H1
      exact propext ⟨fun ⟨v, e, q⟩ => by cases e; exact q, fun q => ⟨x, rfl, q⟩⟩
    rw [m]
    exact h
  refine Call_ (ld_blt I hg hm boot_enumerate (PyProof.Rows.callWith_type1 (thn (ha.run pos pins s σ H _ I h') fun us s1 ⟨vs, H1, I1, r1, q1⟩ => ?_) hs rfl))
  obtain ⟨v, ex, a, xs, ev, q1⟩ := q1
  subst ex; subst ev
  cases r1 with
  | cons r rr =>
    cases rr
    cases r
    rcases q1 with ⟨hq, q⟩ | ⟨hq, q⟩
    · obtain ⟨its, rv, p', hz⟩ := I1.list hq
      refine call_enumerate_list p'.isList fun h' he hit hsz hk => wpAny_pyIter_enum he ?_
      have I2 : Inv X pins σ H1 { s1 with heap := h' } := I1.kept (t' := s1.toks) hk
      refine ⟨s1.heap.objs.size + 1, [s1.heap.objs.size + 1, s1.heap.objs.size], _, _, H1, rfl, I2, turn_enum a (s1.heap.objs.size + 1) s1.heap.objs.size, ⟨⟨.none, he⟩, hit, Nat.succ_ne_self _⟩, fun b hb => ?_, q⟩
      have e' : b = s1.heap.objs.size + 1 ∨ b = s1.heap.objs.size := by simpa using hb
      have hle : s1.heap.objs.size ≤ b := by
        rcases e' with z | z
        · rw [z]; exact Nat.le_add_right _ _
        · rw [z]; exact Nat.le_refl _
      exact I1.fpOk hle (I1.hok.fresh hle)
    · obtain ⟨its, rv, p', hz⟩ := I1.tuple hq
      have hal : a < s1.heap.objs.size := by obtain ⟨o, ho, _⟩ := id p'; exact Heap.lt_size ho
      refine vs_enum_begins (begins_tuple a its.toArray) p' fun h' he hit hsz hk => wpAny_pyIter_enum he ?_
      have I2 : Inv X pins σ H1 { s1 with heap := h' } := I1.kept (t' := s1.toks) hk
      refine ⟨s1.heap.objs.size + 1, [s1.heap.objs.size + 1, s1.heap.objs.size], _, _, H1, rfl, I2, turn_enumT a (s1.heap.objs.size + 1) s1.heap.objs.size, ⟨⟨.none, he⟩, ⟨_, hit, rfl, rfl⟩, Nat.succ_ne_self _, Nat.ne_of_lt hal, Nat.ne_of_lt (Nat.lt_succ_of_lt hal)⟩, fun b hb => ?_, q⟩
      have e' : b = s1.heap.objs.size + 1 ∨ b = s1.heap.objs.size := by simpa using hb
      have hle : s1.heap.objs.size ≤ b := by
        rcases e' with z | z
        · rw [z]; exact Nat.le_add_right _ _
        · rw [z]; exact Nat.le_refl _
      exact I1.fpOk hle (I1.hok.fresh hle)
/-- a list, a tuple or a text walked -/
def iSeq (K : PySem.W.Frag) (tl : TE) : TI := fun σ H R => tl σ H fun x H1 => (∃ a, x = .ref a ∧ (((∃ xs, SqL K H1 a xs) ∧ R (Itl K a) H1) ∨ ((∃ xs, SqT K H1 a xs) ∧ R (Itt K a) H1)))
theorem pi_seq {X : Cx} {tg l : Expr} {tl : TE} (hl : PE X l tl) : PI X tg l (iSeq X.K tl) := by
  refine ⟨fun pins s σ H R I h => ?_⟩
  refine thn (hl.run pins s σ H _ I h) fun v s1 ⟨x, H1, I1, r1, q1⟩ => ?_
  obtain ⟨a, e, q1⟩ := q1
  subst e
  cases r1
  rcases q1 with ⟨⟨xs, hq⟩, q⟩ | ⟨⟨xs, hq⟩, q⟩
  · obtain ⟨its, rv, p, hz⟩ := I1.list hq
    refine wpAny_pyIter_list p.isList ?_
    refine ⟨s1.heap.objs.size, [s1.heap.objs.size], _, _, H1, rfl, I1.kept (t' := s1.toks) fun b o e => Heap.get?_push_of_some _ e, turn_list a _, ⟨_, Heap.get?_push_size _ rfl, rfl, rfl⟩, fun b hb => ?_, q⟩
    have e : b = s1.heap.objs.size := by simpa using hb
    subst e
    exact I1.fpOk (Nat.le_refl _) (I1.hok.fresh (Nat.le_refl _))
  · obtain ⟨its, rv, p, hz⟩ := I1.tuple hq
    refine wpAny_pyIter_tuple (show s1.heap.IsTuple a its.toArray from p) ?_
    refine ⟨s1.heap.objs.size, [s1.heap.objs.size], _, _, H1, rfl, I1.kept (t' := s1.toks) fun b o e => Heap.get?_push_of_some _ e, turn_tuple a _, ⟨_, Heap.get?_push_size _ rfl, rfl, rfl⟩, fun b hb => ?_, q⟩
    have e : b = s1.heap.objs.size := by simpa using hb
    subst e
    exact I1.fpOk (Nat.le_refl _) (I1.hok.fresh (Nat.le_refl _))
def seqD : D → Option (List D)
  | .lst _ xs => some (freezes xs)
  | .tup xs => some (freezes xs)
  | .scr ns => some (ns.map .int)
  | _ => none
def itSeq (f : FE) : FI := fun ρ => (f ρ).bind fun p => (seqD p.1).bind fun xs => some (xs, p.2)
def itEnum (f : FE) : FI := fun ρ => (f ρ).bind fun p => (seqD p.1).bind fun xs => some (((intsTo 0 xs.length).zip xs).map fun q => .tup [q.1, q.2], p.2)
def rng1D : List D → Option (List D)
  | [.int j] => if -4611686018427387904 ≤ j ∧ j < 4611686018427387904 then some (intsTo 0 j.toNat) else none
  | _ => none
def rng2D : List D → Option (List D)
  | [.int i, .int j] => if -4611686018427387904 ≤ i ∧ i < 4611686018427387904 ∧ -4611686018427387904 ≤ j ∧ j < 4611686018427387904 then some (intsTo i (j - i).toNat) else none
  | _ => none
def rng3D : List D → Option (List D)
  | [.int i, .int j, .int c] => if c = -1 ∧ -4611686018427387904 ≤ i ∧ i < 4611686018427387904 ∧ -4611686018427387904 ≤ j ∧ j < 4611686018427387904 then some (intsBy i (-1) (i - j).toNat)
    else if 0 < c ∧ c < 1000000 ∧ -1000000000 ≤ i ∧ i < 1000000000 ∧ -1000000000 ≤ j ∧ j < 1000000000 then some (intsBy i c (if i < j then (j - i - 1) / c + 1 else 0).toNat) else none
  | _ => none
def itRg (rd : List D → Option (List D)) (ops : List Op) : FI := fun ρ => (evOps ops ρ).bind fun p => (fetch ops p.1 p.2).bind fun ds => (rd ds).bind fun xs => some (xs, p.2)
section
variable {K : PySem.W.Frag} {pn : Nat → Bool} {W : WX}
theorem intsTo_len (lo : Int) (n : Nat) : (intsTo lo n).length = n := by unfold intsTo; rw [List.length_map, List.length_range]
theorem reps_ints {G H : Hp} : ∀ ns : List Int, Reps K G H (ns.map V.int) (ns.map D.int) []
  | [] => .nil
  | n :: ns => Reps.cons (.int n) (reps_ints ns) fun a z => nomatch z
theorem freezes_eq : ∀ xs : List D, freezes xs = xs.map freeze
  | [] => rfl
  | x :: xs => by rw [freezes, freezes_eq xs]; rfl
/-- a value made, then frozen -/
theorem simE_frz {te : TE} {f : FE} (h : SimE K te f) {ρ : Env} {d : D} {ρ' : Env} (e : f ρ = some (d, ρ')) {σ : L2.St} {G H : Hp} {F : Nat → List Addr} (r : REnv K G H σ ρ F) (Q : VK)
    (q : ∀ v G' H' F', Tr G H (own F) G' H' (own F') → REnv K G' H' σ ρ' F' → Rep K G' H' v (freeze d) [] → Q v H') : te σ H Q :=
  h ρ d ρ' e σ G H F r Q fun v G1 H1 F1 L t1 r1 rv n1 => by
    obtain ⟨G2, t2, r2, rv2⟩ := r1.frz rv n1
    exact q v G2 H1 F1 (t1.trans t2) r2 rv2
theorem simI_seq {te : TE} {f : FE} (h : SimE K te f) : SimI K (iSeq K te) (itSeq f) := by
  intro ρ ds ρ' e σ G H F r R q
  unfold itSeq at e
  cases hf : f ρ with
  | none => rw [hf] at e; cases e
  | some p =>
    obtain ⟨d, ρ1⟩ := p
    rw [hf] at e
    have e1 : (seqD d).bind (fun xs => some (xs, ρ1)) = some (ds, ρ') := e
    cases d with
    | lst o xs =>
      cases e1
      refine simE_frz h hf r _ fun v G' H' F' t' r' rv => ?_
      cases rv with
      | lstS hs hr _ => exact ⟨_, rfl, .inl ⟨⟨_, SqL.of (r'.sub _ _ hs)⟩, q _ G' H' F' t' r' (jok_list (SqL.of hs) hr)⟩⟩
    | scr ns =>
      cases e1
      refine simE_frz h hf r _ fun v G' H' F' t' r' rv => ?_
      cases rv with
      | scr hs => exact ⟨_, rfl, .inl ⟨⟨_, Same.seq r'.sub hs⟩, q _ G' H' F' t' r' (jok_list (H0 := H') hs (reps_ints ns))⟩⟩
    | tup xs =>
      cases e1
      refine simE_frz h hf r _ fun v G' H' F' t' r' rv => ?_
      cases rv with
      | tup hs hr => exact ⟨_, rfl, .inr ⟨⟨_, Same.seqT r'.sub hs⟩, q _ G' H' F' t' r' (jok_tup hs hr)⟩⟩
    | _ => cases e1
theorem simI_enum {te : TE} {f : FE} (h : SimE K te f) : SimI K (iEnumA K te) (itEnum f) := by
  intro ρ ds ρ' e σ G H F r R q
  unfold itEnum at e
  cases hf : f ρ with
  | none => rw [hf] at e; cases e
  | some p =>
    obtain ⟨d, ρ1⟩ := p
    rw [hf] at e
    have e1 : (seqD d).bind (fun xs => some (((intsTo 0 xs.length).zip xs).map (fun q => D.tup [q.1, q.2]), ρ1)) = some (ds, ρ') := e
    have hint : ∀ (n : Nat) (i : Nat) (d : D) (x : V) (G : Hp) (H : Hp), (intsTo 0 n)[i]? = some d → some (V.int (i : Nat)) = some x → Rep K G H x d [] := fun n i d x G H hd hx => by
      have hi : i < n := by rw [← intsTo_len 0 n]; exact (List.getElem?_eq_some_iff.mp hd).1
      unfold intsTo at hd
      rw [List.getElem?_map, List.getElem?_range hi] at hd
      cases hd; cases hx
      have : (0 : Int) + (i : Nat) = (i : Nat) := Int.zero_add _
      show Rep K G H (.int ((i : Nat) : Int)) (.int (0 + ((i : Nat) : Int))) []
      rw [this]
      exact .int _
    cases d with
    | lst o xs =>
      cases e1
      refine simE_frz h hf r _ fun v G' H' F' t' r' rv => ?_
      cases rv with
      | lstS hs hr _ =>
        refine ⟨_, _, rfl, .inl ⟨SqL.of (r'.sub _ _ hs), q _ G' H' F' t' r' (jok_pair walk_enum (fun H s => SqL.of (s _ _ hs)) (by rw [intsTo_len, hr.length]) hr.length.symm (fun i d x G H hd hx _ => hint _ i d x G H hd hx) fun i d x G H hd hx s => ?_)⟩⟩
        obtain ⟨M, q1, s1⟩ := hr.get0 hx hd
        have : M = [] := List.eq_nil_iff_forall_not_mem.mpr fun a ha => nomatch s1 a ha
        subst this
        exact q1.far s
    | scr ns =>
      cases e1
      refine simE_frz h hf r _ fun v G' H' F' t' r' rv => ?_
      cases rv with
      | scr hs =>
        have hr := reps_ints (K := K) (G := G') (H := H') ns
        refine ⟨_, _, rfl, .inl ⟨Same.seq r'.sub hs, q _ G' H' F' t' r' (jok_pair walk_enum (fun H s => Same.seq s hs) (by rw [intsTo_len, hr.length]) hr.length.symm (fun i d x G H hd hx _ => hint _ i d x G H hd hx) fun i d x G H hd hx s => ?_)⟩⟩
        obtain ⟨M, q1, s1⟩ := hr.get0 hx hd
        have : M = [] := List.eq_nil_iff_forall_not_mem.mpr fun a ha => nomatch s1 a ha
        subst this
        exact q1.far s
    | tup xs =>
      cases e1
      refine simE_frz h hf r _ fun v G' H' F' t' r' rv => ?_
      cases rv with
      | tup hs hr =>
        refine ⟨_, _, rfl, .inr ⟨Same.seqT r'.sub hs, q _ G' H' F' t' r' (jok_pair walk_enumT (fun H s => Same.seqT s hs) (by rw [intsTo_len, hr.length]) hr.length.symm (fun i d x G H hd hx _ => hint _ i d x G H hd hx) fun i d x G H hd hx s => ?_)⟩⟩
        obtain ⟨M, q1, s1⟩ := hr.get0 hx hd
        have : M = [] := List.eq_nil_iff_forall_not_mem.mpr fun a ha => nomatch s1 a ha
        subst this
        exact q1.far s
    | _ => cases e1
theorem simI_rngs {ta : TA} {ops : List Op} {rd : List D → Option (List D)} {w : List V → Hp → (It → Hp → Prop) → Prop} (h : SimA K ta ops)
    (hw : ∀ G H vs ds xs R, RepL K G H vs ds → rd ds = some xs → (∀ J, JOk K J G xs → R J H) → w vs H R) :
    SimI K (fun σ H R => ta σ H fun vs H1 => w vs H1 R) (itRg rd ops) := by
  intro ρ ds ρ' e σ G H F r R q
  unfold itRg at e
  cases he : evOps ops ρ with
  | none => rw [he] at e; cases e
  | some p =>
    obtain ⟨ts, ρ1⟩ := p
    rw [he] at e
    have e1 : (fetch ops ts ρ1).bind (fun ds => (rd ds).bind fun xs => some (xs, ρ1)) = some (ds, ρ') := e
    cases hf : fetch ops ts ρ1 with
    | none => rw [hf] at e1; cases e1
    | some es =>
      rw [hf] at e1
      have e2 : (rd es).bind (fun xs => some (xs, ρ1)) = some (ds, ρ') := e1
      cases hr : rd es with
      | none => rw [hr] at e2; cases e2
      | some xs =>
        rw [hr] at e2; cases e2
        refine h ρ ts ρ' he σ G H F r _ fun vs G1 H1 F1 M t1 r1 ok n1 => ?_
        exact hw G1 H1 vs es _ R (ok.get r1 hf) hr fun J jo => q J G1 H1 F1 (t1.post fun a h => .inl h) r1 jo
theorem simI_rng1 {ta : TA} {ops : List Op} (h : SimA K ta ops) : SimI K (iRng1 ta) (itRg rng1D ops) := by
  refine simI_rngs (w := fun vs H1 R => ∃ j : Int, vs = [.int j] ∧ -(2 ^ 62) ≤ j ∧ j < 2 ^ 62 ∧ R (Itr 0 j.toNat) H1) h fun G H vs ds xs R rl hr q => ?_
  unfold rng1D at hr
  split at hr
  · cases rl with
    | cons r1 rr =>
      cases rr; cases r1
      split at hr
      · rename_i hb
        cases hr
        exact ⟨_, rfl, by omega, by omega, q _ jok_range⟩
      · cases hr
  · cases hr
theorem simI_rng2 {ta : TA} {ops : List Op} (h : SimA K ta ops) : SimI K (iRng2 ta) (itRg rng2D ops) := by
  refine simI_rngs (w := fun vs H1 R => ∃ i j : Int, vs = [.int i, .int j] ∧ (-(2 ^ 62) ≤ i ∧ i < 2 ^ 62 ∧ -(2 ^ 62) ≤ j ∧ j < 2 ^ 62) ∧ R (Itr i (j - i).toNat) H1) h fun G H vs ds xs R rl hr q => ?_
  unfold rng2D at hr
  split at hr
  · cases rl with
    | cons r1 rr =>
      cases rr with
      | cons r2 rr =>
        cases rr; cases r1; cases r2
        split at hr
        · rename_i hb
          cases hr
          exact ⟨_, _, rfl, ⟨by omega, by omega, by omega, by omega⟩, q _ jok_range⟩
        · cases hr
  · cases hr
theorem rgC_pos {i j c : Int} (h0 : 0 < c) (h1 : c < 1000000) (h2 : -1000000000 ≤ i) (h3 : i < 1000000000) (h4 : -1000000000 ≤ j) (h5 : j < 1000000000) : RgC i j c (if i < j then (j - i - 1) / c + 1 else 0).toNat := by
  have hs : Builtin.Range.rangeSize i j c = (if i < j then (j - i - 1) / c + 1 else 0) := by
    unfold Builtin.Range.rangeSize; rw [if_pos h0]
  have hnn : 0 ≤ (if i < j then (j - i - 1) / c + 1 else 0) := by
    split
    · have := Int.ediv_nonneg (a := j - i - 1) (b := c) (by omega) (by omega)
      omega
    · exact Int.le_refl _
  have hub : (if i < j then (j - i - 1) / c + 1 else 0) ≤ 2000000000 := by
    split
    · have := Int.ediv_le_self (a := j - i - 1) c (by omega)
      omega
    · omega
  refine ⟨by omega, by omega, ?_, by rw [hs]; omega⟩
  unfold Builtin.Range.small
  rw [hs]
  simp only [Builtin.Range.rangeFitsLong, Bool.and_eq_true, Bool.or_eq_true, decide_eq_true_eq, beq_iff_eq, show c > 0 from h0, if_true]
  refine ⟨⟨⟨⟨⟨by omega, by omega⟩, by omega, by omega⟩, by omega, by omega⟩, ?_, ?_⟩, .inr ⟨by omega, by omega⟩⟩ <;> omega
theorem simI_rng3 {ta : TA} {ops : List Op} (h : SimA K ta ops) : SimI K (iRng3 ta) (itRg rng3D ops) := by
  refine simI_rngs (w := fun vs H1 R => ∃ (i j c : Int) (n : Nat), vs = [.int i, .int j, .int c] ∧ RgC i j c n ∧ R (Itc i c n) H1) h fun G H vs ds xs R rl hr q => ?_
  unfold rng3D at hr
  split at hr
  · cases rl with
    | cons r1 rr =>
      cases rr with
      | cons r2 rr =>
        cases rr with
        | cons r3 rr =>
          cases rr; cases r1; cases r2; cases r3
          split at hr
          · rename_i hb
            cases hr
            obtain ⟨rfl, b1, b2, b3, b4⟩ := hb
            exact ⟨_, _, _, _, rfl, RgC.neg (by omega) (by omega) (by omega) (by omega), q _ jok_rangeC⟩
          · split at hr
            · rename_i hb
              cases hr
              obtain ⟨b0, b1, b2, b3, b4, b5⟩ := hb
              exact ⟨_, _, _, _, rfl, rgC_pos b0 b1 b2 b3 b4 b5, q _ jok_rangeC⟩
            · cases hr
  · cases hr
end
section
variable {X : Cx} {tg e e2 : Expr} {es : List Expr} {p pos tpos : Pos} {elts : List Expr} {kk : Nat}
theorem pif_seq {f : FE} (h : PEf X e f) : PIf X tg e (itSeq f) := .mk (pi_seq h) (simI_seq (simE_of f))
theorem pif_enum {f : FE} (hg : Gl X "enumerate") (hm : X.mg "enumerate" = none) (h : PEf X e f) (hs : starEach [e] X.env = [(false, eval e X.env)] := by rfl) : PIf X (.Tuple elts kk tpos) (.Call (.Name "enumerate" p) [e] [] pos) (itEnum f) := .mk (pi_enumA hg hm h hs) (simI_enum (simE_of f))
theorem pif_rng1 {o : Op} {a : Expr} (hg : Gl X "range") (hm : X.mg "range" = none) (ha : PAf X [a] [o]) (hs : starEach [a] X.env = [(false, eval a X.env)] := by rfl) : PIf X tg (.Call (.Name "range" p) [a] [] pos) (itRg rng1D [o]) := .mk (pi_range1 hg hm ha hs) (simI_rng1 (simA_of _))
theorem pif_rng2 {a b : Expr} {ops : List Op} (hg : Gl X "range") (hm : X.mg "range" = none) (ha : PAf X [a, b] ops) (hs : starEach [a, b] X.env = [(false, eval a X.env), (false, eval b X.env)] := by rfl) (hs2 : starEach [b] X.env = [(false, eval b X.env)] := by rfl) : PIf X tg (.Call (.Name "range" p) [a, b] [] pos) (itRg rng2D ops) := .mk (pi_range2 hg hm ha hs hs2) (simI_rng2 (simA_of _))
theorem pif_rng3 {a b c : Expr} {ops : List Op} (hg : Gl X "range") (hm : X.mg "range" = none) (ha : PAf X [a, b, c] ops) (hs : starEach [a, b, c] X.env = (false, eval a X.env) :: starEach [b, c] X.env := by rfl) (hpl : (backTo pos (starEach [b, c] X.env)).any (·.1) = false := by rfl) : PIf X tg (.Call (.Name "range" p) [a, b, c] [] pos) (itRg rng3D ops) := .mk (pi_range3 hg hm ha hs hpl) (simI_rng3 (simA_of _))
end
end VS
set_option Elab.async false
set_option linter.all false
set_option maxRecDepth 100000
namespace VS
open PySem PySem.Spec PyProof.Rows L2
/-! ### values by cases -/
section
variable {K : PySem.W.Frag} {G H G' H' : Hp}
theorem Rep.lstInv {v : V} {o : Bool} {xs : List D} {L : List Addr} (h : Rep K G H v (.lst o xs) L) (s : Same G H) : ∃ a vs M, v = .ref a ∧ H a = some (.lst vs) ∧ Reps K G H vs xs M ∧ ∀ x ∈ M, x ∈ L := by
  cases h with
  | lstS hs hr e => exact ⟨_, _, _, rfl, s _ _ hs, hr, fun x h => h⟩
  | lstO hg hh hn hr => exact ⟨_, _, _, rfl, hh, hr, fun x h => List.mem_cons_of_mem _ h⟩
theorem Rep.tupInv {v : V} {xs : List D} {L : List Addr} (h : Rep K G H v (.tup xs) L) (s : Same G H) : ∃ a vs, v = .ref a ∧ SqT K H a vs ∧ Reps K G H vs xs L := by
  cases h with
  | tup hs hr => exact ⟨_, _, rfl, Same.seqT s hs, hr⟩
theorem Reps.to0 {vs : List V} {xs : List D} {L : List Addr} (h : Reps K G H vs xs L) (n : noOwns xs = true) : Reps K G H vs xs [] := by
  have := h.noL n
  subst this
  exact h
theorem Reps.cons0 {v : V} {d : D} {vs : List V} {ds : List D} (h : Rep K G H v d []) (r : Reps K G H vs ds []) : Reps K G H (v :: vs) (d :: ds) [] := Reps.cons h r fun a z => nomatch z
theorem Reps.uncons {v : V} {d : D} {vs : List V} {ds : List D} {L : List Addr} (h : Reps K G H (v :: vs) (d :: ds) L) (e : L = []) : Rep K G H v d [] ∧ Reps K G H vs ds [] := by
  cases h with
  | cons h r n =>
    obtain ⟨e1, e2⟩ := List.append_eq_nil_iff.mp e
    subst e1; subst e2
    exact ⟨h, r⟩
theorem Reps.append0 : ∀ {vs us : List V} {xs ys : List D}, Reps K G H vs xs [] → Reps K G H us ys [] → Reps K G H (vs ++ us) (xs ++ ys) []
  | [], us, xs, ys, h, r => by cases h; exact r
  | v :: vs, us, [], ys, h, r => by cases h
  | v :: vs, us, x :: xs, ys, h, r => by
    obtain ⟨h1, h2⟩ := h.uncons rfl
    exact Reps.cons0 h1 (h2.append0 r)
theorem Reps.take0 : ∀ {vs : List V} {xs : List D} (n : Nat), Reps K G H vs xs [] → Reps K G H (vs.take n) (xs.take n) []
  | vs, xs, 0, h => .nil
  | [], xs, n + 1, h => by cases h; exact .nil
  | v :: vs, [], n + 1, h => by cases h
  | v :: vs, x :: xs, n + 1, h => by
    obtain ⟨h1, h2⟩ := h.uncons rfl
    exact Reps.cons0 h1 (h2.take0 n)
theorem Reps.drop0 : ∀ {vs : List V} {xs : List D} (n : Nat), Reps K G H vs xs [] → Reps K G H (vs.drop n) (xs.drop n) []
  | vs, xs, 0, h => h
  | [], xs, n + 1, h => by cases h; exact .nil
  | v :: vs, [], n + 1, h => by cases h
  | v :: vs, x :: xs, n + 1, h => (h.uncons rfl).2.drop0 n
theorem Reps.reverse0 : ∀ {vs : List V} {xs : List D}, Reps K G H vs xs [] → Reps K G H vs.reverse xs.reverse []
  | [], xs, h => by cases h; exact .nil
  | v :: vs, [], h => by cases h
  | v :: vs, x :: xs, h => by
    obtain ⟨h1, h2⟩ := h.uncons rfl
    rw [List.reverse_cons, List.reverse_cons]
    exact h2.reverse0.append0 (Reps.cons0 h1 .nil)
theorem Reps.rep0 {vs : List V} {xs : List D} (h : Reps K G H vs xs []) : ∀ n : Nat, Reps K G H (List.replicate n vs).flatten (List.replicate n xs).flatten []
  | 0 => .nil
  | n + 1 => by
    rw [List.replicate_succ, List.replicate_succ, List.flatten_cons, List.flatten_cons]
    exact h.append0 (h.rep0 n)
theorem Reps.get1 {vs : List V} {xs : List D} {L : List Addr} {i : Nat} {d : D} (h : Reps K G H vs xs L) (e : xs[i]? = some d) (n : noOwn d = true) : ∃ v, vs[i]? = some v ∧ Rep K G H v d [] := by
  have hl := h.length
  have hi : i < vs.length := by rw [hl]; exact (List.getElem?_eq_some_iff.mp e).1
  obtain ⟨M, q, _⟩ := h.get0 (List.getElem?_eq_getElem hi) e
  have := q.noL n
  subst this
  exact ⟨_, List.getElem?_eq_getElem hi, q⟩
/-- a new list, a new tuple, as what an operation leaves -/
theorem new_lst {p : Addr} {vs : List V} {xs : List D} (s : Same G H) (hp : H p = none) (r : Reps K G H vs xs []) : Tr G H (fun _ => False) G (upd H p (.lst vs)) (fun a => a ∈ [p]) ∧ Rep K G (upd H p (.lst vs)) (.ref p) (.lst true xs) [p] := by
  have t := Tr.newO (A := fun _ => False) (o := .lst vs) s hp
  refine ⟨t.post fun a h => .inr (by simpa using h), .lstO (s.free hp) upd_same List.not_mem_nil (r.far (Same.refl _))⟩
theorem new_tup {p : Addr} {vs : List V} {xs : List D} (s : Same G H) (hp : H p = none) (r : Reps K G H vs xs []) : ∃ G', Tr G H (fun _ => False) G' (upd H p (.tup vs)) (fun a => a ∈ ([] : List Addr)) ∧ Rep K G' (upd H p (.tup vs)) (.ref p) (.tup xs) [] := by
  have t := Tr.newG (A := fun _ => False) (o := .tup vs) s hp
  exact ⟨_, t.post fun a h => (by cases h), .tup (.inl (.inl upd_same)) (r.far t.g)⟩
theorem fin0 {v : V} {d : D} {Q : VK} (s : Same G H) (r : Rep K G H v d []) (q : ∀ v G' H' L, Tr G H (fun _ => False) G' H' (fun a => a ∈ L) → Rep K G' H' v d L → Q v H') : Q v H := q v G H [] ((Tr.refl s).post fun a h => (by cases h)) r
theorem RepL.one {vs : List V} {d : D} (h : RepL K G H vs [d]) : ∃ v L, vs = [v] ∧ Rep K G H v d L := by
  cases h with
  | cons h r => cases r; exact ⟨_, _, rfl, h⟩
theorem RepL.two {vs : List V} {d e : D} (h : RepL K G H vs [d, e]) : ∃ v u L M, vs = [v, u] ∧ Rep K G H v d L ∧ Rep K G H u e M := by
  cases h with
  | cons h r =>
    obtain ⟨u, M, rfl, h2⟩ := r.one
    exact ⟨_, _, _, _, rfl, h, h2⟩
end
/-! ### + -/
section
variable {X : Cx}
def rAddA (K : PySem.W.Frag) : R2 := fun x y H Q => rI0 (fun i j => .int (i + j)) x y H Q ∨ ((∃ i j, x = .str i ∧ y = .str j ∧ i.length + j.length ≤ sizeLine ∧ Q (.str (i ++ j)) H) ∨ (rCat x y H Q ∨ rCatA K x y H Q))
theorem op_addA : OpR X (binaryOp .Add) (rAddA X.K) := op_add.or (op_add_str.or (op_cat.or op_catA))
end
def addD : List D → Option D
  | [.int a, .int b] => some (.int (a + b))
  | [.str a, .str b] => if a.length + b.length ≤ smallL then some (.str (a ++ b)) else none
  | [.lst _ xs, .lst _ ys] => if noOwns xs = true ∧ noOwns ys = true ∧ xs.length + ys.length ≤ smallL then some (.lst true (xs ++ ys)) else none
  | [.tup xs, .tup ys] => if noOwns xs = true ∧ noOwns ys = true ∧ xs.length + ys.length ≤ smallL then some (.tup (xs ++ ys)) else none
  | _ => none
section
variable {K : PySem.W.Frag}
theorem vok_add : VOk K (r2L (rAddA K)) addD := by
  intro G H vs ds d s rl e Q q
  unfold addD at e
  split at e
  · obtain ⟨v, u, L, M, rfl, r1, r2⟩ := rl.two
    cases e; cases r1; cases r2
    exact .inl ⟨_, _, rfl, rfl, fin0 s (.int _) q⟩
  · obtain ⟨v, u, L, M, rfl, r1, r2⟩ := rl.two
    split at e
    · rename_i hz
      cases e; cases r1; cases r2
      exact .inr (.inl ⟨_, _, rfl, rfl, small_line hz, fin0 s (.str _) q⟩)
    · cases e
  · obtain ⟨v, u, L, M, rfl, r1, r2⟩ := rl.two
    split at e
    · rename_i hz
      cases e
      obtain ⟨a, vs, L1, rfl, h1, h2, _⟩ := r1.lstInv s
      obtain ⟨b, us, L2, rfl, h3, h4, _⟩ := r2.lstInv s
      refine .inr (.inr (.inl ⟨a, b, vs, us, rfl, rfl, h1, h3, by rw [h2.length, h4.length]; exact small_line hz.2.2, fun p hp => ?_⟩))
      obtain ⟨t, r⟩ := new_lst s hp ((h2.to0 hz.1).append0 (h4.to0 hz.2.1))
      exact q _ _ _ _ t r
    · cases e
  · obtain ⟨v, u, L, M, rfl, r1, r2⟩ := rl.two
    split at e
    · rename_i hz
      cases e
      obtain ⟨a, vs, rfl, h1, h2⟩ := r1.tupInv s
      obtain ⟨b, us, rfl, h3, h4⟩ := r2.tupInv s
      have q2 := h2.to0 hz.1
      have q4 := h4.to0 hz.2.1
      have e1 : L = [] := h2.noL hz.1
      have e2 : M = [] := h4.noL hz.2.1
      subst e1; subst e2
      refine .inr (.inr (.inr ⟨a, b, vs, us, rfl, rfl, h1, h3, by rw [h2.length, h4.length]; exact small_line hz.2.2, fun ez => ?_, fun _ ez => ?_, fun _ _ p hp => ?_⟩))
      · subst ez
        have := q2.length
        have : ‹List D› = ‹List D› := rfl
        cases q2
        exact fin0 s r2 q
      · subst ez
        cases q4
        rw [List.append_nil] at q
        exact fin0 s r1 q
      · obtain ⟨G', t, r⟩ := new_tup s hp (q2.append0 q4)
        exact q _ _ _ _ t r
    · cases e
  · cases e
/-! ### the other operators of ints -/
def subD : List D → Option D
  | [.int a, .int b] => some (.int (a - b))
  | _ => none
theorem vok_sub : VOk K (r2L (rI0 fun i j => .int (i - j))) subD := by
  intro G H vs ds d s rl e Q q
  unfold subD at e
  split at e
  · obtain ⟨v, u, L, M, rfl, r1, r2⟩ := rl.two
    cases e; cases r1; cases r2
    exact ⟨_, _, rfl, rfl, fin0 s (.int _) q⟩
  · cases e
def mulOk (i j : Int) : Bool := decide (-18446744073709551616 < i ∧ i < 18446744073709551616) || decide (-18446744073709551616 < j ∧ j < 18446744073709551616) || decide (i.natAbs.log2 + j.natAbs.log2 < 1000000)
theorem mulOk_ok {i j : Int} (h : mulOk i j = true) : IntMulOk i j := by
  unfold mulOk at h
  simp only [Bool.or_eq_true, decide_eq_true_eq] at h
  rcases h with (h | h) | h
  · exact CMul.ok (.inl (by omega))
  · exact CMul.ok (.inr (by omega))
  · exact CMulW.ok h
def rMulI : R2 := rI (fun i j => mulOk i j = true) (fun i j => .int (i * j))
def rMulA (K : PySem.W.Frag) : R2 := fun x y H Q => rMulI x y H Q ∨ (rRep x y H Q ∨ rRepT K x y H Q)
section
variable {X : Cx}
theorem op_mulI : OpR X (binaryOp .Mult) rMulI := opI fun _ _ _ _ _ _ _ hc q => mul_int q (mulOk_ok hc)
theorem op_mulA : OpR X (binaryOp .Mult) (rMulA X.K) := op_mulI.or (op_rep.or op_repT)
end
def mulD : List D → Option D
  | [.int a, .int b] => if mulOk a b = true then some (.int (a * b)) else none
  | [.lst _ xs, .int k] => if noOwns xs = true ∧ -1000000 ≤ k ∧ k ≤ 1000000 ∧ xs.length * k.toNat ≤ smallL then some (.lst true (List.replicate k.toNat xs).flatten) else none
  | _ => none
theorem vok_mul : VOk K (r2L (rMulA K)) mulD := by
  intro G H vs ds d s rl e Q q
  unfold mulD at e
  split at e
  · obtain ⟨v, u, L, M, rfl, r1, r2⟩ := rl.two
    split at e
    · rename_i hz
      cases e; cases r1; cases r2
      exact .inl ⟨_, _, rfl, rfl, hz, fin0 s (.int _) q⟩
    · cases e
  · obtain ⟨v, u, L, M, rfl, r1, r2⟩ := rl.two
    split at e
    · rename_i hz
      cases e; cases r2
      obtain ⟨a, vs, L1, rfl, h1, h2, _⟩ := r1.lstInv s
      obtain ⟨z1, z2, z3, z4⟩ := hz
      refine .inr (.inl ⟨a, _, vs, rfl, rfl, h1, by omega, by omega, by rw [h2.length]; exact small_line z4, fun p hp => ?_⟩)
      obtain ⟨t, r⟩ := new_lst s hp ((h2.to0 z1).rep0 _)
      exact q _ _ _ _ t r
    · cases e
  · cases e
def fdivOk (j : Int) : Bool := decide (j ≠ 0 ∧ j.natAbs < 1073741824) || decide (0 < j ∧ j.natAbs.log2 < 9000)
def rFdiv : R2 := rI (fun _ j => fdivOk j = true) fun i j => .int (i.fdiv j)
theorem op_fdivA {X : Cx} : OpR X (binaryOp .FloorDiv) rFdiv := opI fun i j _ _ _ _ _ hc q => by
  unfold fdivOk at hc
  simp only [Bool.or_eq_true, decide_eq_true_eq] at hc
  rcases hc with h | h
  · exact floordiv_int h.1 q (.inl (PyProof.noPylong_small h.2))
  · exact floordiv_int (by omega) q (.inl (PyProof.noPylong_of_log2 h.2))
def fdivD : List D → Option D
  | [.int a, .int b] => if fdivOk b = true then some (.int (a.fdiv b)) else none
  | _ => none
theorem vok_fdiv : VOk K (r2L rFdiv) fdivD := by
  intro G H vs ds d s rl e Q q
  unfold fdivD at e
  split at e
  · obtain ⟨v, u, L, M, rfl, r1, r2⟩ := rl.two
    split at e
    · rename_i hz
      cases e; cases r1; cases r2
      exact ⟨_, _, rfl, rfl, hz, fin0 s (.int _) q⟩
    · cases e
  · cases e
def modD : List D → Option D
  | [.int a, .int b] => if b ≠ 0 then some (.int (a.fmod b)) else none
  | _ => none
theorem vok_mod : VOk K (r2L (rI (fun _ j => j ≠ 0) fun i j => .int (i.fmod j))) modD := by
  intro G H vs ds d s rl e Q q
  unfold modD at e
  split at e
  · obtain ⟨v, u, L, M, rfl, r1, r2⟩ := rl.two
    split at e
    · rename_i hz
      cases e; cases r1; cases r2
      exact ⟨_, _, rfl, rfl, hz, fin0 s (.int _) q⟩
    · cases e
  · cases e
def powOk (a n : Int) : Bool := decide (0 ≤ n) && decide ((Builtin.Int.intBits a : Int) * n ≤ 134217728)
def rPow : R2 := rI (fun i j => powOk i j = true) fun i j => .int (i ^ j.toNat)
theorem op_powA {X : Cx} : OpR X (binaryOp .Pow) rPow := opI fun i j _ _ _ _ _ hc q => by
  unfold powOk at hc
  simp only [Bool.and_eq_true, decide_eq_true_eq] at hc
  exact pow_int hc.1 (by have := hc.2; omega) q
def powD : List D → Option D
  | [.int a, .int b] => if powOk a b = true then some (.int (a ^ b.toNat)) else none
  | _ => none
theorem vok_pow : VOk K (r2L rPow) powD := by
  intro G H vs ds d s rl e Q q
  unfold powD at e
  split at e
  · obtain ⟨v, u, L, M, rfl, r1, r2⟩ := rl.two
    split at e
    · rename_i hz
      cases e; cases r1; cases r2
      exact ⟨_, _, rfl, rfl, hz, fin0 s (.int _) q⟩
    · cases e
  · cases e
def negD : List D → Option D
  | [.int a] => some (.int (-a))
  | _ => none
theorem vok_neg : VOk K (r1L (rU fun i => .int (-i))) negD := by
  intro G H vs ds d s rl e Q q
  unfold negD at e
  split at e
  · obtain ⟨v, L, rfl, r1⟩ := rl.one
    cases e; cases r1
    exact ⟨_, rfl, fin0 s (.int _) q⟩
  · cases e
end
end VS
set_option Elab.async false
set_option linter.all false
set_option maxRecDepth 100000
namespace VS
open PySem PySem.Spec PyProof.Rows L2
/-! ### == and its like -/
mutual
def pyD : D → PyData
  | .non => .none
  | .bl b => .bool b
  | .int i => .int i
  | .str s => .str s
  | .tup xs => .tuple (pyDs xs)
  | .lst _ xs => .list (pyDs xs)
  | .scr ns => .list (ns.map .int)
  | .ty _ => .none
  | .exc _ _ => .none
  | .dct _ _ => .none
def pyDs : List D → List PyData
  | [] => []
  | x :: r => pyD x :: pyDs r
end
mutual
def noTy : D → Bool
  | .ty _ => false
  | .exc _ _ => false
  | .dct _ _ => false
  | .tup xs => noTys xs
  | .lst _ xs => noTys xs
  | _ => true
def noTys : List D → Bool
  | [] => true
  | x :: r => noTy x && noTys r
end
def eqOk (d : D) : Bool := noTy d && SeqAt.shaped (pyD d)
section
variable {K : PySem.W.Frag} {G H : Hp}
theorem dpAll_ints : ∀ ns : List Int, DpAll K H (ns.map V.int) (ns.map PyData.int)
  | [] => .nil
  | n :: ns => .cons (.int n) (dpAll_ints ns)
mutual
theorem Rep.dp {v : V} {d : D} {L : List Addr} (s : Same G H) (r : Rep K G H v d L) (h : noTy d = true) : Dp K H v (pyD d) := by
  cases r with
  | non => exact .non
  | bl b => exact .bl b
  | int i => exact .int i
  | str x => exact .str x
  | ty n => cases h
  | exc _ _ _ _ => cases h
  | dctS _ => cases h
  | dctO _ _ => cases h
  | scr q => exact .lst (Same.seq s q) (dpAll_ints _)
  | tup q r => exact .tup (Same.seqT s q) (Reps.dp s r h)
  | lstS q r e => exact .lst (SqL.of (s _ _ q)) (Reps.dp s r h)
  | lstO _ q _ r => exact .lst (SqL.of q) (Reps.dp s r h)
theorem Reps.dp {vs : List V} {ds : List D} {L : List Addr} (s : Same G H) (r : Reps K G H vs ds L) (h : noTys ds = true) : DpAll K H vs (pyDs ds) := by
  cases r with
  | nil => exact .nil
  | cons q r n =>
    simp only [noTys, Bool.and_eq_true] at h
    exact .cons (Rep.dp s q h.1) (Reps.dp s r h.2)
end
end
def deq (x y : D) : Bool := PyData.eqv (pyD x) (pyD y)
def eqD : List D → Option D
  | [x, y] => if eqOk x = true ∧ eqOk y = true then some (.bl (deq x y)) else none
  | _ => none
def neD : List D → Option D
  | [x, y] => if eqOk x = true ∧ eqOk y = true then some (.bl (!deq x y)) else none
  | _ => none
theorem eqOk_split {d : D} (h : eqOk d = true) : noTy d = true ∧ SeqAt.shaped (pyD d) = true := by
  unfold eqOk at h
  exact Bool.and_eq_true_iff.mp h
section
variable {K : PySem.W.Frag}
theorem vok_eq : VOk K (r2L (rEqD K)) eqD := by
  intro G H vs ds d s rl e Q q
  unfold eqD at e
  split at e
  · obtain ⟨v, u, L, M, rfl, r1, r2⟩ := rl.two
    split at e
    · rename_i hz
      cases e
      obtain ⟨a1, a2⟩ := eqOk_split hz.1
      obtain ⟨b1, b2⟩ := eqOk_split hz.2
      exact ⟨_, _, r1.dp s a1, r2.dp s b1, a2, b2, fin0 s (.bl _) q⟩
    · cases e
  · cases e
theorem vok_ne : VOk K (r2L (rNeD K)) neD := by
  intro G H vs ds d s rl e Q q
  unfold neD at e
  split at e
  · obtain ⟨v, u, L, M, rfl, r1, r2⟩ := rl.two
    split at e
    · rename_i hz
      cases e
      obtain ⟨a1, a2⟩ := eqOk_split hz.1
      obtain ⟨b1, b2⟩ := eqOk_split hz.2
      exact ⟨_, _, r1.dp s a1, r2.dp s b1, a2, b2, fin0 s (.bl _) q⟩
    · cases e
  · cases e
/-! order of ints -/
def cmpD (p : Int → Int → Bool) : List D → Option D
  | [.int a, .int b] => some (.bl (p a b))
  | _ => none
theorem vok_cmp {p : Int → Int → Bool} : VOk K (r2L (rI0 fun i j => .bl (p i j))) (cmpD p) := by
  intro G H vs ds d s rl e Q q
  unfold cmpD at e
  split at e
  · obtain ⟨v, u, L, M, rfl, r1, r2⟩ := rl.two
    cases e; cases r1; cases r2
    exact ⟨_, _, rfl, rfl, fin0 s (.bl _) q⟩
  · cases e
def ltD := cmpD fun i j => decide (i < j)
def leD := cmpD fun i j => decide (i ≤ j)
def gtD := cmpD fun i j => decide (j < i)
def geD := cmpD fun i j => decide (j ≤ i)
theorem vok_lt : VOk K (r2L (rI0 fun i j => .bl (decide (i < j)))) ltD := vok_cmp
theorem vok_le : VOk K (r2L (rI0 fun i j => .bl (decide (i ≤ j)))) leD := vok_cmp
theorem vok_gt : VOk K (r2L (rI0 fun i j => .bl (decide (j < i)))) gtD := vok_cmp
theorem vok_ge : VOk K (r2L (rI0 fun i j => .bl (decide (j ≤ i)))) geD := vok_cmp
/-! is None; is of bools, of a bool and something else -/
def isNon : D → Bool
  | .non => true
  | _ => false
def isNonD : List D → Option D
  | [x, .non] => some (.bl (isNon x))
  | _ => none
def notNonD : List D → Option D
  | [x, .non] => some (.bl (!isNon x))
  | _ => none
theorem Rep.isNon {G H : Hp} {v : V} {d : D} {L : List Addr} (r : Rep K G H v d L) : decide (v = .non) = VS.isNon d := by
  cases r <;> rfl
theorem vok_isNon : VOk K (r2L (fun x y H Q => y = .non ∧ Q (.bl (decide (x = .non))) H)) isNonD := by
  intro G H vs ds d s rl e Q q
  unfold isNonD at e
  split at e
  · obtain ⟨v, u, L, M, rfl, r1, r2⟩ := rl.two
    cases e; cases r2
    refine ⟨rfl, ?_⟩
    rw [r1.isNon]
    exact fin0 s (.bl _) q
  · cases e
theorem vok_notNon : VOk K (r2L (fun x y H Q => y = .non ∧ Q (.bl (!decide (x = .non))) H)) notNonD := by
  intro G H vs ds d s rl e Q q
  unfold notNonD at e
  split at e
  · obtain ⟨v, u, L, M, rfl, r1, r2⟩ := rl.two
    cases e; cases r2
    refine ⟨rfl, ?_⟩
    rw [r1.isNon]
    exact fin0 s (.bl _) q
  · cases e
/-! x[i] -/
def ixD : List D → Option D
  | [.lst _ xs, .int i] => (atI xs i).bind fun d => if noOwn d = true then some d else none
  | [.tup xs, .int i] => (atI xs i).bind fun d => if noOwn d = true then some d else none
  | [.scr ns, .int i] => (atI ns i).bind fun d => some (.int d)
  | [.str z, .int i] => if z.length ≤ smallL then (atI z.cps.toList i).bind fun c => some (.str ⟨#[c]⟩) else none
  | _ => none
theorem atI_len {α β : Type} {xs : List α} {ys : List β} (h : xs.length = ys.length) {i : Int} {y : β} (e : atI ys i = some y) : ∃ j, ixN xs.length i = some j ∧ ys[j]? = some y := by
  unfold atI at e
  rw [← h] at e
  cases hj : ixN xs.length i with
  | none => rw [hj] at e; cases e
  | some j => rw [hj] at e; exact ⟨j, rfl, e⟩
theorem atI_of {α : Type} {xs : List α} {i : Int} {j : Nat} {x : α} (h : ixN xs.length i = some j) (e : xs[j]? = some x) : atI xs i = some x := by
  unfold atI
  rw [h]
  exact e
theorem vok_ix : VOk K (r2L (rIx K)) ixD := by
  intro G H vs ds d s rl e Q q
  unfold ixD at e
  split at e
  · obtain ⟨v, u, L, M, rfl, r1, r2⟩ := rl.two
    rename_i xs i
    cases hx : atI xs i with
    | none => rw [hx] at e; cases e
    | some d0 =>
      rw [hx] at e
      have e1 : (if noOwn d0 = true then some d0 else none) = some d := e
      split at e1
      · rename_i hn
        cases e1; cases r2
        obtain ⟨a, vs, L1, rfl, h1, h2, _⟩ := r1.lstInv s
        obtain ⟨j, hj, hd⟩ := atI_len h2.length hx
        obtain ⟨w, hw, hr⟩ := h2.get1 hd hn
        exact .inl ⟨a, vs, _, w, rfl, rfl, SqL.of h1, atI_of hj hw, fin0 s hr q⟩
      · cases e1
  · obtain ⟨v, u, L, M, rfl, r1, r2⟩ := rl.two
    rename_i xs i
    cases hx : atI xs i with
    | none => rw [hx] at e; cases e
    | some d0 =>
      rw [hx] at e
      have e1 : (if noOwn d0 = true then some d0 else none) = some d := e
      split at e1
      · rename_i hn
        cases e1; cases r2
        obtain ⟨a, vs, rfl, h1, h2⟩ := r1.tupInv s
        obtain ⟨j, hj, hd⟩ := atI_len h2.length hx
        obtain ⟨w, hw, hr⟩ := h2.get1 hd hn
        exact .inr (.inl ⟨a, vs, _, w, rfl, rfl, h1, atI_of hj hw, fin0 s hr q⟩)
      · cases e1
  · obtain ⟨v, u, L, M, rfl, r1, r2⟩ := rl.two
    rename_i ns i
    cases hx : atI ns i with
    | none => rw [hx] at e; cases e
    | some d0 =>
      rw [hx] at e
      cases e; cases r2
      cases r1 with
      | scr h1 =>
        rename_i a
        obtain ⟨j, hj, hd⟩ := atI_len (xs := ns.map V.int) (by rw [List.length_map]) hx
        exact .inl ⟨a, _, _, .int d0, rfl, rfl, Same.seq s h1, atI_of hj (by rw [List.getElem?_map, hd]; rfl), fin0 s (.int _) q⟩
  · obtain ⟨v, u, L, M, rfl, r1, r2⟩ := rl.two
    rename_i z i
    split at e
    · rename_i hz
      cases hx : atI z.cps.toList i with
      | none => rw [hx] at e; cases e
      | some c =>
        rw [hx] at e
        cases e; cases r2; cases r1
        exact .inr (.inr ⟨_, _, c, rfl, rfl, small_line hz, hx, fin0 s (.str _) q⟩)
    · cases e
  · cases e
/-! len, list(), tuple() -/
def lenD : List D → Option D
  | [.lst _ xs] => some (.int (xs.length : Nat))
  | [.tup xs] => some (.int (xs.length : Nat))
  | [.scr ns] => some (.int (ns.length : Nat))
  | _ => none
theorem vok_len : VOk K (fun xs H Q => ∃ p ys, xs = [.ref p] ∧ (SqL K H p ys ∨ SqT K H p ys) ∧ Q (.int ys.length) H) lenD := by
  intro G H vs ds d s rl e Q q
  unfold lenD at e
  split at e
  · obtain ⟨v, L, rfl, r1⟩ := rl.one
    cases e
    obtain ⟨a, vs, L1, rfl, h1, h2, _⟩ := r1.lstInv s
    exact ⟨a, vs, rfl, .inl (SqL.of h1), by rw [h2.length]; exact fin0 s (.int _) q⟩
  · obtain ⟨v, L, rfl, r1⟩ := rl.one
    cases e
    obtain ⟨a, vs, rfl, h1, h2⟩ := r1.tupInv s
    exact ⟨a, vs, rfl, .inr h1, by rw [h2.length]; exact fin0 s (.int _) q⟩
  · obtain ⟨v, L, rfl, r1⟩ := rl.one
    cases e
    cases r1 with
    | scr h1 => exact ⟨_, _, rfl, .inl (Same.seq s h1), by rw [List.length_map]; exact fin0 s (.int _) q⟩
  · cases e
def lenStrD : List D → Option D
  | [.str z] => if z.length ≤ smallL then some (.int (z.length : Nat)) else none
  | _ => none
def listD : List D → Option D
  | [.lst _ xs] => if noOwns xs = true then some (.lst true xs) else none
  | [.tup xs] => if noOwns xs = true then some (.lst true xs) else none
  | _ => none
theorem vok_list : VOk K (fun xs H Q => ∃ p ys, xs = [.ref p] ∧ (SqL K H p ys ∨ SqT K H p ys) ∧ ∀ l, H l = none → Q (.ref l) (upd H l (.lst ys))) listD := by
  intro G H vs ds d s rl e Q q
  unfold listD at e
  split at e
  · obtain ⟨v, L, rfl, r1⟩ := rl.one
    split at e
    · rename_i hn
      cases e
      obtain ⟨a, vs, L1, rfl, h1, h2, _⟩ := r1.lstInv s
      refine ⟨a, vs, rfl, .inl (SqL.of h1), fun p hp => ?_⟩
      obtain ⟨t, r⟩ := new_lst s hp (h2.to0 hn)
      exact q _ _ _ _ t r
    · cases e
  · obtain ⟨v, L, rfl, r1⟩ := rl.one
    split at e
    · rename_i hn
      cases e
      obtain ⟨a, vs, rfl, h1, h2⟩ := r1.tupInv s
      refine ⟨a, vs, rfl, .inr h1, fun p hp => ?_⟩
      obtain ⟨t, r⟩ := new_lst s hp (h2.to0 hn)
      exact q _ _ _ _ t r
    · cases e
  · cases e
def tupleD : List D → Option D
  | [.lst _ xs] => if noOwns xs = true then some (.tup xs) else none
  | [.tup xs] => if noOwns xs = true then some (.tup xs) else none
  | _ => none
theorem vok_tuple : VOk K (fun xs H Q => ∃ p ys, xs = [.ref p] ∧ ((SqL K H p ys ∧ ∀ l, H l = none → Q (.ref l) (upd H l (.tup ys))) ∨ (SqT K H p ys ∧ Q (.ref p) H))) tupleD := by
  intro G H vs ds d s rl e Q q
  unfold tupleD at e
  split at e
  · obtain ⟨v, L, rfl, r1⟩ := rl.one
    split at e
    · rename_i hn
      cases e
      obtain ⟨a, vs, L1, rfl, h1, h2, _⟩ := r1.lstInv s
      refine ⟨a, vs, rfl, .inl ⟨SqL.of h1, fun p hp => ?_⟩⟩
      obtain ⟨G', t, r⟩ := new_tup s hp (h2.to0 hn)
      exact q _ _ _ _ t r
    · cases e
  · obtain ⟨v, L, rfl, r1⟩ := rl.one
    split at e
    · rename_i hn
      cases e
      have e0 := r1.noL (d := .tup _) hn
      subst e0
      obtain ⟨a, vs, rfl, h1, h2⟩ := r1.tupInv s
      exact ⟨a, vs, rfl, .inr ⟨h1, fin0 s r1 q⟩⟩
    · cases e
  · cases e
/-! int(), max, min, abs -/
def intD : List D → Option D
  | [.int i] => some (.int i)
  | [.bl b] => some (.int (if b then 1 else 0))
  | _ => none
theorem vok_int : VOk K (fun xs H Q => (∃ i, xs = [.int i] ∧ Q (.int i) H) ∨ ∃ k, xs = [.bl k] ∧ Q (.int (if k then 1 else 0)) H) intD := by
  intro G H vs ds d s rl e Q q
  unfold intD at e
  split at e
  · obtain ⟨v, L, rfl, r1⟩ := rl.one
    cases e; cases r1
    exact .inl ⟨_, rfl, fin0 s (.int _) q⟩
  · obtain ⟨v, L, rfl, r1⟩ := rl.one
    cases e; cases r1
    exact .inr ⟨_, rfl, fin0 s (.int _) q⟩
  · cases e
def absD : List D → Option D
  | [.int i] => some (.int (if i < 0 then -i else i))
  | _ => none
theorem vok_abs : VOk K (fun xs H Q => ∃ i, xs = [.int i] ∧ Q (.int (if i < 0 then -i else i)) H) absD := by
  intro G H vs ds d s rl e Q q
  unfold absD at e
  split at e
  · obtain ⟨v, L, rfl, r1⟩ := rl.one
    cases e; cases r1
    exact ⟨_, rfl, fin0 s (.int _) q⟩
  · cases e
def max2D : List D → Option D
  | [.int i, .int j] => some (.int (if j > i then j else i))
  | _ => none
def min2D : List D → Option D
  | [.int i, .int j] => some (.int (if j < i then j else i))
  | _ => none
theorem vok_max2 : VOk K (fun xs H Q => ∃ i j, xs = [.int i, .int j] ∧ Q (.int (if j > i then j else i)) H) max2D := by
  intro G H vs ds d s rl e Q q
  unfold max2D at e
  split at e
  · obtain ⟨v, u, L, M, rfl, r1, r2⟩ := rl.two
    cases e; cases r1; cases r2
    exact ⟨_, _, rfl, fin0 s (.int _) q⟩
  · cases e
theorem vok_min2 : VOk K (fun xs H Q => ∃ i j, xs = [.int i, .int j] ∧ Q (.int (if j < i then j else i)) H) min2D := by
  intro G H vs ds d s rl e Q q
  unfold min2D at e
  split at e
  · obtain ⟨v, u, L, M, rfl, r1, r2⟩ := rl.two
    cases e; cases r1; cases r2
    exact ⟨_, _, rfl, fin0 s (.int _) q⟩
  · cases e
end
end VS
set_option Elab.async false
set_option linter.all false
set_option maxRecDepth 100000
namespace VS
open PySem PySem.Spec PyProof.Rows L2
/-! ### slices -/
def rSlX (K : PySem.W.Frag) : V → Option Int → Option Int → Hp → VK → Prop := fun x lo hi H Q => rSlL K x lo hi H Q ∨ rSlA K x lo hi H Q
theorem sl_x {X : Cx} : SlR X (rSlX X.K) := sl_list.or sl_tupA
def cutD (xs : List D) (lo hi : Option Int) : List D := (xs.drop (HT.sIx xs.length 0 lo)).take (HT.sIx xs.length xs.length hi - HT.sIx xs.length 0 lo)
def cutOf (lo hi : Option Int) : D → Option D
  | .lst _ xs => if noOwns xs = true then some (.lst true (cutD xs lo hi)) else none
  | .tup xs => if noOwns xs = true then some (.tup (cutD xs lo hi)) else none
  | _ => none
/-- the parts of a slice that are written, as operands -/
def partD (wl wh : Bool) : List D → Option D
  | [x] => if wl = false ∧ wh = false then cutOf none none x else none
  | [x, .int i] => if wl = true ∧ wh = false then cutOf (some i) none x else if wl = false ∧ wh = true then cutOf none (some i) x else none
  | [x, .int i, .int j] => if wl = true ∧ wh = true then cutOf (some i) (some j) x else none
  | _ => none
section
variable {K : PySem.W.Frag}
theorem cut_ok {G H : Hp} {x : V} {d d' : D} {L : List Addr} {lo hi : Option Int} {Q : VK} (s : Same G H) (r : Rep K G H x d L) (e : cutOf lo hi d = some d')
    (q : ∀ v G' H' L, Tr G H (fun _ => False) G' H' (fun a => a ∈ L) → Rep K G' H' v d' L → Q v H') : rSlX K x lo hi H Q := by
  cases d with
  | lst o xs =>
    have e' : (if noOwns xs = true then some (D.lst true (cutD xs lo hi)) else none) = some d' := e
    split at e'
    · rename_i hn
      cases e'
      obtain ⟨a, vs, L1, rfl, h1, h2, _⟩ := r.lstInv s
      refine .inl ⟨a, vs, rfl, SqL.of h1, fun p hp => ?_⟩
      have h0 := h2.to0 hn
      have h3 : Reps K G H (cutV vs lo hi) (cutD xs lo hi) [] := by
        unfold cutV cutD
        rw [h0.length]
        exact (h0.drop0 _).take0 _
      obtain ⟨t, rr⟩ := new_lst s hp h3
      exact q _ _ _ _ t rr
    · cases e'
  | tup xs =>
    have e' : (if noOwns xs = true then some (D.tup (cutD xs lo hi)) else none) = some d' := e
    split at e'
    · rename_i hn
      cases e'
      have e0 := r.noL (d := .tup xs) hn
      subst e0
      obtain ⟨a, vs, rfl, h1, h2⟩ := r.tupInv s
      have hl := h2.length
      refine .inr ⟨a, vs, rfl, h1, fun hw => ?_, fun hw p hp => ?_⟩
      · rw [hl] at hw
        have : cutD xs lo hi = xs := by
          unfold cutD
          rw [hw.1, hw.2, List.drop_zero, Nat.sub_zero, List.take_length]
        rw [this] at q
        exact fin0 s r q
      · have h3 : Reps K G H (cutV vs lo hi) (cutD xs lo hi) [] := by
          unfold cutV cutD
          rw [hl]
          exact (h2.drop0 _).take0 _
        obtain ⟨G', t, rr⟩ := new_tup s hp h3
        exact q _ _ _ _ t rr
    · cases e'
  | _ => cases e
theorem vok_sl0 : VOk K (fun vs H Q => match vs with | [x] => rSlX K x none none H Q | _ => False) (partD false false) := by
  intro G H vs ds d s rl e Q q
  unfold partD at e
  split at e
  · obtain ⟨v, L, rfl, r1⟩ := rl.one
    rw [if_pos ⟨rfl, rfl⟩] at e
    exact cut_ok s r1 e q
  · rw [if_neg (by simp), if_neg (by simp)] at e; cases e
  · rw [if_neg (by simp)] at e; cases e
  · cases e
theorem vok_slL : VOk K (fun vs H Q => match vs with | [x, y] => ∃ i, y = .int i ∧ rSlX K x (some i) none H Q | _ => False) (partD true false) := by
  intro G H vs ds d s rl e Q q
  unfold partD at e
  split at e
  · rw [if_neg (by simp)] at e; cases e
  · obtain ⟨v, u, L, M, rfl, r1, r2⟩ := rl.two
    rw [if_pos ⟨rfl, rfl⟩] at e
    cases r2
    exact ⟨_, rfl, cut_ok s r1 e q⟩
  · rw [if_neg (by simp)] at e; cases e
  · cases e
theorem vok_slH : VOk K (fun vs H Q => match vs with | [x, y] => ∃ i, y = .int i ∧ rSlX K x none (some i) H Q | _ => False) (partD false true) := by
  intro G H vs ds d s rl e Q q
  unfold partD at e
  split at e
  · rw [if_neg (by simp)] at e; cases e
  · obtain ⟨v, u, L, M, rfl, r1, r2⟩ := rl.two
    rw [if_neg (by simp), if_pos ⟨rfl, rfl⟩] at e
    cases r2
    exact ⟨_, rfl, cut_ok s r1 e q⟩
  · rw [if_neg (by simp)] at e; cases e
  · cases e
theorem vok_slB : VOk K (fun vs H Q => match vs with | [x, y, z] => ∃ i j, y = .int i ∧ z = .int j ∧ rSlX K x (some i) (some j) H Q | _ => False) (partD true true) := by
  intro G H vs ds d s rl e Q q
  unfold partD at e
  split at e
  · rw [if_neg (by simp)] at e; cases e
  · rw [if_neg (by simp), if_neg (by simp)] at e; cases e
  · rw [if_pos ⟨rfl, rfl⟩] at e
    cases rl with
    | cons r1 rl =>
      obtain ⟨v, u, L, M, rfl, r2, r3⟩ := rl.two
      cases r2; cases r3
      exact ⟨_, _, rfl, rfl, cut_ok s r1 e q⟩
  · cases e
end
section
variable {X : Cx} {e a b : Expr} {p2 pos : Pos}
theorem pf_sl0 {o : Op} (h : POf X e o) : PEf X (.Subscript e (.Slice none none none p2) pos) (opF (partD false false) [o]) := by
  obtain ⟨te, p1, s1⟩ := h.ex
  exact .mk (pe_slice sl_x p1 po_none po_none) (simE_op (simA_cons s1 simA_nil) vok_sl0)
theorem pf_slL {o oa : Op} (h : POf X e o) (ha : POf X a oa) : PEf X (.Subscript e (.Slice (some a) none none p2) pos) (opF (partD true false) [o, oa]) := by
  obtain ⟨te, p1, s1⟩ := h.ex
  obtain ⟨ta, p3, s3⟩ := ha.ex
  exact .mk (pe_slice sl_x p1 (po_some p3) po_none) (simE_op (simA_cons s1 (simA_cons s3 simA_nil)) vok_slL)
theorem pf_slH {o oa : Op} (h : POf X e o) (ha : POf X a oa) : PEf X (.Subscript e (.Slice none (some a) none p2) pos) (opF (partD false true) [o, oa]) := by
  obtain ⟨te, p1, s1⟩ := h.ex
  obtain ⟨ta, p3, s3⟩ := ha.ex
  exact .mk (pe_slice sl_x p1 po_none (po_some p3)) (simE_op (simA_cons s1 (simA_cons s3 simA_nil)) vok_slH)
theorem simE_eta {K : PySem.W.Frag} {t u : TE} {f : FE} (h : SimE K t f) (e : ∀ σ H Q, t σ H Q → u σ H Q) : SimE K u f := fun ρ d ρ' ee σ G H F r Q q => e σ H Q (h ρ d ρ' ee σ G H F r Q q)
end
/-! ### list(range(..)) -/
def rRg : List V → Hp → VK → Prop := fun vs H Q => ∃ (i j c : Int) (n : Nat), (vs = [.int j] ∧ i = 0 ∧ c = 1 ∨ vs = [.int i, .int j] ∧ c = 1 ∨ vs = [.int i, .int j, .int c]) ∧ RgC i j c n ∧ n ≤ 2 ^ 24 ∧ ∀ q, H q = none → Q (.ref q) (upd H q (.lst ((List.range n).map fun k => V.int (i + (k : Nat) * c))))
theorem vals_rgC {a c : Int} {n : Nat} {acc : Array Value} (h : ItemsOf (fun i v => ∃ t, v = .int (a + i * c) t) acc n) : Vals ((List.range n).map fun k => V.int (a + (k : Nat) * c)) acc.toList := by
  have e : acc.toList.length = n := by rw [Array.length_toList]; exact h.1
  rw [← e]
  refine vals_of_get acc.toList _ fun j u hj => ?_
  obtain ⟨t, rfl⟩ := h.2 j u (by rw [← hj, Array.getElem?_toList])
  exact ⟨t, rfl⟩
section
variable {X : Cx} {a b c : Expr} {ta : TA} {p p2 pos pos2 : Pos}
/-- range(..), then list of it -/
theorem list_of_rg {pins : List (Addr × Obj)} {σ : L2.St} {H1 : Hp} {s1 : Shared} {Q : VK} {i j k : Int} {n : Nat} {t u v : Tok} {tk : Nat} (hc : X.calm = true) (I1 : Inv X pins σ H1 s1) (h : RgC i j k n) (hn : n ≤ 2 ^ 24)
    (q : ∀ q, H1 q = none → Q (.ref q) (upd H1 q (.lst ((List.range n).map fun m => V.int (i + (m : Nat) * k))))) :
    wpAny (model X.prog X.w) X.A (call (.type "list") [.ref s1.heap.objs.size]) (EP X pins σ Q) X.xe { s1 with heap := s1.heap.push { cls := .type "range", data := .fields #[.int i t, .int j u, .int k v] }, toks := tk } := by
  obtain ⟨c0, c1, c2, c3⟩ := h
  have I2 : Inv X pins σ H1 { s1 with heap := s1.heap.push { cls := .type "range", data := .fields #[.int i t, .int j u, .int k v] }, toks := tk } := I1.kept (t' := tk) fun b o e => Heap.get?_push_of_some _ e
  refine call_list_range (n := n) (I2.ok.hd hc) (IsRange.new _ _ _ _ _ _ _) c2 c3 hn fun h' tk' acc c' hk e' hi => ?_
  refine ⟨.ref _, upd H1 _ (.lst ((List.range n).map fun m => V.int (i + (m : Nat) * k))), I2.laid hk (Nat.le_refl _) (show ObjOk X.prog X.w _ _ _ (.lst _) from ⟨?_, acc.toList, c', vals_rgC hi, ?_⟩), rfl, q _ (I2.hok.fresh (Nat.le_refl _))⟩
  · rw [List.length_map, List.length_range, sizeLine_eq]; omega
  · rw [Array.toArray_toList]; exact e'
theorem pe_lrg1 (hc : X.calm = true) (hgl : Gl X "list") (hml : X.mg "list" = none) (hg : Gl X "range") (hm : X.mg "range" = none) (ha : PA X [a] ta) (hs : starEach [a] X.env = [(false, eval a X.env)] := by rfl)
    (hs2 : starEach [Expr.Call (.Name "range" p) [a] [] pos] X.env = [(false, eval (Expr.Call (.Name "range" p) [a] [] pos) X.env)] := by rfl) :
    PE X (.Call (.Name "list" p2) [.Call (.Name "range" p) [a] [] pos] [] pos2) (fun σ H Q => ta σ H fun vs H1 => vs.length = 1 ∧ rRg vs H1 Q) := by
  refine ⟨fun pins s σ H Q I h => ?_⟩
  refine Call_ (ld_blt I hgl hml boot_list (PyProof.Rows.callWith_type1 (args_cons ?_ hs2) hs2))
  refine Call_ (ld_blt I hg hm boot_range (PyProof.Rows.callWith_type1 (thn (ha.run pos pins s σ H _ I h) fun us s1 ⟨vs, H1, I1, r1, q1⟩ => ?_) hs rfl))
  obtain ⟨hl, i, j, k, n, hv, hr, hn, q⟩ := q1
  rcases hv with ⟨e, rfl, rfl⟩ | ⟨e, _⟩ | e
  · subst e
    cases r1 with
    | cons r rr =>
      cases rr
      obtain ⟨t, rfl⟩ := r
      exact call_range_1 (args_nil (list_of_rg hc I1 hr hn q))
  · subst e; cases hl
  · subst e; cases hl
theorem pe_lrg2 (hc : X.calm = true) (hgl : Gl X "list") (hml : X.mg "list" = none) (hg : Gl X "range") (hm : X.mg "range" = none) (ha : PA X [a, b] ta) (hs : starEach [a, b] X.env = [(false, eval a X.env), (false, eval b X.env)] := by rfl) (hs3 : starEach [b] X.env = [(false, eval b X.env)] := by rfl)
    (hs2 : starEach [Expr.Call (.Name "range" p) [a, b] [] pos] X.env = [(false, eval (Expr.Call (.Name "range" p) [a, b] [] pos) X.env)] := by rfl) :
    PE X (.Call (.Name "list" p2) [.Call (.Name "range" p) [a, b] [] pos] [] pos2) (fun σ H Q => ta σ H fun vs H1 => vs.length = 2 ∧ rRg vs H1 Q) := by
  refine ⟨fun pins s σ H Q I h => ?_⟩
  refine Call_ (ld_blt I hgl hml boot_list (PyProof.Rows.callWith_type1 (args_cons ?_ hs2) hs2))
  refine Call_ (ld_blt I hg hm boot_range (PyProof.Rows.callWith_type1 (thn (ha.run pos pins s σ H _ I h) fun us s1 ⟨vs, H1, I1, r1, q1⟩ => ?_) (by rw [hs, hs3]) (by rw [hs3]; rfl)))
  obtain ⟨hl, i, j, k, n, hv, hr, hn, q⟩ := q1
  rcases hv with ⟨e, rfl, rfl⟩ | ⟨e, rfl⟩ | e
  · subst e; cases hl
  · subst e
    cases r1 with
    | cons r rr =>
      cases rr with
      | cons r' rr =>
        cases rr
        obtain ⟨t, rfl⟩ := r
        obtain ⟨t', rfl⟩ := r'
        exact call_range_2 (args_nil (list_of_rg hc I1 hr hn q))
  · subst e; cases hl
theorem pe_lrg3 (hc : X.calm = true) (hgl : Gl X "list") (hml : X.mg "list" = none) (hg : Gl X "range") (hm : X.mg "range" = none) (ha : PA X [a, b, c] ta) (hs : starEach [a, b, c] X.env = (false, eval a X.env) :: starEach [b, c] X.env := by rfl) (hpl : (backTo pos (starEach [b, c] X.env)).any (·.1) = false := by rfl)
    (hs2 : starEach [Expr.Call (.Name "range" p) [a, b, c] [] pos] X.env = [(false, eval (Expr.Call (.Name "range" p) [a, b, c] [] pos) X.env)] := by rfl) :
    PE X (.Call (.Name "list" p2) [.Call (.Name "range" p) [a, b, c] [] pos] [] pos2) (fun σ H Q => ta σ H fun vs H1 => vs.length = 3 ∧ rRg vs H1 Q) := by
  refine ⟨fun pins s σ H Q I h => ?_⟩
  refine Call_ (ld_blt I hgl hml boot_list (PyProof.Rows.callWith_type1 (args_cons ?_ hs2) hs2))
  refine Call_ (ld_blt I hg hm boot_range (PyProof.Rows.callWith_type1 (thn (ha.run pos pins s σ H _ I h) fun us s1 ⟨vs, H1, I1, r1, q1⟩ => ?_) hs hpl))
  obtain ⟨hl, i, j, k, n, hv, hr, hn, q⟩ := q1
  rcases hv with ⟨e, rfl, rfl⟩ | ⟨e, rfl⟩ | e
  · subst e; cases hl
  · subst e; cases hl
  · subst e
    cases r1 with
    | cons r rr =>
      cases rr with
      | cons r' rr =>
        cases rr with
        | cons r'' rr =>
          cases rr
          obtain ⟨t, rfl⟩ := r
          obtain ⟨t', rfl⟩ := r'
          obtain ⟨t'', rfl⟩ := r''
          exact call_range_3 hr.1 (args_nil (list_of_rg hc I1 hr hn q)) (.inl (PyProof.noPylong_small hr.2.1))
end
def lrgD (rd : List D → Option (List D)) : List D → Option D := fun ds => (rd ds).bind fun xs => if xs.length ≤ smallL then some (.lst true xs) else none
section
variable {K : PySem.W.Frag}
theorem reps_by {G H : Hp} (lo c : Int) (n : Nat) : Reps K G H ((List.range n).map fun k => V.int (lo + (k : Nat) * c)) (intsBy lo c n) [] := by
  unfold intsBy
  have : ∀ l : List Nat, Reps K G H (l.map fun k => V.int (lo + (k : Nat) * c)) (l.map fun i => D.int (lo + (i : Nat) * c)) [] := fun l => by
    induction l with
    | nil => exact .nil
    | cons x l ih => exact Reps.cons (.int _) ih fun a z => nomatch z
  exact this _
theorem intsBy_len (lo c : Int) (n : Nat) : (intsBy lo c n).length = n := by unfold intsBy; rw [List.length_map, List.length_range]
theorem intsTo_by (lo : Int) (n : Nat) : intsTo lo n = intsBy lo 1 n := by
  unfold intsTo intsBy
  congr 1
  funext i
  rw [Int.mul_one]
theorem lrg_fin {G H : Hp} {Q : VK} {d : D} {vs : List V} {i j c : Int} {n : Nat} (s : Same G H) (hv : vs = [.int j] ∧ i = 0 ∧ c = 1 ∨ vs = [.int i, .int j] ∧ c = 1 ∨ vs = [.int i, .int j, .int c]) (hr : RgC i j c n)
    (e : (if (intsBy i c n).length ≤ smallL then some (D.lst true (intsBy i c n)) else none) = some d) (q : ∀ v G' H' L, Tr G H (fun _ => False) G' H' (fun a => a ∈ L) → Rep K G' H' v d L → Q v H') : rRg vs H Q := by
  split at e
  · rename_i hz
    cases e
    rw [intsBy_len] at hz
    refine ⟨i, j, c, n, hv, hr, Nat.le_trans hz (by decide), fun p hp => ?_⟩
    obtain ⟨t, r⟩ := new_lst s hp (reps_by (K := K) (G := G) (H := H) i c n)
    exact q _ _ _ _ t r
  · cases e
theorem rgC_one {i j : Int} (h1 : -4611686018427387904 ≤ i) (h2 : i < 4611686018427387904) (h3 : -4611686018427387904 ≤ j) (h4 : j < 4611686018427387904) : RgC i j 1 (j - i).toNat :=
  ⟨by decide, by decide, small_one (by omega) (by omega) (by omega) (by omega), rangeSize_nat i j⟩
theorem vok_lrg1 : VOk K (fun vs H Q => vs.length = 1 ∧ rRg vs H Q) (lrgD rng1D) := by
  intro G H vs ds d s rl e Q q
  unfold lrgD rng1D at e
  split at e
  · obtain ⟨v, L, rfl, r1⟩ := rl.one
    cases r1
    split at e
    · rename_i hb
      have e' : (if (intsTo 0 _).length ≤ smallL then some (D.lst true (intsTo 0 _)) else none) = some d := e
      rw [intsTo_by] at e'
      refine ⟨rfl, lrg_fin s (.inl ⟨rfl, rfl, rfl⟩) ?_ e' q⟩
      have := rgC_one (i := 0) (by omega) (by omega) hb.1 hb.2
      rw [Int.sub_zero] at this
      exact this
    · cases e
  · cases e
theorem vok_lrg2 : VOk K (fun vs H Q => vs.length = 2 ∧ rRg vs H Q) (lrgD rng2D) := by
  intro G H vs ds d s rl e Q q
  unfold lrgD rng2D at e
  split at e
  · obtain ⟨v, u, L, M, rfl, r1, r2⟩ := rl.two
    cases r1; cases r2
    split at e
    · rename_i hb
      have e' : (if (intsTo _ _).length ≤ smallL then some (D.lst true (intsTo _ _)) else none) = some d := e
      rw [intsTo_by] at e'
      exact ⟨rfl, lrg_fin s (.inr (.inl ⟨rfl, rfl⟩)) (rgC_one hb.1 hb.2.1 hb.2.2.1 hb.2.2.2) e' q⟩
    · cases e
  · cases e
theorem vok_lrg3 : VOk K (fun vs H Q => vs.length = 3 ∧ rRg vs H Q) (lrgD rng3D) := by
  intro G H vs ds d s rl e Q q
  unfold lrgD rng3D at e
  split at e
  · cases rl with
    | cons r0 rl =>
      obtain ⟨v, u, L, M, rfl, r1, r2⟩ := rl.two
      cases r0; cases r1; cases r2
      split at e
      · rename_i hb
        obtain ⟨rfl, b1, b2, b3, b4⟩ := hb
        exact ⟨rfl, lrg_fin s (.inr (.inr rfl)) (RgC.neg (by omega) (by omega) (by omega) (by omega)) e q⟩
      · split at e
        · rename_i hb
          obtain ⟨b0, b1, b2, b3, b4, b5⟩ := hb
          exact ⟨rfl, lrg_fin s (.inr (.inr rfl)) (rgC_pos b0 b1 b2 b3 b4 b5) e q⟩
        · cases e
  · cases e
end
section
variable {X : Cx} {a b c : Expr} {p p2 pos pos2 : Pos} {ops : List Op}
theorem pf_lrg1 (hc : X.calm = true) (hgl : Gl X "list") (hml : X.mg "list" = none) (hg : Gl X "range") (hm : X.mg "range" = none) (ha : PAf X [a] ops) (hs : starEach [a] X.env = [(false, eval a X.env)] := by rfl)
    (hs2 : starEach [Expr.Call (.Name "range" p) [a] [] pos] X.env = [(false, eval (Expr.Call (.Name "range" p) [a] [] pos) X.env)] := by rfl) : PEf X (.Call (.Name "list" p2) [.Call (.Name "range" p) [a] [] pos] [] pos2) (opF (lrgD rng1D) ops) := .mk (pe_lrg1 hc hgl hml hg hm ha hs hs2) (simE_op (simA_of _) vok_lrg1)
theorem pf_lrg2 (hc : X.calm = true) (hgl : Gl X "list") (hml : X.mg "list" = none) (hg : Gl X "range") (hm : X.mg "range" = none) (ha : PAf X [a, b] ops) (hs : starEach [a, b] X.env = [(false, eval a X.env), (false, eval b X.env)] := by rfl) (hs3 : starEach [b] X.env = [(false, eval b X.env)] := by rfl)
    (hs2 : starEach [Expr.Call (.Name "range" p) [a, b] [] pos] X.env = [(false, eval (Expr.Call (.Name "range" p) [a, b] [] pos) X.env)] := by rfl) : PEf X (.Call (.Name "list" p2) [.Call (.Name "range" p) [a, b] [] pos] [] pos2) (opF (lrgD rng2D) ops) := .mk (pe_lrg2 hc hgl hml hg hm ha hs hs3 hs2) (simE_op (simA_of _) vok_lrg2)
theorem pf_lrg3 (hc : X.calm = true) (hgl : Gl X "list") (hml : X.mg "list" = none) (hg : Gl X "range") (hm : X.mg "range" = none) (ha : PAf X [a, b, c] ops) (hs : starEach [a, b, c] X.env = (false, eval a X.env) :: starEach [b, c] X.env := by rfl) (hpl : (backTo pos (starEach [b, c] X.env)).any (·.1) = false := by rfl)
    (hs2 : starEach [Expr.Call (.Name "range" p) [a, b, c] [] pos] X.env = [(false, eval (Expr.Call (.Name "range" p) [a, b, c] [] pos) X.env)] := by rfl) : PEf X (.Call (.Name "list" p2) [.Call (.Name "range" p) [a, b, c] [] pos] [] pos2) (opF (lrgD rng3D) ops) := .mk (pe_lrg3 hc hgl hml hg hm ha hs hpl hs2) (simE_op (simA_of _) vok_lrg3)
end
end VS
set_option Elab.async false
set_option linter.all false
set_option maxRecDepth 100000
namespace VS
open PySem PySem.Spec PyProof.Rows L2
/-! ### methods of lists -/
def appD : List D → List D → Option (D × List D) := fun xs ds => match ds with
  | [d] => if xs.length < smallL then some (.non, xs ++ [d]) else none
  | _ => none
def popD : List D → List D → Option (D × List D) := fun xs ds => match ds with
  | [] => (xs[xs.length - 1]?).bind fun d => some (d, xs.eraseIdx (xs.length - 1))
  | _ => none
def popAtD : List D → List D → Option (D × List D) := fun xs ds => match ds with
  | [.int i] => if -1000000000 ≤ i ∧ i < 1000000000 then (ixN xs.length i).bind fun k => (xs[k]?).bind fun d => some (d, xs.eraseIdx k) else none
  | _ => none
def insD : List D → List D → Option (D × List D) := fun xs ds => match ds with
  | [.int i, d] => if 0 ≤ i ∧ i < 1000000 ∧ noOwns xs = true ∧ noOwn d = true ∧ xs.length < smallL then some (.non, xs.take i.toNat ++ [d] ++ xs.drop i.toNat) else none
  | _ => none
def revD : List D → List D → Option (D × List D) := fun xs ds => match ds with
  | [] => if noOwns xs = true then some (.non, xs.reverse) else none
  | _ => none
section
variable {K : PySem.W.Frag} {G H : Hp}
theorem Reps.erase : ∀ {vs : List V} {xs : List D} {L : List Addr} {k : Nat} {d : D}, Reps K G H vs xs L → xs[k]? = some d → ∃ v M N, vs[k]? = some v ∧ Rep K G H v d M ∧ Reps K G H (vs.eraseIdx k) (xs.eraseIdx k) N ∧ (∀ a ∈ M, a ∈ L) ∧ (∀ a ∈ N, a ∈ L) ∧ (∀ a ∈ N, a ∉ M)
  | _, _, _, k, d, .nil, e => by simp at e
  | _, _, _, 0, d, .cons (L := L) (M := M) h r n, e => by
    simp at e; subst e
    exact ⟨_, L, M, rfl, h, r, fun a ha => List.mem_append_left _ ha, fun a ha => List.mem_append_right _ ha, fun a ha hm => n a hm ha⟩
  | _, _, _, k + 1, d, .cons (v := v0) (L := L) (M := M) h r n, e => by
    obtain ⟨v, M1, N1, h1, h2, h3, h4, h5, h6⟩ := r.erase (k := k) (by simpa using e)
    refine ⟨v, M1, L ++ N1, by simpa using h1, h2, .cons h h3 fun a ha hm => n a ha (h5 a hm), fun a ha => List.mem_append_right _ (h4 a ha), fun a ha => ?_, fun a ha => ?_⟩
    · rcases List.mem_append.mp ha with z | z
      · exact List.mem_append_left _ z
      · exact List.mem_append_right _ (h5 a z)
    · rcases List.mem_append.mp ha with z | z
      · exact fun hm => n a z (h4 a hm)
      · exact h6 a z
theorem eraseIdx_last {α : Type} : ∀ xs : List α, xs.eraseIdx (xs.length - 1) = xs.dropLast
  | [] => rfl
  | [x] => rfl
  | x :: y :: r => by
    have ih := eraseIdx_last (y :: r)
    show x :: (y :: r).eraseIdx (r.length) = x :: (y :: r).dropLast
    rw [← ih]
    rfl
end
section
variable {K : PySem.W.Frag}
theorem mok_app : MOk K rAppend appD := by
  intro G H a vs us xs ds L M d xs' s hG hH hr hrs nLM e Q q
  unfold appD at e
  split at e
  · rename_i d0
    split at e
    · rename_i hz
      cases e
      cases hrs with
      | cons hv rr nn =>
        cases rr
        rename_i v L1
        rw [List.append_nil] at nLM q
        refine ⟨a, vs, v, rfl, rfl, hH, ?_, q .non (vs ++ [v]) (L ++ L1) [] (hr.snoc hv nLM) .non (fun b hb => List.mem_append.mp hb) (fun b hb => (by cases hb)) (fun b _ hb => (by cases hb))⟩
        rw [hr.length]
        exact Nat.lt_of_lt_of_le hz (by decide)
    · cases e
  · cases e
theorem mok_pop : MOk K rPop popD := by
  intro G H a vs us xs ds L M d xs' s hG hH hr hrs nLM e Q q
  unfold popD at e
  split at e
  · cases hx : xs[xs.length - 1]? with
    | none => rw [hx] at e; cases e
    | some d0 =>
      rw [hx] at e; cases e
      cases hrs
      obtain ⟨v, M1, N1, h1, h2, h3, h4, h5, h6⟩ := hr.erase hx
      have hl := hr.length
      rw [← hl] at h1 h3
      refine ⟨a, vs, v, rfl, rfl, hH, h1, ?_⟩
      rw [← eraseIdx_last]
      rw [hl] at h3 ⊢
      exact q v _ N1 M1 h3 h2 (fun b hb => .inl (h5 b hb)) (fun b hb => .inl (h4 b hb)) h6
  · cases e
theorem mok_popAt : MOk K rPopAt popAtD := by
  intro G H a vs us xs ds L M d xs' s hG hH hr hrs nLM e Q q
  unfold popAtD at e
  split at e
  · rename_i i
    split at e
    · rename_i hb
      cases hk : ixN xs.length i with
      | none => rw [hk] at e; cases e
      | some k =>
        rw [hk] at e
        have e1 : (xs[k]?).bind (fun d => some (d, xs.eraseIdx k)) = some (d, xs') := e
        cases hx : xs[k]? with
        | none => rw [hx] at e1; cases e1
        | some d0 =>
          rw [hx] at e1; cases e1
          cases hrs with
          | cons hv rr nn =>
            cases rr; cases hv
            obtain ⟨v, M1, N1, h1, h2, h3, h4, h5, h6⟩ := hr.erase hx
            have hl := hr.length
            obtain ⟨q1, q2, q3, q4⟩ := ixN_seq hk
            rw [← hl] at q1
            exact ⟨a, vs, i, k, v, rfl, rfl, hH, by omega, by omega, q1, h1, q v _ N1 M1 h3 h2 (fun b hb => .inl (h5 b hb)) (fun b hb => .inl (h4 b hb)) h6⟩
    · cases e
  · cases e
theorem mok_ins : MOk K (fun x vs H Q => ∃ (l : Addr) (xs : List V) (i : Int) (y : V), x = .ref l ∧ vs = [.int i, y] ∧ H l = some (.lst xs) ∧ xs.length < sizeLine ∧ 0 ≤ i ∧ i < 2 ^ 63 ∧
    Q .non (upd H l (.lst (xs.take i.toNat ++ [y] ++ xs.drop i.toNat)))) insD := by
  intro G H a vs us xs ds L M d xs' s hG hH hr hrs nLM e Q q
  unfold insD at e
  split at e
  · rename_i i d0
    split at e
    · rename_i hz
      cases e
      obtain ⟨z1, z2, z3, z4, z5⟩ := hz
      cases hrs with
      | cons hv rr nn =>
        cases hv
        cases rr with
        | @cons v dd L1 M1 vs1 ds1 hv rr nn =>
          cases rr
          have e1 := hv.noL z4
          subst e1
          have h0 := hr.to0 z3
          refine ⟨a, vs, i, v, rfl, rfl, hH, by rw [hr.length]; exact Nat.lt_of_lt_of_le z5 (by decide), z1, by omega, q .non _ [] [] (((h0.take0 _).append0 (Reps.cons0 hv .nil)).append0 (h0.drop0 _)) .non (fun b hb => (by cases hb)) (fun b hb => (by cases hb)) (fun b _ hb => (by cases hb))⟩
    · cases e
  · cases e
theorem mok_rev : MOk K rReverse revD := by
  intro G H a vs us xs ds L M d xs' s hG hH hr hrs nLM e Q q
  unfold revD at e
  split at e
  · split at e
    · rename_i hz
      cases e
      cases hrs
      exact ⟨a, vs, rfl, rfl, hH, q .non _ [] [] (hr.to0 hz).reverse0 .non (fun b hb => (by cases hb)) (fun b hb => (by cases hb)) (fun b _ hb => (by cases hb))⟩
    · cases e
  · cases e
end
section
variable {X : Cx} {o e : Expr} {es : List Expr} {i : Nat} {ops : List Op} {o1 : Op} {apos cpos : Pos}
theorem pf_append (ho : PE X o (tVar i)) (ha : PAf X (e :: es) ops) (hbase : attributeBase o "append" X.env (eval o X.env) = eval o X.env := by rfl)
    (hfew : ((backTo cpos (starEach (e :: es) X.env)).all (fun x => !x.1) && (backToKw cpos (keywordEach [] X.env)).all (fun x => x.1.isSome)
      && decide ((e :: es).length + ([] : List Keyword).length + (if ([] : List Keyword).isEmpty then 0 else 1) < 30)) = true := by rfl)
    (hline : (apos.endLine == cpos.line) = true := by rfl) (hs : starEach (e :: es) X.env = (false, eval e X.env) :: starEach es X.env := by rfl) (hplain : (backTo cpos (starEach es X.env)).any (·.1) = false := by rfl) :
    PEf X (.Call (.Attribute o "append" apos) (e :: es) [] cpos) (mutF i appD ops) :=
  .mk (pe_bm PySem.F.plainAttrs_list PySem.F.slot_list_append PySem.F.type_list_append mt_append ho ha hbase hfew hline hs hplain) (simE_mut rfl (simA_of ops) mok_app)
theorem pf_popAt (ho : PE X o (tVar i)) (ha : PAf X (e :: es) ops) (hbase : attributeBase o "pop" X.env (eval o X.env) = eval o X.env := by rfl)
    (hfew : ((backTo cpos (starEach (e :: es) X.env)).all (fun x => !x.1) && (backToKw cpos (keywordEach [] X.env)).all (fun x => x.1.isSome)
      && decide ((e :: es).length + ([] : List Keyword).length + (if ([] : List Keyword).isEmpty then 0 else 1) < 30)) = true := by rfl)
    (hline : (apos.endLine == cpos.line) = true := by rfl) (hs : starEach (e :: es) X.env = (false, eval e X.env) :: starEach es X.env := by rfl) (hplain : (backTo cpos (starEach es X.env)).any (·.1) = false := by rfl) :
    PEf X (.Call (.Attribute o "pop" apos) (e :: es) [] cpos) (mutF i popAtD ops) :=
  .mk (pe_bm PySem.F.plainAttrs_list PySem.F.slot_list_pop PySem.F.type_list_pop mt_popAt ho ha hbase hfew hline hs hplain) (simE_mut rfl (simA_of ops) mok_popAt)
theorem pf_insert (ho : PE X o (tVar i)) (ha : PAf X (e :: es) ops) (hbase : attributeBase o "insert" X.env (eval o X.env) = eval o X.env := by rfl)
    (hfew : ((backTo cpos (starEach (e :: es) X.env)).all (fun x => !x.1) && (backToKw cpos (keywordEach [] X.env)).all (fun x => x.1.isSome)
      && decide ((e :: es).length + ([] : List Keyword).length + (if ([] : List Keyword).isEmpty then 0 else 1) < 30)) = true := by rfl)
    (hline : (apos.endLine == cpos.line) = true := by rfl) (hs : starEach (e :: es) X.env = (false, eval e X.env) :: starEach es X.env := by rfl) (hplain : (backTo cpos (starEach es X.env)).any (·.1) = false := by rfl) :
    PEf X (.Call (.Attribute o "insert" apos) (e :: es) [] cpos) (mutF i insD ops) :=
  .mk (pe_bm PySem.F.plainAttrs_list PySem.F.slot_list_insert PySem.F.type_list_insert mt_insert ho ha hbase hfew hline hs hplain) (simE_mut rfl (simA_of ops) mok_ins)
theorem bm0_bm {K : PySem.W.Frag} {T : String} {r : V → List V → Hp → VK → Prop} {to : TE} : tBM0 K T r to = tBM K T r to tNil := rfl
theorem pf_pop (ho : PE X o (tVar i)) (hbase : attributeBase o "pop" X.env (eval o X.env) = eval o X.env := by rfl) (hline : (apos.endLine == cpos.line) = true := by rfl) : PEf X (.Call (.Attribute o "pop" apos) [] [] cpos) (mutF i popD []) :=
  .mk (pe_bm0 PySem.F.plainAttrs_list PySem.F.slot_list_pop PySem.F.type_list_pop mt_pop ho hbase hline) (bm0_bm ▸ simE_mut rfl simA_nil mok_pop)
theorem pf_reverse (ho : PE X o (tVar i)) (hbase : attributeBase o "reverse" X.env (eval o X.env) = eval o X.env := by rfl) (hline : (apos.endLine == cpos.line) = true := by rfl) : PEf X (.Call (.Attribute o "reverse" apos) [] [] cpos) (mutF i revD []) :=
  .mk (pe_bm0 PySem.F.plainAttrs_list PySem.F.slot_list_reverse PySem.F.type_list_reverse mt_reverse ho hbase hline) (bm0_bm ▸ simE_mut rfl simA_nil mok_rev)
end
/-! ### isinstance of built-in types -/
def tyName : D → Option String
  | .non => some "NoneType"
  | .bl _ => some "bool"
  | .int _ => some "int"
  | .str _ => some "str"
  | .tup _ => some "tuple"
  | .lst _ _ => some "list"
  | .scr _ => some "list"
  | .ty _ => none
  | .exc _ _ => none
  | .dct _ _ => none
def anyB (t : String) : List String → Option Bool
  | [] => some false
  | n :: ns => match kitB t n with
    | some true => some true
    | some false => anyB t ns
    | none => none
def isiD (n : String) : List D → Option D
  | [d] => (tyName d).bind fun t => (kitB t n).bind fun b => some (.bl b)
  | _ => none
def isiTD (ns : List String) : List D → Option D
  | [d] => if ns.length ≤ smallL then (tyName d).bind fun t => (anyB t ns).bind fun b => some (.bl b) else none
  | _ => none
section
variable {K : PySem.W.Frag} {G H : Hp}
theorem Rep.tyx {v : V} {d : D} {L : List Addr} {t : String} (s : Same G H) (r : Rep K G H v d L) (h : tyName d = some t) : TyX K H v (.type t) := by
  cases r with
  | non => cases h; exact .base .non
  | bl b => cases h; exact .base (.bl b)
  | int i => cases h; exact .base (.int i)
  | str x => cases h; exact .base (.str x)
  | ty n => cases h
  | exc _ _ _ _ => cases h
  | dctS _ => cases h
  | dctO _ _ => cases h
  | scr q =>
    cases h
    rcases Same.seq s q with (q | ⟨o, q⟩) | ⟨o, its, n, hk, hc, _⟩
    · exact .base (.lst q)
    · exact .base (.frz q)
    · exact .kList hk hc
  | tup q r =>
    cases h
    rcases Same.seqT s q with (q | ⟨o, q⟩) | ⟨o, its, n, hk, hc, _⟩
    · exact .base (.tup q)
    · exact .fTuple q
    · exact .kTuple hk hc
  | lstS q r e => cases h; exact .base (.lst (s _ _ q))
  | lstO _ q _ r => cases h; exact .base (.lst q)
theorem vok_isi {n : String} : VOk K (fun vs H Q => match vs with | [x] => rIsi K [x, .ty n] H Q | _ => False) (isiD n) := by
  intro G H vs ds d s rl e Q q
  unfold isiD at e
  split at e
  · rename_i d0
    obtain ⟨v, L, rfl, r1⟩ := rl.one
    cases ht : tyName d0 with
    | none => rw [ht] at e; cases e
    | some t =>
      rw [ht] at e
      have e1 : (kitB t n).bind (fun b => some (D.bl b)) = some d := e
      cases hb : kitB t n with
      | none => rw [hb] at e1; cases e1
      | some b =>
        rw [hb] at e1; cases e1
        exact ⟨v, .ty n, .type t, .type n, b, rfl, .ty n, r1.tyx s ht, kit_ty hb, fin0 s (.bl _) q⟩
  · cases e
theorem kitAny_of {t : String} : ∀ {ns : List String} {b : Bool}, anyB t ns = some b → PySem.W.kitAny K (.type t) (ns.map Value.type) = some b
  | [], b, h => by cases h; exact kitAny_nil
  | n :: ns, b, h => by
    unfold anyB at h
    split at h
    · rename_i hk
      cases h
      exact kitAny_cons (kit_ty hk) (fun z => nomatch z) (fun _ => rfl)
    · rename_i hk
      exact kitAny_cons (kit_ty hk) (fun _ => kitAny_of h) (fun z => nomatch z)
    · cases h
theorem clsVs : ∀ ns : List String, Paired ClsV (ns.map V.ty) (ns.map Value.type)
  | [] => .nil
  | n :: ns => .cons (.ty n) (clsVs ns)
theorem vok_isiT {ns : List String} : VOk K (fun vs H Q => match vs with | [x] => (ns.map V.ty).length ≤ sizeLine ∧ ∀ p, H p = none → rIsiT K [x, .ref p] (upd H p (.tup (ns.map V.ty))) Q | _ => False) (isiTD ns) := by
  intro G H vs ds d s rl e Q q
  unfold isiTD at e
  split at e
  · rename_i d0
    obtain ⟨v, L, rfl, r1⟩ := rl.one
    split at e
    · rename_i hz
      cases ht : tyName d0 with
      | none => rw [ht] at e; cases e
      | some t =>
        rw [ht] at e
        have e1 : (anyB t ns).bind (fun b => some (D.bl b)) = some d := e
        cases hb : anyB t ns with
        | none => rw [hb] at e1; cases e1
        | some b =>
          rw [hb] at e1; cases e1
          refine ⟨by rw [List.length_map]; exact small_line hz, fun p hp => ?_⟩
          have t1 := Tr.newG (A := fun _ => False) (o := .tup (ns.map V.ty)) s hp
          exact ⟨v, p, _, .type t, _, b, rfl, upd_same, clsVs ns, (r1.tr t1 (fun _ _ z => z)).tyx t1.sub ht, kitAny_of hb, q _ _ _ [] (t1.post fun a z => (by cases z)) (.bl _)⟩
    · cases e
  · cases e
end
section
variable {X : Cx} {e : Expr} {p p2 p3 p4 pos : Pos} {k : Nat}
theorem pe_tyn {x : Str} {n : String} (hg : Gl X x) (hm : X.mg x = none) (hv : bootBuiltins x = some (.type n)) (hn : x ≠ "__name__" := by decide) (hd : (x == ("__debug__" : Str)) = false := by decide) : PE X (.Name x p) (tC (.ty n)) := pe_bltn hg hm hv rfl hn hd
theorem pf_isi {x : Str} {n : String} {o : Op} (hgi : Gl X "isinstance") (hmi : X.mg "isinstance" = none) (h : POf X e o) (ht : PE X (.Name x p2) (tC (.ty n)))
    (hs : starEach [e, Expr.Name x p2] X.env = (false, eval e X.env) :: starEach [Expr.Name x p2] X.env := by rfl) (hs2 : starEach [Expr.Name x p2] X.env = (false, eval (Expr.Name x p2) X.env) :: starEach [] X.env := by rfl) (hpl : (backTo pos (starEach [Expr.Name x p2] X.env)).any (·.1) = false := by rfl) :
    PEf X (.Call (.Name "isinstance" p) [e, .Name x p2] [] pos) (opF (isiD n) [o]) := by
  obtain ⟨te, p1, s1⟩ := h.ex
  refine PEf.mk (pe_callB call_isi hgi hmi boot_isinstance (pa_cons p1 (pa_cons ht pa_nil hs2) hs) (by decide) (by decide) hs hpl) ?_
  exact simE_op (ta := tCons te tNil) (r := fun vs H Q => match vs with | [x] => rIsi X.K [x, .ty n] H Q | _ => False) (simA_cons s1 simA_nil) vok_isi
theorem pf_isiT2 {x y : Str} {n m : String} {o : Op} (hgi : Gl X "isinstance") (hmi : X.mg "isinstance" = none) (h : POf X e o) (ht : PE X (.Name x p2) (tC (.ty n))) (ht2 : PE X (.Name y p3) (tC (.ty m)))
    (hs : starEach [e, Expr.Tuple [.Name x p2, .Name y p3] k p4] X.env = (false, eval e X.env) :: starEach [Expr.Tuple [.Name x p2, .Name y p3] k p4] X.env := by rfl) (hs2 : starEach [Expr.Tuple [.Name x p2, .Name y p3] k p4] X.env = (false, eval (Expr.Tuple [.Name x p2, .Name y p3] k p4) X.env) :: starEach [] X.env := by rfl) (hpl : (backTo pos (starEach [Expr.Tuple [.Name x p2, .Name y p3] k p4] X.env)).any (·.1) = false := by rfl) :
    PEf X (.Call (.Name "isinstance" p) [e, .Tuple [.Name x p2, .Name y p3] k p4] [] pos) (opF (isiTD [n, m]) [o]) := by
  obtain ⟨te, p1, s1⟩ := h.ex
  refine PEf.mk (pe_callB call_isiT hgi hmi boot_isinstance (pa_cons p1 (pa_cons (pe_tup (pa_cons ht (pa_cons ht2 pa_nil))) pa_nil hs2) hs) (by decide) (by decide) hs hpl) ?_
  exact simE_op (ta := tCons te tNil) (r := fun vs H Q => match vs with | [x] => ([n, m].map V.ty).length ≤ sizeLine ∧ ∀ p, H p = none → rIsiT X.K [x, .ref p] (upd H p (.tup ([n, m].map V.ty))) Q | _ => False) (simA_cons s1 simA_nil) vok_isiT
end
end VS
set_option Elab.async false
set_option linter.all false
set_option maxRecDepth 100000
namespace VS
open PySem PySem.Spec PyProof.Rows L2 RZ
def pairD : D → D → Option (List D × List D)
  | .lst _ xs, .lst _ ys => some (freezes xs, freezes ys)
  | .tup xs, .tup ys => some (freezes xs, freezes ys)
  | _, _ => none
def itZip (f g : FE) : FI := fun ρ => (f ρ).bind fun p => (g p.2).bind fun q => (pairD p.1 q.1).bind fun r => some ((r.1.zip r.2).map fun u => .tup [u.1, u.2], q.2)
section
variable {K : PySem.W.Frag}
theorem jok_pair2 {G0 : Hp} {J : It} {n : Nat} {P : Hp → Prop} {xs ys : Nat → Option V} {ds es : List D} (w : Walk J n P (YPair xs ys)) (hP : ∀ H, Same G0 H → P H) (hl : min ds.length es.length = n)
    (hx : ∀ i d x G H, ds[i]? = some d → xs i = some x → Same G0 G → Rep K G H x d []) (hy : ∀ i d x G H, es[i]? = some d → ys i = some x → Same G0 G → Rep K G H x d []) : JOk K J G0 ((ds.zip es).map fun p => .tup [p.1, p.2]) := by
  have hz : ((ds.zip es).map fun p => D.tup [p.1, p.2]).length = n := by rw [List.length_map, List.length_zip]; omega
  refine ⟨fun i H hi s => w.goes i H (by omega) (hP H s), fun H s => by rw [hz]; exact w.stops H (hP H s), fun i d G H x H' hd s1 s2 y => ?_⟩
  have hi : i < n := by rw [← hz]; exact (List.getElem?_eq_some_iff.mp hd).1
  obtain ⟨T, u, v, rfl, hT, rfl, h1, h2⟩ := w.yields i H x H' hi (hP H (s1.trans s2)) y
  have i1 : i < ds.length := by omega
  have i2 : i < es.length := by omega
  have : d = .tup [ds[i], es[i]] := by
    have hzz : (ds.zip es)[i]? = some (ds[i], es[i]) := List.getElem?_zip_eq_some.mpr ⟨List.getElem?_eq_getElem i1, List.getElem?_eq_getElem i2⟩
    rw [List.getElem?_map, hzz] at hd
    exact (Option.some.inj hd).symm
  subst this
  refine ⟨_, Tr.newG s2 hT, .tup (.inl (.inl upd_same)) ?_⟩
  have sn : Same G (upd G T (.tup [u, v])) := (Tr.newG (A := fun _ => False) s2 hT).g
  have r1 := hx i _ u (upd G T (.tup [u, v])) (upd H T (.tup [u, v])) (List.getElem?_eq_getElem i1) h1 (s1.trans sn)
  have r2 := hy i _ v (upd G T (.tup [u, v])) (upd H T (.tup [u, v])) (List.getElem?_eq_getElem i2) h2 (s1.trans sn)
  exact .cons r1 (.cons r2 .nil fun a z => nomatch z) fun a z => nomatch z
theorem walk_zipT {a b : Addr} {xs ys : List V} {n : Nat} (hn : n = min xs.length ys.length) : Walk (ItzT K a b) n (fun H => SqT K H a xs ∧ SqT K H b ys) (YPair (fun i => xs[i]?) (fun i => ys[i]?)) := by
  subst hn
  refine ⟨fun i _ hi q => ?_, fun _ q => ⟨xs, ys, q.1, q.2, by omega⟩, fun i H v H' _ q y => ?_⟩
  · have h1 : i < xs.length := by omega
    have h2 : i < ys.length := by omega
    exact ⟨xs, ys, xs[i], ys[i], q.1, q.2, by simp [h1], by simp [h2]⟩
  · obtain ⟨T, x, y, h1, h2, h3, h4, h5⟩ := y
    exact ⟨T, x, y, h1, h2, h3, h4 xs q.1, h5 ys q.2⟩
theorem Reps.at0 {G0 H0 : Hp} {vs : List V} {ds : List D} (hr : Reps K G0 H0 vs ds []) : ∀ (i : Nat) (d : D) (x : V) (G H : Hp), ds[i]? = some d → vs[i]? = some x → Same G0 G → Rep K G H x d [] := fun i d x G H hd hx s => by
  obtain ⟨M, q1, s1⟩ := hr.get0 hx hd
  have : M = [] := List.eq_nil_iff_forall_not_mem.mpr fun a ha => nomatch s1 a ha
  subst this
  exact q1.far s
theorem simI_zip {ta : TA} {f g : FE} (h : SimA K ta [.t f, .t g]) : SimI K (iZipA K ta) (itZip f g) := by
  intro ρ ds ρ' e σ G H F r R q
  unfold itZip at e
  cases hf : f ρ with
  | none => rw [hf] at e; cases e
  | some p =>
    obtain ⟨d1, ρ1⟩ := p
    rw [hf] at e
    have e1 : (g ρ1).bind (fun q => (pairD d1 q.1).bind fun r => some ((r.1.zip r.2).map (fun u => D.tup [u.1, u.2]), q.2)) = some (ds, ρ') := e
    cases hg : g ρ1 with
    | none => rw [hg] at e1; cases e1
    | some p2 =>
      obtain ⟨d2, ρ2⟩ := p2
      rw [hg] at e1
      have e2 : (pairD d1 d2).bind (fun r => some ((r.1.zip r.2).map (fun u => D.tup [u.1, u.2]), ρ2)) = some (ds, ρ') := e1
      cases hp : pairD d1 d2 with
      | none => rw [hp] at e2; cases e2
      | some pr =>
        obtain ⟨xs, ys⟩ := pr
        rw [hp] at e2; cases e2
        have he : evOps [.t f, .t g] ρ = some ([some d1, some d2], ρ') := by
          unfold evOps
          rw [hf]
          show (evOps [.t g] ρ1).bind (fun p => some (some d1 :: p.1, p.2)) = _
          unfold evOps
          rw [hg]
          rfl
        refine h ρ _ _ he σ G H F r _ fun vs G1 H1 F1 M t1 r1 ok n1 => ?_
        cases ok with
        | t rv1 nn ok =>
          cases ok with
          | t rv2 nn2 ok =>
            cases ok
            rename_i v1 L1 v2 L2
            rw [List.append_nil] at nn n1 t1
            obtain ⟨G2, t2, r2, rv1'⟩ := r1.frz rv1 (fun a ha => n1 a (List.mem_append_left _ ha))
            have rv2' := rv2.tr t2 (fun a ha z => z.elim (n1 a (List.mem_append_right _ ha)) fun y => nn a y ha)
            obtain ⟨G3, t3, r3, rv2''⟩ := r2.frz rv2' (fun a ha => n1 a (List.mem_append_right _ ha))
            have rv1'' := rv1'.tr t3 (fun a z => nomatch z)
            have tt : Tr G H (own F) G3 H1 (own F1) := by
              refine (t1.trans (t2.wk (A2 := fun a => own F1 a ∨ a ∈ L1 ++ L2) (B := fun a => own F1 a ∨ a ∈ L1 ++ L2) (fun a h => h.imp id (List.mem_append_left _)) fun a h => .inr (.inl h))).trans (t3.wk (fun a h => h.imp id (List.mem_append_right _)) fun a h => .inl h)
            unfold pairD at hp
            split at hp
            · cases hp
              cases rv1'' with
              | lstS hs1 hr1 _ =>
                cases rv2'' with
                | lstS hs2 hr2 _ =>
                  refine ⟨_, _, _, _, rfl, .inl ⟨SqL.of (r3.sub _ _ hs1), SqL.of (r3.sub _ _ hs2), q _ G3 H1 F1 tt r3 (jok_pair2 (walk_zip rfl) (fun H s => ⟨SqL.of (s _ _ hs1), SqL.of (s _ _ hs2)⟩) (by rw [hr1.length, hr2.length]) hr1.at0 hr2.at0)⟩⟩
            · cases hp
              cases rv1'' with
              | tup hs1 hr1 =>
                cases rv2'' with
                | tup hs2 hr2 =>
                  refine ⟨_, _, _, _, rfl, .inr ⟨Same.seqT r3.sub hs1, Same.seqT r3.sub hs2, q _ G3 H1 F1 tt r3 (jok_pair2 (walk_zipT rfl) (fun H s => ⟨Same.seqT s hs1, Same.seqT s hs2⟩) (by rw [hr1.length, hr2.length]) hr1.at0 hr2.at0)⟩⟩
            · cases hp
end
section
variable {X : Cx} {e e2 : Expr} {p pos tpos : Pos} {elts : List Expr} {kk : Nat}
theorem pif_zip {f g : FE} (hg : Gl X "zip") (hm : X.mg "zip" = none) (h1 : PEf X e f) (h2 : PEf X e2 g)
    (hs : starEach [e, e2] X.env = (false, eval e X.env) :: starEach [e2] X.env := by rfl) (hs2 : starEach [e2] X.env = (false, eval e2 X.env) :: starEach [] X.env := by rfl) (hpl : (backTo pos (starEach [e2] X.env)).any (·.1) = false := by rfl) : PIf X (.Tuple elts kk tpos) (.Call (.Name "zip" p) [e, e2] [] pos) (itZip f g) :=
  .mk (pi_zipA hg hm (paf_cons (o := .t f) (ops := [.t g]) h1 (paf_cons (o := .t g) (ops := []) h2 paf_nil hs2) hs) hs hpl) (simI_zip (simA_of _))
end
/-- an int, or nothing -/
def asInt (f : FE) : FE := fun ρ => (f ρ).bind fun p => match p.1 with
  | .int i => some (.int i, p.2)
  | _ => none
section
variable {K : PySem.W.Frag}
theorem simE_int {te : TE} {f : FE} (h : SimE K te f) : SimE K (fun σ H Q => te σ H fun x H1 => ∃ i, x = .int i ∧ Q x H1) (asInt f) := by
  intro ρ d ρ' e σ G H F r Q q
  unfold asInt at e
  cases hf : f ρ with
  | none => rw [hf] at e; cases e
  | some p =>
    obtain ⟨d1, ρ1⟩ := p
    rw [hf] at e
    cases d1 with
    | int i =>
      cases e
      refine h ρ _ _ hf σ G H F r _ fun v G1 H1 F1 L t1 r1 rv n1 => ?_
      cases rv
      exact ⟨i, rfl, q _ G1 H1 F1 [] t1 r1 (.int i) n1⟩
    | _ => cases e
end
section
variable {X : Cx} {e a b : Expr} {p2 pos : Pos}
theorem pf_slB {o : Op} {fa fb : FE} (h : POf X e o) (ha : PEf X a fa) (hb : PEf X b fb) : PEf X (.Subscript e (.Slice (some a) (some b) none p2) pos) (opF (partD true true) [o, .t (asInt fa), .t (asInt fb)]) := by
  obtain ⟨te, p1, s1⟩ := h.ex
  refine PEf.mk (pe_slice sl_x p1 (po_some ha) (po_some hb)) ?_
  have := simE_op (simA_cons s1 (simA_cons (o := .t (asInt fa)) (simE_int (simE_of fa)) (simA_cons (o := .t (asInt fb)) (simE_int (simE_of fb)) simA_nil))) (vok_slB (K := X.K))
  refine simE_eta this fun σ H Q q => ?_
  have mono : ∀ {R R' : VK}, (∀ v H, R v H → R' v H) → ∀ {f : FE} {σ : L2.St} {H : Hp}, teOf X.K f σ H R → teOf X.K f σ H R' := by
    intro R R' hR f σ H h
    obtain ⟨ρ, d, ρ', G, F, a1, a2, a3⟩ := h
    exact ⟨ρ, d, ρ', G, F, a1, a2, fun v G' H' F' L t r rv n => hR _ _ (a3 v G' H' F' L t r rv n)⟩
  have q' : te σ H fun x H1 => teOf X.K fa σ H1 fun y H2 => ∃ i, y = .int i ∧ teOf X.K fb σ H2 fun z H3 => ∃ j, z = .int j ∧ ∃ i' j', y = .int i' ∧ z = .int j' ∧ rSlX X.K x (some i') (some j') H3 Q := q
  show te σ H fun x H1 => teOf X.K fa σ H1 fun y H2 => ∃ i, y = .int i ∧ teOf X.K fb σ H2 fun z H3 => ∃ j, z = .int j ∧ rSlX X.K x (some i) (some j) H3 Q
  have m1 : (fun (x : V) (H1 : Hp) => teOf X.K fa σ H1 fun y H2 => ∃ i, y = .int i ∧ teOf X.K fb σ H2 fun z H3 => ∃ j, z = .int j ∧ ∃ i' j', y = .int i' ∧ z = .int j' ∧ rSlX X.K x (some i') (some j') H3 Q) = (fun x H1 => teOf X.K fa σ H1 fun y H2 => ∃ i, y = .int i ∧ teOf X.K fb σ H2 fun z H3 => ∃ j, z = .int j ∧ rSlX X.K x (some i) (some j) H3 Q) := by
    funext x H1
    refine propext ⟨mono fun y H2 ⟨i, e1, r⟩ => ⟨i, e1, mono (fun z H3 ⟨j, e2, i', j', e3, e4, r2⟩ => ⟨j, e2, ?_⟩) r⟩, mono fun y H2 ⟨i, e1, r⟩ => ⟨i, e1, mono (fun z H3 ⟨j, e2, r2⟩ => ⟨j, e2, i, j, e1, e2, r2⟩) r⟩⟩
    rw [e1] at e3; rw [e2] at e4
    cases e3; cases e4
    exact r2
  rw [m1] at q'
  exact q'
end
end VS
set_option Elab.async false
set_option linter.all false
set_option maxRecDepth 100000
namespace VS
open PySem PySem.Spec PyProof.Rows L2 RZ
/-! ### a, b = x, y of plain local names -/
def setAll : List Nat → List D → Env → Env
  | i :: is, d :: ds, ρ => setAll is ds (ρ.set i (some d))
  | _, _, ρ => ρ
def setAllV : List Nat → List V → L2.St → L2.St
  | i :: is, v :: vs, σ => setAllV is vs (σ.set i (some v))
  | _, _, σ => σ
def parF (is : List Nat) (ops : List Op) : FS := fun ρ => (evOps ops ρ).bind fun p => (takeN ops p.1 p.2).bind fun ds => if ds.length = is.length then some (.nx (setAll is ds p.2)) else none
section
variable {K : PySem.W.Frag} {pn : Nat → Bool} {W : WX}
theorem setAll_ok {G H : Hp} : ∀ {is : List Nat} {vs : List V} {ds : List D} {M : List Addr} {σ : L2.St} {ρ : Env} {F : Nat → List Addr}, (∀ i ∈ is, pn i = false) → REnv K G H σ ρ F → Reps K G H vs ds M → (∀ a ∈ M, ¬ own F a) →
    ∃ F', REnv K G H (setAllV is vs σ) (setAll is ds ρ) F' ∧ (∀ a, own F' a → own F a ∨ a ∈ M) ∧ Pin pn σ (setAllV is vs σ)
  | [], vs, ds, M, σ, ρ, F, hp, r, h, n => ⟨F, r, fun a h => .inl h, Pin.refl⟩
  | i :: is, [], ds, M, σ, ρ, F, hp, r, h, n => by
    cases h
    exact ⟨F, r, fun a h => .inl h, Pin.refl⟩
  | i :: is, v :: vs, [], M, σ, ρ, F, hp, r, h, n => by cases h
  | i :: is, v :: vs, d :: ds, _, σ, ρ, F, hp, r, .cons hv hr hn, n => by
    obtain ⟨F1, r1, s1⟩ := r.put' i hv (fun a ha => n a (List.mem_append_left _ ha))
    obtain ⟨F2, r2, s2, p2⟩ := setAll_ok (is := is) (fun j hj => hp j (List.mem_cons_of_mem _ hj)) r1 hr (fun a ha z => (s1 a z).elim (n a (List.mem_append_right _ ha)) fun y => hn a y ha)
    refine ⟨F2, r2, fun a h => ?_, (Pin.set (hp i List.mem_cons_self)).trans p2⟩
    rcases s2 a h with z | z
    · exact (s1 a z).imp id (List.mem_append_left _)
    · exact .inr (List.mem_append_right _ z)
theorem simS_par {t : TS} {ta : TA} {is : List Nat} {ops : List Op} (hp : ∀ i ∈ is, pn i = false) (h : SimA K ta ops) (ht : ∀ (E : Ends) σ H, (ta σ H fun vs H1 => vs.length = is.length ∧ E.nx (setAllV is vs σ) H1) → t E σ H) : SimS K pn W t (parF is ops) := by
  intro ρ o e σ G H F r E q
  unfold parF at e
  cases he : evOps ops ρ with
  | none => rw [he] at e; cases e
  | some p =>
    obtain ⟨ts, ρ1⟩ := p
    rw [he] at e
    have e1 : (takeN ops ts ρ1).bind (fun ds => if ds.length = is.length then some (Out.nx (setAll is ds ρ1)) else none) = some o := e
    cases htk : takeN ops ts ρ1 with
    | none => rw [htk] at e1; cases e1
    | some ds =>
      rw [htk] at e1
      have e2 : (if ds.length = is.length then some (Out.nx (setAll is ds ρ1)) else none) = some o := e1
      split at e2
      · rename_i hl
        cases e2
        refine ht E σ H (h ρ ts ρ1 he σ G H F r _ fun vs G1 H1 F1 M t1 r1 ok n1 => ?_)
        have rs := ok.take r1 htk
        obtain ⟨F2, r2, s2, p2⟩ := setAll_ok (is := is) hp r1 rs n1
        exact ⟨rs.length.trans hl, q _ G1 H1 F2 (t1.post s2) r2 p2⟩
      · cases e2
end
def iaddD : List D → Option D := fun ds => match ds with | [.int a, .int b] => some (.int (a + b)) | _ => none
def isubD : List D → Option D := fun ds => match ds with | [.int a, .int b] => some (.int (a - b)) | _ => none
section
variable {K : PySem.W.Frag}
theorem vok_iadd : VOk K (fun vs H Q => match vs with | [x, y] => ipI (fun i j => i + j) x y H Q | _ => False) iaddD := by
  intro G H vs ds d s rl e Q q
  unfold iaddD at e
  split at e
  · obtain ⟨v, u, L, M, rfl, r1, r2⟩ := rl.two
    cases e; cases r1; cases r2
    exact ⟨_, _, rfl, rfl, fin0 s (.int _) q⟩
  · cases e
theorem vok_isub : VOk K (fun vs H Q => match vs with | [x, y] => ipI (fun i j => i - j) x y H Q | _ => False) isubD := by
  intro G H vs ds d s rl e Q q
  unfold isubD at e
  split at e
  · obtain ⟨v, u, L, M, rfl, r1, r2⟩ := rl.two
    cases e; cases r1; cases r2
    exact ⟨_, _, rfl, rfl, fin0 s (.int _) q⟩
  · cases e
end
section
variable {X : Cx} {pn : Nat → Bool} {W : WX} {a b c : Expr} {pos px py pz pt : Pos} {kt k2 : Nat} {pt2 : Pos}
theorem psf_par2 {i j : Nat} {x y : Str} {ops : List Op} (hc : X.calm = true) (hN : X.N.Nodup) (hi : X.N[i]? = some x) (hj : X.N[j]? = some y) (hij : i ≠ j) (hp : ∀ k ∈ [i, j], pn k = false)
    (hx : X.env.scope.names.lookup x = some .local) (hy : X.env.scope.names.lookup y = some .local) (ha : PAf X [a, b] ops)
    (hw : swappedStores [.Tuple [.Name x px, .Name y py] kt pt] (.Tuple [a, b] k2 pt2) X.env = pure (some [x, y]))
    (hs : swapsWithSole [.Tuple [.Name x px, .Name y py] kt pt] (.Tuple [a, b] k2 pt2) pos.line X.env = pure false := by rfl) :
    PSf X pn W (.Assign [.Tuple [.Name x px, .Name y py] kt pt] (.Tuple [a, b] k2 pt2) pos) (parF [i, j] ops) :=
  .mk (ps_par hc hN hi hj hij hx hy ha hw hs) (simS_par (ta := taOf X.K ops) hp (simA_of ops) fun E σ H ⟨ρ, ts, ρ', G, F, e, r, q⟩ => ⟨ρ, ts, ρ', G, F, e, r, fun vs G' H' F' M t r' ok n => by
    obtain ⟨hl, q1⟩ := q vs G' H' F' M t r' ok n
    match vs, hl, q1 with
    | [v, w], _, q1 => exact ⟨v, w, rfl, q1⟩⟩)
theorem psf_par3 {i j l : Nat} {x y z : Str} {ops : List Op} (hc : X.calm = true) (hN : X.N.Nodup) (hi : X.N[i]? = some x) (hj : X.N[j]? = some y) (hl : X.N[l]? = some z) (hij : i ≠ j) (hil : i ≠ l) (hjl : j ≠ l) (hp : ∀ k ∈ [i, j, l], pn k = false)
    (hx : X.env.scope.names.lookup x = some .local) (hy : X.env.scope.names.lookup y = some .local) (hz : X.env.scope.names.lookup z = some .local) (ha : PAf X [a, b, c] ops)
    (hw : swappedStores [.Tuple [.Name x px, .Name y py, .Name z pz] kt pt] (.Tuple [a, b, c] k2 pt2) X.env = pure (some [x, y, z]))
    (hs : swapsWithSole [.Tuple [.Name x px, .Name y py, .Name z pz] kt pt] (.Tuple [a, b, c] k2 pt2) pos.line X.env = pure false := by rfl) :
    PSf X pn W (.Assign [.Tuple [.Name x px, .Name y py, .Name z pz] kt pt] (.Tuple [a, b, c] k2 pt2) pos) (parF [i, j, l] ops) :=
  .mk (ps_par3 hc hN hi hj hl hij hil hjl hx hy hz ha hw hs) (simS_par (ta := taOf X.K ops) hp (simA_of ops) fun E σ H ⟨ρ, ts, ρ', G, F, e, r, q⟩ => ⟨ρ, ts, ρ', G, F, e, r, fun vs G' H' F' M t r' ok n => by
    obtain ⟨hl, q1⟩ := q vs G' H' F' M t r' ok n
    match vs, hl, q1 with
    | [u, v, w], _, q1 => exact ⟨u, v, w, rfl, q1⟩⟩)
end
/-! ### how keywords bind -/
theorem kb_of {K : PySem.W.Frag} {x qual : Str} {st : Stmt} {f : Addr} {fd : FuncData} {ps ks : List Str} {n : Nat} {is : List Nat} (F : Fun K x qual st f fd)
    (h : ∀ (kV doc pm : Value) (an : Option Addr) (cdv ct : Value) (us ws : List Value), us.length = n → ws.length = ks.length → bindArgs (PySem.W.fnOf x qual (defArgs st) (defBody st) (defScope st) .none kV doc pm an cdv ct) ⟨us, ks.zip ws⟩ = pure (ps.zip (permL is (us ++ ws)))) : KB K fd ps n ks is := by
  obtain ⟨oc, od, kV, doc, pm, an, cdv, ct, osl, rfl, lk, hcd⟩ := F.ex
  exact fun s us ws _ h1 h2 => .of_eq (h kV doc pm an cdv ct us ws h1 h2)
/-- the law's call: from the script, whatever the heap -/
def spLaw (K : PySem.W.Frag) : Sp := fun vs H Q _ => ∃ (a : Addr) (ns : List Int), vs = [.ref a] ∧ SqL K H a (ns.map V.int) ∧ ns.length ≤ 63 ∧ ∀ H', Q (.bl true) H'
theorem law_sp {K : PySem.W.Frag} {fn : Fn} (hn : fn.np = 1) (h : ∀ ns : List Int, ns.length ≤ 63 → ∃ os, fn.sem [.scr ns] = some (.bl true, os)) {vs : List V} {H : Hp} {Q : VK} {E : XK} (q : spLaw K vs H Q E) : spOf K fn vs H Q E := by
  obtain ⟨a, ns, rfl, hs, hl, q⟩ := q
  obtain ⟨os, hos⟩ := h ns hl
  refine ⟨H, [.scr ns], [], .bl true, os, Same.refl H, Reps.cons0 (.scr hs) .nil, hn.symm, hos, fun v G' H' P N t ro rv n => ?_⟩
  cases rv
  exact q H'
end VS
set_option Elab.async false
set_option linter.all false
set_option maxRecDepth 100000
namespace VS
open PySem PySem.Spec PyProof.Rows L2 RZ
/-! ### sum, all, any, sorted of whole numbers; in; is of truths -/
def intsOf : List D → Option (List Int)
  | [] => some []
  | .int i :: r => (intsOf r).map (i :: ·)
  | _ :: _ => none
def blsOf : List D → Option (List Bool)
  | [] => some []
  | .bl i :: r => (blsOf r).map (i :: ·)
  | _ :: _ => none
section
variable {K : PySem.W.Frag} {G H : Hp}
theorem Reps.ints : ∀ {vs : List V} {xs : List D} {L : List Addr} {ns : List Int}, Reps K G H vs xs L → intsOf xs = some ns → vs = ns.map V.int ∧ xs = ns.map D.int
  | _, [], _, ns, .nil, e => by cases e; exact ⟨rfl, rfl⟩
  | _, x :: r, _, ns, .cons h hr _, e => by
    cases x with
    | int i =>
      obtain ⟨ms, e1, rfl⟩ := Option.map_eq_some_iff.mp (show (intsOf r).map (i :: ·) = some ns from e)
      cases h
      obtain ⟨h1, h2⟩ := hr.ints e1
      exact ⟨by rw [h1]; rfl, by rw [h2]; rfl⟩
    | _ => cases e
theorem Reps.bls : ∀ {vs : List V} {xs : List D} {L : List Addr} {ns : List Bool}, Reps K G H vs xs L → blsOf xs = some ns → vs = ns.map V.bl
  | _, [], _, ns, .nil, e => by cases e; rfl
  | _, x :: r, _, ns, .cons h hr _, e => by
    cases x with
    | bl i =>
      obtain ⟨ms, e1, rfl⟩ := Option.map_eq_some_iff.mp (show (blsOf r).map (i :: ·) = some ns from e)
      cases h
      rw [hr.bls e1]; rfl
    | _ => cases e
end
theorem intsOf_map (ns : List Int) : intsOf (ns.map D.int) = some ns := by
  induction ns with
  | nil => rfl
  | cons n ns ih => show (intsOf (ns.map D.int)).map (n :: ·) = _; rw [ih]; rfl
theorem blsOf_map (ns : List Bool) : blsOf (ns.map D.bl) = some ns := by
  induction ns with
  | nil => rfl
  | cons n ns ih => show (blsOf (ns.map D.bl)).map (n :: ·) = _; rw [ih]; rfl
def sumD : List D → Option D
  | [.lst _ xs] => (intsOf xs).bind fun ns => some (.int ns.sum)
  | _ => none
def allD : List D → Option D
  | [.lst _ xs] => (blsOf xs).bind fun ns => some (.bl (ns.all id))
  | _ => none
def anyD : List D → Option D
  | [.lst _ xs] => (blsOf xs).bind fun ns => some (.bl (ns.any id))
  | _ => none
def sortI (ns : List Int) : List Int := ns.mergeSort (fun a b => decide (a ≤ b))
theorem sortI_pw (ns : List Int) : (sortI ns).Pairwise (· ≤ ·) := by
  have := List.pairwise_mergeSort (le := fun a b : Int => decide (a ≤ b)) (fun a b c h1 h2 => by simp at h1 h2 ⊢; omega) (fun a b => by simp; omega) ns
  simpa [sortI] using this
theorem sortI_uniq {ns ms : List Int} (h : ms.Perm ns) (hp : ms.Pairwise (· ≤ ·)) : ms = sortI ns :=
  List.Perm.eq_of_pairwise (fun _ _ _ _ a b => Int.le_antisymm a b) hp (sortI_pw ns) (h.trans (List.mergeSort_perm _ _).symm)
def sortedID : List D → Option D
  | [.lst _ xs] => (intsOf xs).bind fun ns => some (.lst true ((sortI ns).map .int))
  | _ => none
section
variable {K : PySem.W.Frag}
theorem vok_sum : VOk K (rSum K) sumD := by
  intro G H vs ds d s rl e Q q
  unfold sumD at e
  split at e
  · obtain ⟨v, L, rfl, r1⟩ := rl.one
    obtain ⟨ns, e1, e2⟩ := Option.bind_eq_some_iff.mp e
    cases e2
    obtain ⟨a, vs, L1, rfl, h1, h2, _⟩ := r1.lstInv s
    obtain ⟨rfl, _⟩ := h2.ints e1
    exact ⟨a, ns, rfl, SqL.of h1, fin0 s (.int _) q⟩
  · cases e
theorem vok_all : VOk K (rAll K) allD := by
  intro G H vs ds d s rl e Q q
  unfold allD at e
  split at e
  · obtain ⟨v, L, rfl, r1⟩ := rl.one
    obtain ⟨ns, e1, e2⟩ := Option.bind_eq_some_iff.mp e
    cases e2
    obtain ⟨a, vs, L1, rfl, h1, h2, _⟩ := r1.lstInv s
    obtain rfl := h2.bls e1
    exact ⟨a, ns, rfl, SqL.of h1, fin0 s (.bl _) q⟩
  · cases e
theorem vok_any : VOk K (rAny K) anyD := by
  intro G H vs ds d s rl e Q q
  unfold anyD at e
  split at e
  · obtain ⟨v, L, rfl, r1⟩ := rl.one
    obtain ⟨ns, e1, e2⟩ := Option.bind_eq_some_iff.mp e
    cases e2
    obtain ⟨a, vs, L1, rfl, h1, h2, _⟩ := r1.lstInv s
    obtain rfl := h2.bls e1
    exact ⟨a, ns, rfl, SqL.of h1, fin0 s (.bl _) q⟩
  · cases e
theorem vok_sortedI : VOk K (rSortedI K) sortedID := by
  intro G H vs ds d s rl e Q q
  unfold sortedID at e
  split at e
  · obtain ⟨v, L, rfl, r1⟩ := rl.one
    obtain ⟨ns, e1, e2⟩ := Option.bind_eq_some_iff.mp e
    cases e2
    obtain ⟨a, vs, L1, rfl, h1, h2, _⟩ := r1.lstInv s
    obtain ⟨rfl, _⟩ := h2.ints e1
    refine ⟨a, ns, rfl, SqL.of h1, fun ns' p hp hw hn => ?_⟩
    obtain rfl := sortI_uniq hp hw
    obtain ⟨t, r⟩ := new_lst s hn (reps_ints _)
    exact q _ _ _ _ t r
  · cases e
/-! is of truths -/
def isBlD : List D → Option D
  | [.bl a, .bl b] => some (.bl (decide (a = b)))
  | _ => none
def notBlD : List D → Option D
  | [.bl a, .bl b] => some (.bl (!decide (a = b)))
  | _ => none
theorem vok_isBl : VOk K (r2L rIsB) isBlD := by
  intro G H vs ds d s rl e Q q
  unfold isBlD at e
  split at e
  · obtain ⟨v, u, L, M, rfl, r1, r2⟩ := rl.two
    cases e; cases r1; cases r2
    exact ⟨_, _, rfl, rfl, fin0 s (.bl _) q⟩
  · cases e
theorem vok_notBl : VOk K (r2L rNotB) notBlD := by
  intro G H vs ds d s rl e Q q
  unfold notBlD at e
  split at e
  · obtain ⟨v, u, L, M, rfl, r1, r2⟩ := rl.two
    cases e; cases r1; cases r2
    exact ⟨_, _, rfl, rfl, fin0 s (.bl _) q⟩
  · cases e
/-! in: of lists (any data), of tuples (flat items) -/
def flatD : D → Bool
  | .non => true
  | .bl _ => true
  | .int _ => true
  | .str _ => true
  | _ => false
def inD (neg : Bool) : List D → Option D
  | [x, .lst o xs] => if eqOk x = true ∧ eqOk (.lst o xs) = true then some (.bl (if neg then !xs.any fun z => deq z x else xs.any fun z => deq z x)) else none
  | [x, .tup xs] => if flatD x = true ∧ xs.all flatD = true then some (.bl (if neg then !xs.any fun z => deq z x else xs.any fun z => deq z x)) else none
  | _ => none
def rInA (K : PySem.W.Frag) : R2 := fun x y H Q => rInD K x y H Q ∨ rIn K false x y H Q
def rNotInA (K : PySem.W.Frag) : R2 := fun x y H Q => rNotInD K x y H Q ∨ rIn K true x y H Q
theorem flatV_of {G H : Hp} {v : V} {d : D} {L : List Addr} (h : Rep K G H v d L) (e : flatD d = true) : flatV v = true := by
  cases h <;> first | rfl | cases e
theorem eqV_of {G H : Hp} {v u : V} {x y : D} {L M : List Addr} (h : Rep K G H v x L) (h2 : Rep K G H u y M) (e : flatD x = true) (e2 : flatD y = true) : eqV v u = deq x y := by
  cases h <;> try (simp [flatD] at e; done)
  all_goals (cases h2 <;> first | rfl | (simp [flatD] at e2; done))
theorem flats_of {G H : Hp} : ∀ {vs : List V} {xs : List D} {L : List Addr}, Reps K G H vs xs L → xs.all flatD = true → vs.all flatV = true
  | _, [], _, .nil, _ => rfl
  | _, x :: r, _, .cons h hr _, e => by
    simp only [List.all_cons, Bool.and_eq_true] at e ⊢
    exact ⟨flatV_of h e.1, flats_of hr e.2⟩
theorem inV_of {G H : Hp} {v : V} {x : D} {M : List Addr} (hx : Rep K G H v x M) (ex : flatD x = true) : ∀ {vs : List V} {xs : List D} {L : List Addr}, Reps K G H vs xs L → xs.all flatD = true → inV v vs = xs.any fun z => deq z x
  | _, [], _, .nil, _ => rfl
  | _, y :: r, _, .cons h hr _, e => by
    simp only [List.all_cons, Bool.and_eq_true] at e
    unfold inV
    simp only [List.any_cons]
    rw [eqV_of h hx e.1 ex]
    congr 1
    exact inV_of hx ex hr e.2
theorem pyDs_any (xs : List D) (x : D) : ((pyDs xs).any fun z => PyData.eqv z (pyD x)) = xs.any fun z => deq z x := by
  induction xs with
  | nil => rfl
  | cons y xs ih => simp only [pyDs, List.any_cons, ih]; rfl
theorem vok_in : VOk K (r2L (rInA K)) (inD false) := by
  intro G H vs ds d s rl e Q q
  unfold inD at e
  split at e
  · rename_i x o xs
    obtain ⟨v, u, L, M, rfl, r1, r2⟩ := rl.two
    split at e
    · rename_i hz
      cases e
      obtain ⟨a1, a2⟩ := eqOk_split hz.1
      obtain ⟨b1, b2⟩ := eqOk_split hz.2
      refine .inl ⟨pyD x, pyDs xs, r1.dp s a1, by simpa only [pyD] using r2.dp s b1, a2, by simpa only [pyD] using b2, ?_⟩
      rw [pyDs_any]
      exact fin0 s (.bl _) q
    · cases e
  · rename_i x xs
    obtain ⟨v, u, L, M, rfl, r1, r2⟩ := rl.two
    split at e
    · rename_i hz
      cases e
      obtain ⟨a, us, rfl, h1, h2⟩ := r2.tupInv s
      refine .inr ⟨a, us, rfl, .inr h1, flatV_of r1 hz.1, flats_of h2 hz.2, ?_⟩
      rw [inV_of r1 hz.1 h2 hz.2]
      exact fin0 s (.bl _) q
    · cases e
  · cases e
theorem vok_notIn : VOk K (r2L (rNotInA K)) (inD true) := by
  intro G H vs ds d s rl e Q q
  unfold inD at e
  split at e
  · rename_i x o xs
    obtain ⟨v, u, L, M, rfl, r1, r2⟩ := rl.two
    split at e
    · rename_i hz
      cases e
      obtain ⟨a1, a2⟩ := eqOk_split hz.1
      obtain ⟨b1, b2⟩ := eqOk_split hz.2
      refine .inl ⟨pyD x, pyDs xs, r1.dp s a1, by simpa only [pyD] using r2.dp s b1, a2, by simpa only [pyD] using b2, ?_⟩
      rw [pyDs_any]
      exact fin0 s (.bl _) q
    · cases e
  · rename_i x xs
    obtain ⟨v, u, L, M, rfl, r1, r2⟩ := rl.two
    split at e
    · rename_i hz
      cases e
      obtain ⟨a, us, rfl, h1, h2⟩ := r2.tupInv s
      refine .inr ⟨a, us, rfl, .inr h1, flatV_of r1 hz.1, flats_of h2 hz.2, ?_⟩
      rw [inV_of r1 hz.1 h2 hz.2]
      exact fin0 s (.bl _) q
    · cases e
  · cases e
end
section
variable {X : Cx}
theorem op_inA (hu : X.A.units + 65 < cLine) : OpR X (compareOp .In) (rInA X.K) := by
  intro pins s σ H x y v u Q I rx ry h
  rcases h with h | h
  · exact op_inD hu pins s σ H x y v u Q I rx ry h
  · exact op_in_seq pins s σ H x y v u Q I rx ry h
theorem op_notInA (hu : X.A.units + 65 < cLine) : OpR X (compareOp .NotIn) (rNotInA X.K) := by
  intro pins s σ H x y v u Q I rx ry h
  rcases h with h | h
  · exact op_notInD hu pins s σ H x y v u Q I rx ry h
  · exact op_notIn_seq pins s σ H x y v u Q I rx ry h
end
end VS
set_option Elab.async false
set_option linter.all false
set_option maxRecDepth 100000
namespace VS
open PySem PySem.Spec PyProof.Rows L2 RZ
/-! ### methods of a list that only read it -/
def isL : Option D → Bool
  | some (.lst _ _) => true
  | _ => false
def methF (i : Nat) (g : List D → Option D) (ops : List Op) : FE := fun ρ => if isL (getS ρ i) = true then opF g (.b i :: ops) ρ else none
def consV (r : V → List V → Hp → VK → Prop) : List V → Hp → VK → Prop := fun vs H Q => match vs with
  | x :: xs => r x xs H Q
  | [] => False
section
variable {K : PySem.W.Frag}
theorem simE_meth {to : TE} {i : Nat} {ta : TA} {ops : List Op} {r : V → List V → Hp → VK → Prop} {g : List D → Option D} (ho : to = tVar i) (h : SimA K ta ops) (hv : VOk K (consV r) g) : SimE K (tBM K "list" r to ta) (methF i g ops) := by
  subst ho
  intro ρ d ρ' e σ G H F rr Q q
  unfold methF at e
  by_cases hl : isL (getS ρ i) = true
  · rw [if_pos hl] at e
    have hs : SimO K (tVar i) (.b i) := rfl
    have key := simE_op (simA_cons hs h) hv ρ d ρ' e σ G H F rr Q q
    obtain ⟨v, h1, h2⟩ := key
    refine ⟨v, h1, ?_, h2⟩
    cases h0 : getS ρ i with
    | none => rw [h0] at hl; cases hl
    | some d0 =>
      rw [h0] at hl
      cases d0 with
      | lst o xs =>
        obtain ⟨v', h3, h4⟩ := rr.at_ i _ h0
        rw [h1] at h3
        cases h3
        obtain ⟨a, vs, M, rfl, h5, _⟩ := h4.lstInv rr.sub
        exact .inl ⟨rfl, vs, SqL.of h5⟩
      | _ => cases hl
  · rw [if_neg hl] at e; cases e
def indexD : List D → Option D
  | [.lst o xs, d] => if eqOk d = true ∧ eqOk (.lst o xs) = true then (xs.findIdx? fun z => deq z d).map fun j => .int (j : Nat) else none
  | _ => none
theorem pyDs_get (xs : List D) (j : Nat) : (pyDs xs)[j]? = (xs[j]?).map pyD := by
  induction xs generalizing j with
  | nil => simp [pyDs]
  | cons x xs ih => cases j with
    | zero => simp [pyDs]
    | succ j => simp [pyDs, ih]
theorem vok_index : VOk K (consV (rIndexD K)) indexD := by
  intro G H vs ds d s rl e Q q
  unfold indexD at e
  split at e
  · rename_i o xs y
    obtain ⟨v, u, L, M, rfl, r1, r2⟩ := rl.two
    split at e
    · rename_i hz
      obtain ⟨j, hj, rfl⟩ := Option.map_eq_some_iff.mp e
      obtain ⟨a1, a2⟩ := eqOk_split hz.1
      obtain ⟨b1, b2⟩ := eqOk_split hz.2
      obtain ⟨a, ws, L1, rfl, _, _, _⟩ := r1.lstInv s
      obtain ⟨hlt, h1, h2⟩ := List.findIdx?_eq_some_iff_getElem.mp hj
      refine ⟨a, u, pyD y, pyDs xs, j, pyD xs[j], rfl, rfl, by simpa only [pyD] using r1.dp s b1, r2.dp s a1, by simpa only [pyD] using b2, a2, ?_, h1, fun m z' hm hz' => ?_, fin0 s (.int _) q⟩
      · rw [pyDs_get, List.getElem?_eq_getElem hlt]; rfl
      · rw [pyDs_get, List.getElem?_eq_getElem (by omega)] at hz'
        cases hz'
        have := h2 m hm
        simpa [deq] using this
    · cases e
  · cases e
def clrD : List D → List D → Option (D × List D) := fun xs ds => match ds with
  | [] => if noOwns xs = true then some (.non, []) else none
  | _ => none
theorem mok_clr : MOk K rClear clrD := by
  intro G H a vs us xs ds L M d xs' s hG hH hr hrs nLM e Q q
  unfold clrD at e
  split at e
  · split at e
    · rename_i hz
      cases e
      cases hrs
      exact ⟨a, vs, rfl, rfl, hH, q .non _ [] [] .nil .non (fun b hb => (by cases hb)) (fun b hb => (by cases hb)) (fun b _ hb => (by cases hb))⟩
    · cases e
  · cases e
end
section
variable {X : Cx} {o e : Expr} {es : List Expr} {i : Nat} {ops : List Op} {o1 : Op} {apos cpos : Pos}
theorem pf_index (hu : X.A.units + 65 < cLine) (ho : PE X o (tVar i)) (ha : PAf X (e :: es) ops) (hbase : attributeBase o "index" X.env (eval o X.env) = eval o X.env := by rfl)
    (hfew : ((backTo cpos (starEach (e :: es) X.env)).all (fun x => !x.1) && (backToKw cpos (keywordEach [] X.env)).all (fun x => x.1.isSome)
      && decide ((e :: es).length + ([] : List Keyword).length + (if ([] : List Keyword).isEmpty then 0 else 1) < 30)) = true := by rfl)
    (hline : (apos.endLine == cpos.line) = true := by rfl) (hs : starEach (e :: es) X.env = (false, eval e X.env) :: starEach es X.env := by rfl) (hplain : (backTo cpos (starEach es X.env)).any (·.1) = false := by rfl) :
    PEf X (.Call (.Attribute o "index" apos) (e :: es) [] cpos) (methF i indexD ops) :=
  .mk (pe_bm PySem.F.plainAttrs_list PySem.F.slot_list_index PySem.F.type_list_index (mt_indexD hu) ho ha hbase hfew hline hs hplain) (simE_meth rfl (simA_of ops) vok_index)
theorem pf_clear (ho : PE X o (tVar i)) (hbase : attributeBase o "clear" X.env (eval o X.env) = eval o X.env := by rfl) (hline : (apos.endLine == cpos.line) = true := by rfl) : PEf X (.Call (.Attribute o "clear" apos) [] [] cpos) (mutF i clrD []) :=
  .mk (pe_bm0 PySem.F.plainAttrs_list PySem.F.slot_list_clear PySem.F.type_list_clear mt_clear ho hbase hline) (bm0_bm ▸ simE_mut rfl simA_nil mok_clr)
end
/-! ### a < b < c -/
def int1 : List D → Option Int
  | [.int m] => some m
  | _ => none
def int2 : List D → Option (Int × Int)
  | [.int i, .int j] => some (i, j)
  | _ => none
def chainF (p p' : Int → Int → Bool) (o1 o2 o3 : Op) : FE := fun ρ => (evOps [o1, o2] ρ).bind fun P => (fetch [o1, o2] P.1 P.2).bind fun ds => (int2 ds).bind fun ij =>
  if p ij.1 ij.2 = true then (evOps [o3] P.2).bind fun P3 => (fetch [o3] P3.1 P3.2).bind fun es => (int1 es).bind fun m => some (.bl (p' ij.2 m), P3.2) else some (.bl false, P.2)
theorem int2_eq {ds : List D} {i j : Int} (h : int2 ds = some (i, j)) : ds = [.int i, .int j] := by
  unfold int2 at h
  split at h
  · cases h; rfl
  · cases h
theorem int1_eq {ds : List D} {i : Int} (h : int1 ds = some i) : ds = [.int i] := by
  unfold int1 at h
  split at h
  · cases h; rfl
  · cases h
section
variable {K : PySem.W.Frag}
theorem simE_chain {p p' : Int → Int → Bool} {ta tb tc : TE} {o1 o2 o3 : Op} (h1 : SimO K ta o1) (h2 : SimO K tb o2) (h3 : SimO K tc o3) :
    SimE K (tChain (rI0 fun i j => .bl (p i j)) (rI0 fun i j => .bl (p' i j)) ta tb tc) (chainF p p' o1 o2 o3) := by
  intro ρ d ρ' e σ G H F rr Q q
  unfold chainF at e
  obtain ⟨⟨ts, ρ1⟩, e1, e⟩ := Option.bind_eq_some_iff.mp e
  obtain ⟨ds, e2, e⟩ := Option.bind_eq_some_iff.mp e
  obtain ⟨⟨i, j⟩, e3, e⟩ := Option.bind_eq_some_iff.mp e
  obtain rfl := int2_eq e3
  refine simA_cons h1 (simA_cons h2 simA_nil) ρ ts ρ1 e1 σ G H F rr (fun vs H2 => match vs with
    | [x, y] => rI0 (fun i j => .bl (p i j)) x y H2 fun z H3 => ∃ k, z = .bl k ∧ (if k = true then tc σ H3 fun w' H4 => rI0 (fun i j => .bl (p' i j)) y w' H4 Q else Q (.bl false) H3)
    | _ => False) ?_
  intro vs G1 H1 F1 M t1 r1 ok n1
  obtain ⟨x, y, L1, L2, rfl, hx, hy⟩ := (ok.get r1 e2).two
  cases hx; cases hy
  refine ⟨i, j, rfl, rfl, _, rfl, ?_⟩
  by_cases hp : p i j = true
  · have e : ((evOps [o3] ρ1).bind fun P3 => (fetch [o3] P3.1 P3.2).bind fun es => (int1 es).bind fun m => some (D.bl (p' j m), P3.2)) = some (d, ρ') := by
      have e' : (if p i j = true then (evOps [o3] ρ1).bind fun P3 => (fetch [o3] P3.1 P3.2).bind fun es => (int1 es).bind fun m => some (D.bl (p' j m), P3.2) else some (D.bl false, ρ1)) = some (d, ρ') := e
      rwa [if_pos hp] at e'
    rw [if_pos hp]
    obtain ⟨⟨ts3, ρ3⟩, e4, e⟩ := Option.bind_eq_some_iff.mp e
    obtain ⟨es, e5, e⟩ := Option.bind_eq_some_iff.mp e
    obtain ⟨m, e6, e⟩ := Option.bind_eq_some_iff.mp e
    obtain rfl := int1_eq e6
    cases e
    refine simA_cons h3 simA_nil ρ1 ts3 ρ3 e4 σ G1 H1 F1 r1 (fun vs H4 => match vs with
      | [w'] => rI0 (fun i j => .bl (p' i j)) (.int j) w' H4 Q
      | _ => False) ?_
    intro vs G2 H2 F2 M2 t2 r2 ok2 n2
    obtain ⟨w', L3, rfl, hw⟩ := (ok2.get r2 e5).one
    cases hw
    refine ⟨j, m, rfl, rfl, ?_⟩
    exact q _ G2 H2 F2 [] (((t1.post fun a h => .inl h).trans (t2.post fun a h => .inl h)).post fun a h => h.elim id fun z => nomatch z) r2 (.bl _) (fun a z => nomatch z)
  · have e : some (D.bl false, ρ1) = some (d, ρ') := by
      have e' : (if p i j = true then (evOps [o3] ρ1).bind fun P3 => (fetch [o3] P3.1 P3.2).bind fun es => (int1 es).bind fun m => some (D.bl (p' j m), P3.2) else some (D.bl false, ρ1)) = some (d, ρ') := e
      rwa [if_neg hp] at e'
    cases e
    rw [if_neg hp]
    exact q _ G1 H1 F1 [] ((t1.post fun a h => .inl h).post fun a h => h.elim id fun z => nomatch z) r1 (.bl _) (fun a z => nomatch z)
end
section
variable {X : Cx} {a b c : Expr} {pos : Pos}
theorem pf_chain {op op' : CmpOp} {p p' : Int → Int → Bool} {o1 o2 o3 : Op} (ho : OpR X (compareOp op) (rI0 fun i j => .bl (p i j))) (ho' : OpR X (compareOp op') (rI0 fun i j => .bl (p' i j))) (h1 : POf X a o1) (h2 : POf X b o2) (h3 : POf X c o3)
    (hm : lastMarks [op, op'] [b, c] = false := by with_unfolding_all rfl) : PEf X (.Compare a [op, op'] [b, c] pos) (chainF p p' o1 o2 o3) := by
  obtain ⟨ta, p1, s1⟩ := h1.ex
  obtain ⟨tb, p2, s2⟩ := h2.ex
  obtain ⟨tc, p3, s3⟩ := h3.ex
  exact .mk (pe_chain ho ho' p1 p2 p3 hm) (simE_chain s1 s2 s3)
theorem pt_chainf {op op' : CmpOp} {p p' : Int → Int → Bool} {o1 o2 o3 : Op} (ho : OpR X (compareOp op) (rI0 fun i j => .bl (p i j))) (ho' : OpR X (compareOp op') (rI0 fun i j => .bl (p' i j))) (h1 : POf X a o1) (h2 : POf X b o2) (h3 : POf X c o3)
    (hm : lastMarks [op, op'] [b, c] = false := by with_unfolding_all rfl) : PTf X (.Compare a [op, op'] [b, c] pos) (bT (chainF p p' o1 o2 o3)) := by
  obtain ⟨ta, p1, s1⟩ := h1.ex
  obtain ⟨tb, p2, s2⟩ := h2.ex
  obtain ⟨tc, p3, s3⟩ := h3.ex
  exact .mk (pt_chain ho ho' p1 p2 p3 hm) (simT_of (simE_chain s1 s2 s3))
end
end VS
namespace VS
open PySem PySem.Spec PyProof.Rows L2 RZ
theorem units65 {k : Nat} {A : Around} (hr : Room k A) : A.units + 65 < cLine := by have := hr.un; omega
end VS
set_option Elab.async false
set_option linter.all false
set_option maxRecDepth 100000
namespace VS
open PySem PySem.Spec PyProof.Rows L2 RZ
/-! ### comb -/
def combD : List D → Option D
  | [.int a, .int b] => if 0 ≤ a ∧ 0 ≤ b ∧ a ≤ 18000 then some (.int (PySem.W.mcComb a b)) else none
  | _ => none
def rComb : List V → Hp → VK → Prop := fun xs H Q => ∃ a b : Int, xs = [.int a, .int b] ∧ 0 ≤ a ∧ 0 ≤ b ∧ a ≤ 18000 ∧ Q (.int (PySem.W.mcComb a b)) H
theorem cr_comb {X : Cx} : CallR X (.builtin "math.comb") rComb := by
  intro pins s σ H vs us Q I r h
  obtain ⟨a, b, rfl, h1, h2, h3, q⟩ := h
  obtain ⟨t, u, rfl⟩ := Vals.int2 r
  exact PySem.W.mc_comb h1 h2 (by omega) (.inr h3) fun _ => ⟨.int _, H, I.tok _, ⟨_, rfl⟩, q⟩
theorem vok_comb {K : PySem.W.Frag} : VOk K rComb combD := by
  intro G H vs ds d s rl e Q q
  unfold combD at e
  split at e
  · split at e
    · rename_i hz
      obtain ⟨v, u, L, M, rfl, r1, r2⟩ := rl.two
      cases e; cases r1; cases r2
      exact ⟨_, _, rfl, hz.1, hz.2.1, hz.2.2, fin0 s (.int _) q⟩
    · cases e
  · cases e
section
variable {X : Cx} {p pos : Pos} {e : Expr} {es : List Expr} {o : Op} {ops : List Op} {x : Str}
theorem pf_comb (hg : Gl X x) (hm : X.mg x = some (.builtin "math.comb")) (ha : PAf X (e :: es) (o :: ops)) (hdb : (x == ("__debug__" : Str)) = false := by decide)
    (he : starEach (e :: es) X.env = (false, eval e X.env) :: starEach es X.env := by rfl) (hpl : (backTo pos (starEach es X.env)).any (·.1) = false := by rfl) : PEf X (.Call (.Name x p) (e :: es) [] pos) (opF combD (o :: ops)) :=
  .mk (pe_callBfun cr_comb hg hm ha hdb he hpl) (simE_op (simA_of _) vok_comb)
end
/-! ### is True, is False, of truths, numbers and None -/
def isBvD : List D → Option D
  | [.bl a, .bl b] => some (.bl (decide (a = b)))
  | [.int _, .bl _] => some (.bl false)
  | [.non, .bl _] => some (.bl false)
  | _ => none
def notBvD : List D → Option D
  | [.bl a, .bl b] => some (.bl (!decide (a = b)))
  | [.int _, .bl _] => some (.bl true)
  | [.non, .bl _] => some (.bl true)
  | _ => none
def rIsBv : R2 := fun x y H Q => rIsB x y H Q ∨ ∃ b : Bool, y = .bl b ∧ (x = .non ∨ ∃ i, x = .int i) ∧ Q (.bl false) H
def rNotBv : R2 := fun x y H Q => rNotB x y H Q ∨ ∃ b : Bool, y = .bl b ∧ (x = .non ∨ ∃ i, x = .int i) ∧ Q (.bl true) H
theorem op_isBv {X : Cx} : OpR X (compareOp .Is) rIsBv := by
  intro pins s σ H x y v u Q I rx ry h
  rcases h with h | ⟨b, rfl, hx, q⟩
  · exact op_isBl pins s σ H x y v u Q I rx ry h
  · cases (show u = Value.bool b from ry)
    rcases hx with rfl | ⟨i, rfl⟩
    · cases (show v = Value.none from rx)
      exact wpAny_is_other rfl (fun z => nomatch z) ⟨.bl false, H, I, rfl, q⟩
    · obtain ⟨t, rfl⟩ := (show ∃ t, v = Value.int i t from rx)
      exact wpAny_is_other rfl (fun z => nomatch z) ⟨.bl false, H, I, rfl, q⟩
theorem op_notBv {X : Cx} : OpR X (compareOp .IsNot) rNotBv := by
  intro pins s σ H x y v u Q I rx ry h
  rcases h with h | ⟨b, rfl, hx, q⟩
  · exact op_notBl pins s σ H x y v u Q I rx ry h
  · cases (show u = Value.bool b from ry)
    rcases hx with rfl | ⟨i, rfl⟩
    · cases (show v = Value.none from rx)
      exact wpAny_isNot_other rfl (fun z => nomatch z) ⟨.bl true, H, I, rfl, q⟩
    · obtain ⟨t, rfl⟩ := (show ∃ t, v = Value.int i t from rx)
      exact wpAny_isNot_other rfl (fun z => nomatch z) ⟨.bl true, H, I, rfl, q⟩
theorem vok_isBv {K : PySem.W.Frag} : VOk K (r2L rIsBv) isBvD := by
  intro G H vs ds d s rl e Q q
  unfold isBvD at e
  split at e
  · obtain ⟨v, u, L, M, rfl, r1, r2⟩ := rl.two
    cases e; cases r1; cases r2
    exact .inl ⟨_, _, rfl, rfl, fin0 s (.bl _) q⟩
  · obtain ⟨v, u, L, M, rfl, r1, r2⟩ := rl.two
    cases e; cases r1; cases r2
    exact .inr ⟨_, rfl, .inr ⟨_, rfl⟩, fin0 s (.bl _) q⟩
  · obtain ⟨v, u, L, M, rfl, r1, r2⟩ := rl.two
    cases e; cases r1; cases r2
    exact .inr ⟨_, rfl, .inl rfl, fin0 s (.bl _) q⟩
  · cases e
theorem vok_notBv {K : PySem.W.Frag} : VOk K (r2L rNotBv) notBvD := by
  intro G H vs ds d s rl e Q q
  unfold notBvD at e
  split at e
  · obtain ⟨v, u, L, M, rfl, r1, r2⟩ := rl.two
    cases e; cases r1; cases r2
    exact .inl ⟨_, _, rfl, rfl, fin0 s (.bl _) q⟩
  · obtain ⟨v, u, L, M, rfl, r1, r2⟩ := rl.two
    cases e; cases r1; cases r2
    exact .inr ⟨_, rfl, .inr ⟨_, rfl⟩, fin0 s (.bl _) q⟩
  · obtain ⟨v, u, L, M, rfl, r1, r2⟩ := rl.two
    cases e; cases r1; cases r2
    exact .inr ⟨_, rfl, .inl rfl, fin0 s (.bl _) q⟩
  · cases e
/-! ### a list that stands in a list -/
section
variable {K : PySem.W.Frag} {G H : Hp}
theorem Reps.elem : ∀ {vs : List V} {xs : List D} {L : List Addr} {j : Nat} {d : D}, Reps K G H vs xs L → xs[j]? = some d → ∃ v M, vs[j]? = some v ∧ Rep K G H v d M ∧ (∀ a ∈ M, a ∈ L) ∧
    ∀ (H' : Hp) (d' : D) (M' : List Addr), (∀ a ∈ L, a ∉ M → H' a = H a) → Rep K G H' v d' M' → (∀ a ∈ M', a ∈ M) → ∃ L', Reps K G H' vs (xs.set j d') L' ∧ ∀ a ∈ L', a ∈ L
  | _, _, _, j, d, .nil, e => by simp at e
  | _, _, _, 0, d, .cons (v := v0) (L := L) (M := M) h r n, e => by
    simp at e; subst e
    refine ⟨v0, L, rfl, h, fun a ha => List.mem_append_left _ ha, fun H' d' M' hk hd hs => ⟨M' ++ M, .cons hd (r.keep ⟨Same.refl G, fun _ _ z => z, fun a ha => hk a (List.mem_append_right _ ha) fun hm => n a hm ha⟩) (fun a ha hm => n a (hs a ha) hm), fun a ha => ?_⟩⟩
    rcases List.mem_append.mp ha with z | z
    · exact List.mem_append_left _ (hs a z)
    · exact List.mem_append_right _ z
  | _, _, _, j + 1, d, .cons (v := v0) (L := L) (M := M) h r n, e => by
    obtain ⟨v, M1, h1, h2, h3, h4⟩ := r.elem (j := j) (by simpa using e)
    refine ⟨v, M1, by simpa using h1, h2, fun a ha => List.mem_append_right _ (h3 a ha), fun H' d' M' hk hd hs => ?_⟩
    obtain ⟨L', r', s'⟩ := h4 H' d' M' (fun a ha hm => hk a (List.mem_append_right _ ha) hm) hd hs
    refine ⟨L ++ L', .cons (h.keep ⟨Same.refl G, fun _ _ z => z, fun a ha => hk a (List.mem_append_left _ ha) fun hm => n a ha (h3 a hm)⟩) r' (fun a ha hm => n a ha (s' a hm)), fun a ha => ?_⟩
    rcases List.mem_append.mp ha with z | z
    · exact List.mem_append_left _ z
    · exact List.mem_append_right _ (s' a z)
end
/-- x[j] != [] -/
def neElF (i j : Nat) : FE := fun ρ => match getS ρ i with
  | some (.lst true xs) => match xs[j]? with
    | some (.lst true ys) => if eqOk (.lst true ys) = true then some (.bl (!deq (.lst true ys) (.lst true [])), ρ) else none
    | _ => none
  | _ => none
/-- x[j].pop() -/
def popElF (i j : Nat) : FE := fun ρ => match getS ρ i with
  | some (.lst true xs) => match xs[j]? with
    | some (.lst true ys) => if noOwns ys = true then (popD ys []).bind fun q => some (q.1, ρ.set i (some (.lst true (xs.set j (.lst true q.2))))) else none
    | _ => none
  | _ => none
section
variable {K : PySem.W.Frag}
theorem atI_natV {vs : List V} {j : Nat} {w : V} (h : vs[j]? = some w) : atI vs (j : Nat) = some w := by
  have hl := (List.getElem?_eq_some_iff.mp h).1
  refine atI_of (j := j) ?_ h
  unfold ixN
  rw [if_pos (by omega), if_pos (by omega), Int.toNat_natCast]
theorem simE_neEl {i j : Nat} : SimE K (tOp (rNeD K) (tOp (rIx K) (tVar i) (tC (.int (j : Nat)))) (tLst tNil)) (neElF i j) := by
  intro ρ d ρ' e σ G H F rr Q q
  unfold neElF at e
  cases h0 : getS ρ i with
  | none => rw [h0] at e; cases e
  | some d0 =>
    rw [h0] at e
    cases d0 with
    | lst o xs =>
      cases o with
      | false => cases e
      | true =>
        have e1 : (match xs[j]? with
          | some (.lst true ys) => if eqOk (.lst true ys) = true then some (D.bl (!deq (.lst true ys) (.lst true [])), ρ) else none
          | _ => none) = some (d, ρ') := e
        cases hx : xs[j]? with
        | none => rw [hx] at e1; cases e1
        | some d1 =>
          rw [hx] at e1
          cases d1 with
          | lst o ys =>
            cases o with
            | false => cases e1
            | true =>
              have e2 : (if eqOk (.lst true ys) = true then some (D.bl (!deq (.lst true ys) (.lst true [])), ρ) else none) = some (d, ρ') := e1
              by_cases hz : eqOk (.lst true ys) = true
              · rw [if_pos hz] at e2
                cases e2
                obtain ⟨v, hv, hrep⟩ := rr.at_ i _ h0
                obtain ⟨a, vs, L, rfl, hH, hr, hL⟩ := hrep.lstInv rr.sub
                obtain ⟨w, M, hw, hwr, hM, _⟩ := hr.elem hx
                refine ⟨_, hv, .inl ⟨a, vs, (j : Nat), w, rfl, rfl, SqL.of hH, atI_natV hw, Nat.zero_le _, fun p hp => ?_⟩⟩
                obtain ⟨t, rp⟩ := new_lst (vs := []) (xs := []) rr.sub hp .nil
                have hne : neD [.lst true ys, .lst true []] = some (.bl (!deq (.lst true ys) (.lst true []))) := by
                  show (if _ then _ else _) = _
                  rw [if_pos ⟨hz, rfl⟩]
                refine vok_ne G (upd H p (.lst [])) [w, .ref p] [.lst true ys, .lst true []] _ t.sub (.cons (hwr.tr t fun _ _ z => z) (.cons rp .nil)) hne Q fun v G' H' L' t2 rv => ?_
                have tt : Tr G H (fun _ => False) G' H' (fun a => a ∈ L') := (t.post fun _ z => z.elim).trans t2
                refine q v G' H' F L' (tt.wk (fun _ z => z.elim) fun a h => h.elim (fun h => .inr (.inl h)) .inl) (rr.tr tt fun _ _ z => z) rv fun a ha ⟨k, hk⟩ => ?_
                rcases tt.new a ha with z | z
                · exact z
                · obtain ⟨_, us, e, ld⟩ := rr.owned k a hk
                  rw [z] at e; cases e
              · rw [if_neg hz] at e2; cases e2
          | _ => cases e1
    | _ => cases e
theorem simE_popEl {i j : Nat} : SimE K (tBM0 K "list" rPop (tOp (rIx K) (tVar i) (tC (.int (j : Nat))))) (popElF i j) := by
  intro ρ d ρ' e σ G H F rr Q q
  unfold popElF at e
  cases h0 : getS ρ i with
  | none => rw [h0] at e; cases e
  | some d0 =>
    rw [h0] at e
    cases d0 with
    | lst o xs =>
      cases o with
      | false => cases e
      | true =>
        have e1 : (match xs[j]? with
          | some (.lst true ys) => if noOwns ys = true then (popD ys []).bind fun q => some (q.1, ρ.set i (some (.lst true (xs.set j (.lst true q.2))))) else none
          | _ => none) = some (d, ρ') := e
        cases hx : xs[j]? with
        | none => rw [hx] at e1; cases e1
        | some d1 =>
          rw [hx] at e1
          cases d1 with
          | lst o ys =>
            cases o with
            | false => cases e1
            | true =>
              have e2 : (if noOwns ys = true then (popD ys []).bind fun q => some (q.1, ρ.set i (some (.lst true (xs.set j (.lst true q.2))))) else none) = some (d, ρ') := e1
              by_cases hz : noOwns ys = true
              · rw [if_pos hz] at e2
                cases hp : popD ys [] with
                | none => rw [hp] at e2; cases e2
                | some pq =>
                  obtain ⟨d2, ys'⟩ := pq
                  rw [hp] at e2; cases e2
                  obtain ⟨v, hv, hrep⟩ := rr.at_ i _ h0
                  generalize hFi : F i = Fi at hrep
                  cases hrep with
                  | lstO hG hH hn hr =>
                    rename_i a vs L
                    obtain ⟨w, M, hw, hwr, hM, hset⟩ := hr.elem hx
                    cases hwr with
                    | lstO hGb hHb hnb hrb =>
                      rename_i b zs M1
                      have hM1 := hrb.noL hz
                      subst hM1
                      have hbL : b ∈ L := hM b List.mem_cons_self
                      have hab : b ≠ a := fun z => hn (z ▸ hbL)
                      refine ⟨.ref a, hv, .inl ⟨a, vs, (j : Nat), .ref b, rfl, rfl, SqL.of hH, atI_natV hw, .inl ⟨rfl, _, SqL.of hHb⟩, ?_⟩⟩
                      refine mok_pop G H b zs [] ys [] [] [] _ ys' rr.sub hGb hHb hrb .nil (fun _ z => nomatch z) hp Q fun v2 zs' L' N hr' hrv sL' sN nLN => ?_
                      have eN : N = [] := List.eq_nil_iff_forall_not_mem.mpr fun x hx => by rcases sN x hx with z | z <;> cases z
                      have eL : L' = [] := List.eq_nil_iff_forall_not_mem.mpr fun x hx => by rcases sL' x hx with z | z <;> cases z
                      subst eN eL
                      have k0 : Keep G H G (upd H b (.lst zs')) ([] : List Addr) := ⟨Same.refl _, fun _ z => (nomatch z), fun _ z => (nomatch z)⟩
                      have hin : Rep K G (upd H b (.lst zs')) (.ref b) (.lst true ys') [b] := .lstO hGb upd_same List.not_mem_nil (hr'.keep k0)
                      obtain ⟨L2, hr2, sL2⟩ := hset (upd H b (.lst zs')) (.lst true ys') [b] (fun x _ hx => upd_ne fun z => hx (z ▸ List.mem_cons_self)) hin (fun x hx => hx)
                      have hsub : ∀ x ∈ a :: L, x ∈ F i := fun x hx => by rw [hFi]; exact hx
                      have haH : (upd H b (.lst zs')) a = some (.lst vs) := (upd_ne hab.symm).trans hH
                      have hnew : Rep K G (upd H b (.lst zs')) (.ref a) (.lst true (xs.set j (.lst true ys'))) (a :: L2) := .lstO hG haH (fun z => hn (sL2 a z)) hr2
                      have tw : Tr G H (fun x => x = b) G (upd H b (.lst zs')) (fun x => x = b) := Tr.write rr.sub hGb rfl ⟨_, hHb⟩
                      have rd := (rr.drop i).tr tw fun x ⟨k, hk⟩ z => by
                        subst z
                        by_cases hki : k = i
                        · subst hki; rw [fset_same] at hk; cases hk
                        · rw [fset_ne hki] at hk; exact rr.dis k i hki _ hk (hsub _ (List.mem_cons_of_mem _ hbL))
                      have sub2 : ∀ x ∈ a :: L2, x ∈ F i := fun x hx => by
                        rcases List.mem_cons.mp hx with z | z
                        · subst z; exact hsub _ List.mem_cons_self
                        · exact hsub x (List.mem_cons_of_mem _ (sL2 x z))
                      have hap : ∀ x ∈ a :: L2, ∀ k, k ≠ i → x ∉ fset F i [] k := fun x hx k hk hxk => by
                        rw [fset_ne hk] at hxk
                        exact rr.dis k i hk _ hxk (sub2 x hx)
                      have rp := rd.re (i := i) (by rw [List.length_set]; exact rr.lt h0) hv hnew hap
                      rw [List.set_set] at rp
                      refine q v2 G _ _ [] ?_ rp (hrv.keep k0) fun x hx => nomatch hx
                      refine tw.wk (fun x z => ⟨i, z ▸ hsub b (List.mem_cons_of_mem _ hbL)⟩) fun x hx => .inr (.inl ?_)
                      rcases hx with ⟨k, hk⟩ | hx
                      · by_cases hki : k = i
                        · subst hki; rw [fset_same] at hk; exact ⟨k, sub2 x hk⟩
                        · rw [fset_ne hki, fset_ne hki] at hk; exact ⟨k, hk⟩
                      · cases hx
              · rw [if_neg hz] at e2; cases e2
          | _ => cases e1
    | _ => cases e
end
section
variable {X : Cx} {a : Expr} {i j : Nat} {k : Nat} {p1 p2 p3 apos cpos : Pos}
theorem pf_popEl (ho : PE X (.Subscript a (.Constant (.int (j : Nat)) k p1) p2) (tOp (rIx X.K) (tVar i) (tC (.int (j : Nat))))) (hbase : attributeBase (.Subscript a (.Constant (.int (j : Nat)) k p1) p2) "pop" X.env (eval (.Subscript a (.Constant (.int (j : Nat)) k p1) p2) X.env) = eval (.Subscript a (.Constant (.int (j : Nat)) k p1) p2) X.env := by rfl) (hline : (apos.endLine == cpos.line) = true := by rfl) :
    PEf X (.Call (.Attribute (.Subscript a (.Constant (.int (j : Nat)) k p1) p2) "pop" apos) [] [] cpos) (popElF i j) :=
  .mk (pe_bm0 PySem.F.plainAttrs_list PySem.F.slot_list_pop PySem.F.type_list_pop mt_pop ho hbase hline) simE_popEl
theorem pt_neEl (hu : X.A.units + 64 < cLine) (ho : PE X (.Subscript a (.Constant (.int (j : Nat)) k p1) p2) (tOp (rIx X.K) (tVar i) (tC (.int (j : Nat))))) : PTf X (.Compare (.Subscript a (.Constant (.int (j : Nat)) k p1) p2) [.NotEq] [.List [] p3] cpos) (bT (neElF i j)) :=
  .mk (pt_cmpR (op_neD hu) ho (pe_lst pa_nil) rfl) (simT_of simE_neEl)
end
end VS
set_option Elab.async false
set_option linter.all false
set_option maxRecDepth 100000
namespace VS
open PySem PySem.Spec PyProof.Rows L2 RZ
/-! ### sum of a tuple -/
section
variable {prog : Program} {w : World} {A : Around} {E : Value → Shared → Prop} {s : Shared} {l : Addr} {xs : Array (Int × Tok)}
theorem sum_tupW {Q : Value → Shared → Prop} (hh : A.handled = none) (hl : s.heap.IsTuple l (intItems xs))
    (q : ∀ h' tk t', (∀ b o, s.heap.get? b = some o → h'.get? b = some o) → Q (.int (preSum (numAt xs) xs.size) t') { s with heap := h', toks := tk }) : wpAny (model prog w) A (call (.builtin "sum") [.ref l]) Q E s := by
  have hlt : l < s.heap.objs.size := by
    obtain ⟨o, ho, _⟩ := hl
    exact Heap.lt_size ho
  refine call_sum_walkG (wpAny_pyIter_tuple hl ?_)
  refine ⟨_, _, _, _, _, _, numAt xs, rfl, Walks.tuple (A := A.in1) hh _ l (Nat.ne_of_lt hlt) (intItems xs), ⟨⟨_, Heap.get?_push_size _ rfl, rfl, rfl⟩, hl.push _⟩, fun c hc => ?_, (fun _ _ => intItems_at), fun h' tk t' hk => ?_⟩
  · show c < (s.heap.push _).objs.size
    rw [Heap.size_push]
    rcases List.mem_cons.mp hc with e | hc
    · subst e; exact Nat.lt_succ_self _
    · rcases List.mem_cons.mp hc with e | hc
      · subst e; exact Nat.lt_succ_of_lt hlt
      · cases hc
  · have old : ∀ b o, s.heap.get? b = some o → h'.get? b = some o := fun b o e => by
      refine hk b o (fun hm => ?_) (Heap.get?_push_of_some _ e)
      rcases List.mem_cons.mp hm with z | z
      · exact Nat.lt_irrefl _ (z ▸ Heap.lt_size e)
      · cases z
    have r := q h' tk t' old
    simpa [intItems] using r
end
def rSumT (K : PySem.W.Frag) : List V → Hp → VK → Prop := fun vs H Q => ∃ (a : Addr) (ns : List Int), vs = [V.ref a] ∧ SqT K H a (ns.map V.int) ∧ Q (.int ns.sum) H
def rSumA (K : PySem.W.Frag) : List V → Hp → VK → Prop := fun vs H Q => rSum K vs H Q ∨ rSumT K vs H Q
theorem cr_sumA {X : Cx} (hc : X.calm = true) : CallR X (.builtin "sum") (rSumA X.K) := by
  intro pins s σ H vs us Q I r h
  rcases h with h | ⟨a, ns, rfl, hs, q⟩
  · exact cr_sum hc pins s σ H vs us Q I r h
  · obtain ⟨its, rv, hl, _⟩ := I.tuple hs
    rw [Vals.ref1 r]
    have hi : IntsAre its ns := Vals.ints rv
    obtain ⟨xs, e⟩ := hi.allInts.items
    have hn : numsOf (intItems xs).toList = ns := by rw [← e]; exact hi.numsOf
    rw [nums_intItems] at hn
    rw [e] at hl
    refine sum_tupW (I.ok.hd hc) hl fun h' tk t' hk => ⟨.int _, H, I.kept hk, ⟨t', ?_⟩, q⟩
    rw [preSum_eq, List.take_of_length_le (by simp), hn]
def sumAD : List D → Option D
  | [.lst _ xs] => (intsOf xs).bind fun ns => some (.int ns.sum)
  | [.tup xs] => (intsOf xs).bind fun ns => some (.int ns.sum)
  | _ => none
theorem vok_sumA {K : PySem.W.Frag} : VOk K (rSumA K) sumAD := by
  intro G H vs ds d s rl e Q q
  unfold sumAD at e
  split at e
  · obtain ⟨v, L, rfl, r1⟩ := rl.one
    obtain ⟨ns, e1, e2⟩ := Option.bind_eq_some_iff.mp e
    cases e2
    obtain ⟨a, vs, L1, rfl, h1, h2, _⟩ := r1.lstInv s
    obtain ⟨rfl, _⟩ := h2.ints e1
    exact .inl ⟨a, ns, rfl, SqL.of h1, fin0 s (.int _) q⟩
  · obtain ⟨v, L, rfl, r1⟩ := rl.one
    obtain ⟨ns, e1, e2⟩ := Option.bind_eq_some_iff.mp e
    cases e2
    obtain ⟨a, vs, rfl, h1, h2⟩ := r1.tupInv s
    obtain ⟨rfl, _⟩ := h2.ints e1
    exact .inr ⟨a, ns, rfl, h1, fin0 s (.int _) q⟩
  · cases e
/-! ### count of a whole number in a list of such -/
def countF (k : Int) (f : FE) : FE := fun ρ => (f ρ).bind fun p => match p.1 with
  | .lst _ xs => (intsOf xs).bind fun ns => some (.int (ns.count k : Nat), p.2)
  | _ => none
theorem simE_cnt {K : PySem.W.Frag} {to : TE} {k : Int} {f : FE} (h : SimE K to f) : SimE K (tBM K "list" (rCntI K) to (tCons (tC (.int k)) tNil)) (countF k f) := by
  intro ρ d ρ' e σ G H F rr Q q
  unfold countF at e
  cases hf : f ρ with
  | none => rw [hf] at e; cases e
  | some p =>
    obtain ⟨d0, ρ1⟩ := p
    rw [hf] at e
    cases d0 with
    | lst o xs =>
      have e1 : (intsOf xs).bind (fun ns => some (D.int (ns.count k : Nat), ρ1)) = some (d, ρ') := e
      obtain ⟨ns, e2, e3⟩ := Option.bind_eq_some_iff.mp e1
      cases e3
      refine h ρ _ ρ' hf σ G H F rr _ fun v G1 H1 F1 L t1 r1 rv n1 => ?_
      obtain ⟨a, vs, L1, rfl, h1, h2, _⟩ := rv.lstInv r1.sub
      obtain ⟨rfl, _⟩ := h2.ints e2
      refine ⟨.inl ⟨rfl, _, SqL.of h1⟩, a, ns, k, rfl, rfl, SqL.of h1, q _ G1 H1 F1 [] (t1.post fun a h => h.elim .inl fun z => (nomatch z)) r1 (.int _) fun _ z => nomatch z⟩
    | _ => cases e
/-! ### a def that is asked, and hands nothing on: what is shown to it stays the caller's -/
def flat1 : D → Bool
  | .non => true
  | .bl _ => true
  | .int _ => true
  | _ => false
theorem flat1_rep {K : PySem.W.Frag} {G H G' H' : Hp} {v : V} {d : D} {N : List Addr} (h : flat1 d = true) (r : Rep K G H v d N) : Rep K G' H' v d [] := by
  cases d <;> first | (cases h; done) | (cases r; first | exact .non | exact .bl _ | exact .int _)
def callRdF (fn : Fn) (ops : List Op) : FE := fun ρ => (evOps ops ρ).bind fun p => (fetch ops p.1 p.2).bind fun ds => (fn.sem (freezes ds)).bind fun q => if flat1 q.1 = true then some (q.1, p.2) else none
theorem RepL.frz {K : PySem.W.Frag} {G H : Hp} (s : Same G H) : ∀ {vs : List V} {ds : List D}, RepL K G H vs ds → Reps K H H vs (freezes ds) []
  | _, _, .nil => .nil
  | _, _, .cons h r => by
    have := Reps.cons (h.frz s fun _ _ => rfl) (RepL.frz s r) (fun a ha => nomatch ha)
    exact this
theorem simE_callRd {K : PySem.W.Frag} {ta : TA} {ops : List Op} {fn : Fn} {dv : List V} {E : XK} (h : SimA K ta ops) (hd : dv = []) : SimE K (tCall (spOf K fn) dv E ta) (callRdF fn ops) := by
  subst hd
  intro ρ d ρ' e σ G H F r Q q
  unfold callRdF at e
  cases he : evOps ops ρ with
  | none => rw [he] at e; cases e
  | some p =>
    obtain ⟨ts, ρ1⟩ := p
    rw [he] at e
    have e1 : (fetch ops ts ρ1).bind (fun ds => (fn.sem (freezes ds)).bind fun q => if flat1 q.1 = true then some (q.1, ρ1) else none) = some (d, ρ') := e
    obtain ⟨ds, hf, e2⟩ := Option.bind_eq_some_iff.mp e1
    obtain ⟨⟨d1, os⟩, hs, e3⟩ := Option.bind_eq_some_iff.mp e2
    by_cases hz : flat1 d1 = true
    · rw [if_pos hz] at e3
      cases e3
      refine h ρ ts ρ' he σ G H F r _ fun vs G1 H1 F1 M t1 r1 ok n1 => ?_
      have rl := (ok.get r1 hf).frz r1.sub
      have hl : vs.length = fn.np := by rw [rl.length, fn.len _ _ hs]
      rw [List.append_nil]
      refine ⟨H1, freezes ds, [], d1, os, Same.refl _, rl, hl, hs, fun v G' H' P N t ro rv n => ?_⟩
      have sm : Same H1 H' := t.g.trans t.sub
      have tt : Tr G1 H1 (fun _ => False) G1 H' (fun _ => False) := ⟨Same.refl _, r1.sub.trans sm, fun a o e _ => sm a o e, fun _ _ _ _ => rfl, fun _ z => .inl z, fun a e => by
        cases ha : H1 a with
        | none => rfl
        | some o => rw [sm a o ha] at e; cases e⟩
      exact q v G1 H' F1 [] (t1.trans (tt.wk (B := fun a => own F1 a ∨ a ∈ M) (fun _ z => z.elim) fun a z => z.elim (fun z => .inr (.inl (.inl z))) fun z => (nomatch z))) (r1.tr tt fun _ _ z => z) (flat1_rep hz rv) fun a z => nomatch z
    · rw [if_neg hz] at e3; cases e3
/-! ### x[j][k] = v -/
def tgElF (i j k : Nat) : D → Env → Option Env := fun d ρ => match getS ρ i with
  | some (.lst true xs) => match xs[j]? with
    | some (.lst true ys) => if noOwns ys = true ∧ noOwn d = true ∧ k < ys.length then some (ρ.set i (some (.lst true (xs.set j (.lst true (ys.set k d)))))) else none
    | _ => none
  | _ => none
theorem ixN_natV {n k : Nat} (h : k < n) : ixN n (k : Nat) = some k := by
  unfold ixN
  rw [if_pos (by omega), if_pos (by omega), Int.toNat_natCast]
theorem simG_el {K : PySem.W.Frag} {pn : Nat → Bool} {i j k : Nat} : SimG K pn (gSub (tOp (rIx K) (tVar i) (tC (.int (j : Nat)))) (tC (.int (k : Nat))) rSetL) (tgElF i j k) := by
  intro d ρ ρ' e v σ G H F L0 rr hvd nn Q q
  unfold tgElF at e
  cases h0 : getS ρ i with
  | none => rw [h0] at e; cases e
  | some d0 =>
    rw [h0] at e
    cases d0 with
    | lst o xs =>
      cases o with
      | false => cases e
      | true =>
        have e1 : (match xs[j]? with
          | some (.lst true ys) => if noOwns ys = true ∧ noOwn d = true ∧ k < ys.length then some (ρ.set i (some (.lst true (xs.set j (.lst true (ys.set k d)))))) else none
          | _ => none) = some ρ' := e
        cases hx : xs[j]? with
        | none => rw [hx] at e1; cases e1
        | some d1 =>
          rw [hx] at e1
          cases d1 with
          | lst o ys =>
            cases o with
            | false => cases e1
            | true =>
              have e2 : (if noOwns ys = true ∧ noOwn d = true ∧ k < ys.length then some (ρ.set i (some (.lst true (xs.set j (.lst true (ys.set k d)))))) else none) = some ρ' := e1
              by_cases hz : noOwns ys = true ∧ noOwn d = true ∧ k < ys.length
              · rw [if_pos hz] at e2
                cases e2
                obtain ⟨z1, z2, z3⟩ := hz
                have eL0 := hvd.noL z2
                subst eL0
                obtain ⟨w0, hv, hrep⟩ := rr.at_ i _ h0
                generalize hFi : F i = Fi at hrep
                cases hrep with
                | lstO hG hH hn hr =>
                  rename_i a vs L
                  obtain ⟨w, M, hw, hwr, hM, hset⟩ := hr.elem hx
                  cases hwr with
                  | lstO hGb hHb hnb hrb =>
                    rename_i b zs M1
                    have hM1 := hrb.noL z1
                    subst hM1
                    have hbL : b ∈ L := hM b List.mem_cons_self
                    have hab : b ≠ a := fun z => hn (z ▸ hbL)
                    refine ⟨.ref a, hv, .inl ⟨a, vs, (j : Nat), .ref b, rfl, rfl, SqL.of hH, atI_natV hw, b, zs, (k : Nat), k, rfl, rfl, hHb, ixN_natV (by rw [hrb.length]; exact z3), ?_⟩⟩
                    obtain ⟨N, hN, sN⟩ := hrb.setAt k hvd (fun _ z => (nomatch z))
                    have eN : N = [] := List.eq_nil_iff_forall_not_mem.mpr fun x hx => by rcases sN x hx with z | z <;> cases z
                    subst eN
                    have k0 : Keep G H G (upd H b (.lst (zs.set k v))) ([] : List Addr) := ⟨Same.refl _, fun _ z => (nomatch z), fun _ z => (nomatch z)⟩
                    have hin : Rep K G (upd H b (.lst (zs.set k v))) (.ref b) (.lst true (ys.set k d)) [b] := .lstO hGb upd_same List.not_mem_nil (hN.keep k0)
                    obtain ⟨L2, hr2, sL2⟩ := hset (upd H b (.lst (zs.set k v))) (.lst true (ys.set k d)) [b] (fun x _ hx => upd_ne fun z => hx (z ▸ List.mem_cons_self)) hin (fun x hx => hx)
                    have hsub : ∀ x ∈ a :: L, x ∈ F i := fun x hx => by rw [hFi]; exact hx
                    have haH : (upd H b (.lst (zs.set k v))) a = some (.lst vs) := (upd_ne hab.symm).trans hH
                    have hnew : Rep K G (upd H b (.lst (zs.set k v))) (.ref a) (.lst true (xs.set j (.lst true (ys.set k d)))) (a :: L2) := .lstO hG haH (fun z => hn (sL2 a z)) hr2
                    have tw : Tr G H (fun x => x = b) G (upd H b (.lst (zs.set k v))) (fun x => x = b) := Tr.write rr.sub hGb rfl ⟨_, hHb⟩
                    have rd := (rr.drop i).tr tw fun x ⟨m, hk⟩ z => by
                      subst z
                      by_cases hki : m = i
                      · subst hki; rw [fset_same] at hk; cases hk
                      · rw [fset_ne hki] at hk; exact rr.dis m i hki _ hk (hsub _ (List.mem_cons_of_mem _ hbL))
                    have sub2 : ∀ x ∈ a :: L2, x ∈ F i := fun x hx => by
                      rcases List.mem_cons.mp hx with z | z
                      · subst z; exact hsub _ List.mem_cons_self
                      · exact hsub x (List.mem_cons_of_mem _ (sL2 x z))
                    have hap : ∀ x ∈ a :: L2, ∀ m, m ≠ i → x ∉ fset F i [] m := fun x hx m hk hxk => by
                      rw [fset_ne hk] at hxk
                      exact rr.dis m i hk _ hxk (sub2 x hx)
                    have rp := rd.re (i := i) (by rw [List.length_set]; exact rr.lt h0) hv hnew hap
                    rw [List.set_set] at rp
                    refine q σ G _ _ (tw.wk (fun x z => .inl ⟨i, z ▸ hsub b (List.mem_cons_of_mem _ hbL)⟩) fun x hx => .inr (.inl (.inl ?_))) rp Pin.refl
                    obtain ⟨m, hk⟩ := hx
                    by_cases hki : m = i
                    · subst hki; rw [fset_same] at hk; exact ⟨m, sub2 x hk⟩
                    · rw [fset_ne hki, fset_ne hki] at hk; exact ⟨m, hk⟩
              · rw [if_neg hz] at e2; cases e2
          | _ => cases e1
    | _ => cases e
/-! the rules -/
section
variable {X : Cx} {pn : Nat → Bool} {W : WX} {k : Nat} {f : Addr} {fd : FuncData} {ps : List Str} {fn : Fn} {x : Str} {p pos apos cpos : Pos} {e o a : Expr} {es : List Expr} {o1 : Op} {ops : List Op}
theorem pf_callRd (F : FnOk X.prog X.w X.K X.mg X.base CX0 k f fd ps (spOf X.K fn)) (hr : Room k X.A) (hg : Gl X x) (hm : X.mg x = some (.ref f)) (hk : PySem.W.keepIn X.K (.ref f) = true) (hb : Binds X.K fd ps [])
    (ha : PAf X (e :: es) ops) (hdb : (x == ("__debug__" : Str)) = false := by decide) (he : starEach (e :: es) X.env = (false, eval e X.env) :: starEach es X.env := by rfl) (hpl : (backTo pos (starEach es X.env)).any (·.1) = false := by rfl) :
    PEf X (.Call (.Name x p) (e :: es) [] pos) (callRdF fn ops) := .mk (pe_call F hr hg hm hk hb .nil pass0 ha hdb he hpl) (simE_callRd (simA_of _) rfl)
theorem pf_count {n : Int} {fe : FE} (ho : PEf X o fe) (he : PE X e (tC (.int n))) (hbase : attributeBase o "count" X.env (eval o X.env) = eval o X.env := by rfl)
    (hfew : ((backTo cpos (starEach [e] X.env)).all (fun x => !x.1) && (backToKw cpos (keywordEach [] X.env)).all (fun x => x.1.isSome)
      && decide ([e].length + ([] : List Keyword).length + (if ([] : List Keyword).isEmpty then 0 else 1) < 30)) = true := by rfl)
    (hline : (apos.endLine == cpos.line) = true := by rfl) (hs : starEach [e] X.env = (false, eval e X.env) :: starEach [] X.env := by rfl) (hplain : (backTo cpos (starEach ([] : List Expr) X.env)).any (·.1) = false := by rfl) :
    PEf X (.Call (.Attribute o "count" apos) [e] [] cpos) (countF n fe) := by
  exact .mk (pe_bm PySem.F.plainAttrs_list PySem.F.slot_list_count PySem.F.type_list_count mt_lcount ho (pa_cons he pa_nil hs) hbase hfew hline hs hplain) (simE_cnt (simE_of fe))
theorem pgf_el {i j m : Nat} {q1 q2 : Pos} {c1 : Nat} (ho : PE X (.Subscript a (.Constant (.int (j : Nat)) c1 q1) q2) (tOp (rIx X.K) (tVar i) (tC (.int (j : Nat))))) (hm : PE X e (tC (.int (m : Nat))))
    (ha : ∀ v, assign (.Subscript (.Subscript a (.Constant (.int (j : Nat)) c1 q1) q2) e pos) X.env v = (do
      let ov ← holding [v] (eval (.Subscript a (.Constant (.int (j : Nat)) c1 q1) q2) X.env)
      let iv ← holding [v, ov] (eval e X.env)
      standAt pos
      holding [v, ov, iv] (setItem ov iv v)
      release [v, ov, iv] []) := by intro _; rfl) : PGf X pn (.Subscript (.Subscript a (.Constant (.int (j : Nat)) c1 q1) q2) e pos) (tgElF i j m) :=
  .mk (pg_sub ho hm set_list ha) simG_el
end
end VS
set_option Elab.async false
set_option linter.all false
set_option maxRecDepth 100000
namespace VS
open PySem PySem.Spec PyProof.Rows L2 RZ
/-! ### xs[::-1] -/
def rRevQ (K : PySem.W.Frag) : V → Hp → VK → Prop := fun x H1 Q => ∃ a xs, x = .ref a ∧ SqL K H1 a xs ∧ ∀ p, H1 p = none → Q (.ref p) (upd H1 p (.lst xs.reverse))
def revLD : List D → Option D
  | [.lst _ xs] => if noOwns xs = true then some (.lst true xs.reverse) else none
  | _ => none
theorem vok_revL {K : PySem.W.Frag} : VOk K (r1L (rRevQ K)) revLD := by
  intro G H vs ds d s rl e Q q
  unfold revLD at e
  split at e
  · split at e
    · rename_i hz
      cases e
      obtain ⟨v, L, rfl, r1⟩ := rl.one
      obtain ⟨a, vs, L1, rfl, h1, h2, _⟩ := r1.lstInv s
      refine ⟨a, vs, rfl, SqL.of h1, fun p hp => ?_⟩
      obtain ⟨t, r⟩ := new_lst s hp (h2.to0 hz).reverse0
      exact q _ _ _ _ t r
    · cases e
  · cases e
section
variable {X : Cx} {e : Expr} {k : Nat} {p1 p2 p3 pos : Pos} {o : Op}
theorem pf_revL (he : POf X e o) : PEf X (.Subscript e (.Slice none none (some (.UnaryOp .USub (.Constant (.int 1) k p1) p2)) p3) pos) (opF revLD [o]) := by
  obtain ⟨te, p1, s1⟩ := he.ex
  exact .mk (pe_revL p1) (simE_op (simA_cons s1 simA_nil) vok_revL)
end
end VS
set_option Elab.async false
set_option linter.all false
set_option maxRecDepth 100000
set_option maxHeartbeats 4000000
namespace VS
open PySem PySem.Spec PyProof.Rows L2 RZ
/-! ### tuple * 0, tuple * 1 -/
theorem tuple_mul0W (l : Addr) (items : Array Value) (n : Nat) (dd : Option Addr) (sl : Array (Option Value)) (x : Int) (u : Tok) (c0 : (decide (x < -(2 ^ 63)) || decide (x ≥ 2 ^ 63)) = false) (c1 : (items.isEmpty || x == 1) = false) (c2 : (decide (x ≤ 0) || items.isEmpty) = true) :
    Meets (Builtin.«tuple.__mul__» ⟨[.ref l, .int x u], []⟩) (fun _ R s => s.heap.get? l = some { cls := .type "tuple", dict := dd, data := .seq items n, slots := sl } ∧
      R (.ok (.ret (Value.ref s.heap.objs.size))) { s with heap := s.heap.push { cls := Value.type "tuple", data := Data.seq #[] }, toks := s.toks }) :=
  .of_wp fun prog w A R s h => by
    obtain ⟨hp, g, d, tk, os⟩ := s
    obtain ⟨hl, h⟩ := h
    have f1 := AutoSeq1.idx_int
    wp_walk using wpAny_loadPart' hl
    refine wpAny_ite_false (decide_eq_false (by rw [c0]; exact Bool.false_ne_true)) ?_; wp_walk using wpAny_loadPart' hl
    repeat (first
      | (refine wpAny_ite_false (decide_eq_false (by rw [c1]; exact Bool.false_ne_true)) ?_; wp_walk using wpAny_loadPart' hl)
      | (refine wpAny_ite_true (decide_eq_true c2) ?_; wp_walk using wpAny_loadPart' hl))
    exact ⟨_, rfl, h⟩
theorem tuple_mul1W (l : Addr) (items : Array Value) (n : Nat) (dd : Option Addr) (sl : Array (Option Value)) (x : Int) (u : Tok) (c0 : (decide (x < -(2 ^ 63)) || decide (x ≥ 2 ^ 63)) = false) (c1 : (items.isEmpty || x == 1) = true) :
    Meets (Builtin.«tuple.__mul__» ⟨[.ref l, .int x u], []⟩) (fun _ R s => s.heap.get? l = some { cls := .type "tuple", dict := dd, data := .seq items n, slots := sl } ∧
      R (.ok (.ret (Value.ref l))) s) :=
  .of_wp fun prog w A R s h => by
    obtain ⟨hp, g, d, tk, os⟩ := s
    obtain ⟨hl, h⟩ := h
    have f1 := AutoSeq1.idx_int
    wp_walk using wpAny_loadPart' hl
    refine wpAny_ite_false (decide_eq_false (by rw [c0]; exact Bool.false_ne_true)) ?_; wp_walk using wpAny_loadPart' hl
    exact ⟨_, rfl, h⟩
def rRepT0 (K : PySem.W.Frag) : R2 := fun x y H Q => ∃ l xs, x = .ref l ∧ y = .int 0 ∧ SqT K H l xs ∧ xs ≠ [] ∧ ∀ p, H p = none → Q (.ref p) (upd H p (.tup []))
def rRepT1 (K : PySem.W.Frag) : R2 := fun x y H Q => ∃ l xs, x = .ref l ∧ y = .int 1 ∧ SqT K H l xs ∧ Q (.ref l) H
section
variable {X : Cx}
theorem op_repT0 : OpR X (binaryOp .Mult) (rRepT0 X.K) := by
  intro pins s σ H x y v u Q I rx ry h
  obtain ⟨l, xs, rfl, rfl, hT, hne, q⟩ := h
  cases rx
  obtain ⟨t, rfl⟩ := ry
  obtain ⟨its, r, ⟨⟨cls, dd, data, sl⟩, ho, hc, n, hd⟩, hs⟩ := I.tuple hT
  simp only at hc hd
  subst hc hd
  have hle : its.length = xs.length := r.length.symm
  have hn : its ≠ [] := fun e => hne (by
    rw [e] at hle
    exact List.eq_nil_of_length_eq_zero hle.symm)
  have hi : its.toArray.isEmpty = false := by
    cases its with
    | nil => exact absurd rfl hn
    | cons a b => rfl
  have c1 : (its.toArray.isEmpty || (0 : Int) == 1) = false := by rw [hi]; rfl
  refine wpAny_binaryOp_repeat_ref (T := "tuple") (U := "int") (by decide) ⟨_, ho, rfl⟩ (fun s' => typeIs_int s' 0 t) noFill_tuple_mul F.fills_int_mul F.slot_int_rmul repeat_tuple F.slot_int_index.lookup
    (call_meets F.slot_int_rmul (typeIs_int s 0 t) F.entry_int_rmul (F.args_int_rmul_2 _ _) (int_rmul_tuple 0 t l its.toArray n dd sl)
      ⟨ho, rfl, ⟨_, ho, rfl⟩, call_meets F.slot_tuple_mul ⟨_, ho, rfl⟩ F.entry_tuple_mul (F.args_tuple_mul_2 _ _) (tuple_mul0W l its.toArray n dd sl 0 t rfl c1 rfl) ⟨ho, ?_⟩⟩)
  refine ⟨.ref s.heap.objs.size, _, I.laid (t' := s.toks) (o := .tup []) (fun b ob q => Heap.get?_push_of_some _ q) (Nat.le_refl _) ?_, rfl, q _ (I.hok.fresh (Nat.le_refl _))⟩
  exact ⟨Nat.zero_le _, _, .nil, IsTup.new _ _⟩
theorem op_repT1 : OpR X (binaryOp .Mult) (rRepT1 X.K) := by
  intro pins s σ H x y v u Q I rx ry h
  obtain ⟨l, xs, rfl, rfl, hT, q⟩ := h
  cases rx
  obtain ⟨t, rfl⟩ := ry
  obtain ⟨its, r, ⟨⟨cls, dd, data, sl⟩, ho, hc, n, hd⟩, hs⟩ := I.tuple hT
  simp only at hc hd
  subst hc hd
  have c1 : (its.toArray.isEmpty || (1 : Int) == 1) = true := by cases its.toArray.isEmpty <;> rfl
  refine wpAny_binaryOp_repeat_ref (T := "tuple") (U := "int") (by decide) ⟨_, ho, rfl⟩ (fun s' => typeIs_int s' 1 t) noFill_tuple_mul F.fills_int_mul F.slot_int_rmul repeat_tuple F.slot_int_index.lookup
    (call_meets F.slot_int_rmul (typeIs_int s 1 t) F.entry_int_rmul (F.args_int_rmul_2 _ _) (int_rmul_tuple 1 t l its.toArray n dd sl)
      ⟨ho, rfl, ⟨_, ho, rfl⟩, call_meets F.slot_tuple_mul ⟨_, ho, rfl⟩ F.entry_tuple_mul (F.args_tuple_mul_2 _ _) (tuple_mul1W l its.toArray n dd sl 1 t rfl c1) ⟨ho, ?_⟩⟩)
  exact ⟨.ref l, H, I, rfl, q⟩
def rMulT (K : PySem.W.Frag) : R2 := fun x y H Q => rRepT0 K x y H Q ∨ (rRepT1 K x y H Q ∨ rRepT K x y H Q)
theorem op_mulT : OpR X (binaryOp .Mult) (rMulT X.K) := op_repT0.or (op_repT1.or op_repT)
end
def mulTD : List D → Option D
  | [.tup xs, .int k] => if noOwns xs = true ∧ xs ≠ [] ∧ 0 ≤ k ∧ k ≤ 1000 ∧ xs.length ≤ 1000 then some (.tup (List.replicate k.toNat xs).flatten) else none
  | _ => none
theorem vok_mulT {K : PySem.W.Frag} : VOk K (r2L (rMulT K)) mulTD := by
  intro G H vs ds d s rl e Q q
  unfold mulTD at e
  split at e
  · rename_i xs k
    obtain ⟨v, u, L, M, rfl, r1, r2⟩ := rl.two
    split at e
    · rename_i hz
      cases e; cases r2
      obtain ⟨z1, z2, z3, z4, z5⟩ := hz
      have e0 := r1.noL (d := .tup xs) z1
      subst e0
      obtain ⟨a, vs, rfl, h1, h2⟩ := r1.tupInv s
      have hl := h2.length
      have hne : vs ≠ [] := fun w => z2 (by
        rw [w] at hl
        exact List.eq_nil_of_length_eq_zero (by simpa using hl.symm))
      by_cases k0 : k = 0
      · subst k0
        refine .inl ⟨a, vs, rfl, rfl, h1, hne, fun p hp => ?_⟩
        obtain ⟨G', t, r⟩ := new_tup s hp (xs := []) (vs := []) .nil
        exact q _ _ _ _ t r
      · by_cases k1 : k = 1
        · subst k1
          refine .inr (.inl ⟨a, vs, rfl, rfl, h1, ?_⟩)
          have : (List.replicate (1 : Int).toNat xs).flatten = xs := by simp
          rw [this] at q
          exact fin0 s r1 q
        · refine .inr (.inr ⟨a, k, vs, rfl, rfl, h1, hne, by omega, z4, by rw [hl]; exact z5, fun p hp => ?_⟩)
          obtain ⟨G', t, r⟩ := new_tup s hp ((h2.to0 z1).rep0 _)
          exact q _ _ _ _ t r
    · cases e
  · cases e
end VS
set_option Elab.async false
set_option linter.all false
set_option maxRecDepth 100000
namespace VS
open PySem PySem.Spec PyProof.Rows L2 RZ
/-! ### min of two tuples of ints -/
section
variable {prog : Program} {w : World} {A : Around} {R : Result → Shared → Prop} {I S : Addr} {fp wr : List Addr} {P : Nat → Value → Prop} {St : Nat → Heap → Prop}
/-- the turn in which nothing is left -/
theorem min_end (W : Walks prog w A.in1 I fp wr 2 P St) (hf : S ∉ fp) (s : Shared) (x : Value) (c : Nat) (hst : St 2 s.heap)
    (hS : s.heap.get? S = some { cls := .type "list", dict := none, data := .seq #[x, x] c, slots := #[] })
    (q : ∀ h' tk, (∀ d o, d ∉ wr → d ≠ S → s.heap.get? d = some o → h'.get? d = some o) → R (.ok (.ret x)) { s with heap := h', toks := tk }) :
    codeAny (model prog w) A (.builtin "min.loop" ⟨[.ref I, .none, .ref S], []⟩) R s := by
  have hw : S ∉ wr := fun h => hf (W.sub _ h)
  refine codeAny_builtin F.entry_min_loop ?_
  rw [Around.under_plainId F.plain_min_loop _]
  refine wpAny_bind (wpAny_seqItems hS rfl ?_)
  refine wpAny_bind (wpAny_tryCatch (W.done s _ _ hst fun h' tk k => ?_))
  refine wpAny_bind ?_
  refine wpAny_updateSeq (k S _ hw hS) rfl (wpAny_bind (wpAny_letGo (wpAny_pure ?_)))
  exact q _ tk fun d o h1 h2 e => (Heap.get?_update_other _ _ (Ne.symm h2)).trans (k d o h1 e)
/-- the turn of the second thing -/
theorem min_mid (W : Walks prog w A.in1 I fp wr 2 P St) (hf : S ∉ fp) (s : Shared) (x y : Value) (m : Nat) (c : Bool) (hP : ∀ v, P 1 v → v = y) (hst : St 1 s.heap)
    (hc : ∀ (s' : Shared) (Q' : Value → Shared → Prop) (E' : Value → Shared → Prop), (∀ d o, d ∉ wr → s.heap.get? d = some o → s'.heap.get? d = some o) → Q' (.bool c) s' → wpAny (model prog w) A.in1 (richCompare .Lt y x) Q' E' s')
    (hS : s.heap.get? S = some { cls := .type "list", dict := none, data := .seq #[x, x] m, slots := #[] })
    (q : ∀ h' tk, (∀ d o, d ∉ wr → d ≠ S → s.heap.get? d = some o → h'.get? d = some o) → R (.ok (.ret (if c = true then y else x))) { s with heap := h', toks := tk }) :
    codeAny (model prog w) A (.builtin "min.loop" ⟨[.ref I, .none, .ref S], []⟩) R s := by
  have hw : S ∉ wr := fun h => hf (W.sub _ h)
  have hname : (toString "min" ++ toString ".loop" : String) = "min.loop" := by decide
  refine codeAny_builtin F.entry_min_loop ?_
  rw [Around.under_plainId F.plain_min_loop _]
  refine wpAny_bind (wpAny_seqItems hS rfl ?_)
  refine wpAny_bind (wpAny_tryCatch (W.item 1 s _ _ (by omega) hst fun v h' tk hv hst' k => ?_))
  obtain rfl := hP v hv
  have hS' := k S _ hw hS
  show wpAny _ A.in1 (tryCatch (holding [v, v] (richCompare .Lt v x >>= _)) _ >>= _) _ _ _
  refine wpAny_bind (wpAny_tryCatch (wpAny_holding (wpAny_bind (hc _ _ _ k ?_))))
  refine wpAny_bind (wpAny_holding (wpAny_truthy_bool ?_))
  refine wpAny_bind (wpAny_letGo (wpAny_pure ?_))
  cases c with
  | true =>
    simp only [if_true] at q ⊢
    refine wpAny_bind ?_
    refine wpAny_updateSeq hS' rfl (wpAny_bind (wpAny_letGo ?_))
    rw [hname]
    refine wpAny_pure ⟨plainId_quiet F.plain_min_loop _, min_end W hf _ v _ (W.frame _ _ _ hst' fun d hd o e => ?_) (Heap.get?_update_self _ hS' rfl) fun h'' tk'' k2 => ?_⟩
    · exact (Heap.get?_update_other _ _ (fun h : S = d => hf (by rw [h]; exact hd))).trans e
    · exact q _ _ fun d o h1 h2 e => k2 d o h1 h2 ((Heap.get?_update_other _ _ (Ne.symm h2)).trans (k d o h1 e))
  | false =>
    simp only [Bool.false_eq_true, if_false] at q ⊢
    refine wpAny_bind (wpAny_letGo ?_)
    rw [hname]
    refine wpAny_pure ⟨plainId_quiet F.plain_min_loop _, min_end W hf _ x m hst' hS' fun h'' tk'' k2 => ?_⟩
    exact q _ _ fun d o h1 h2 e => k2 d o h1 h2 (k d o h1 e)
/-- the turn of the first thing -/
theorem min_one (W : Walks prog w A.in1 I fp wr 2 P St) (hf : S ∉ fp) (s : Shared) (x y : Value) (m : Nat) (c : Bool) (hP0 : ∀ v, P 0 v → v = x) (hP : ∀ v, P 1 v → v = y) (hst : St 0 s.heap)
    (hc : ∀ (s' : Shared) (Q' : Value → Shared → Prop) (E' : Value → Shared → Prop), (∀ d o, d ∉ wr → d ≠ S → s.heap.get? d = some o → s'.heap.get? d = some o) → Q' (.bool c) s' → wpAny (model prog w) A.in1 (richCompare .Lt y x) Q' E' s')
    (hS : s.heap.get? S = some { cls := .type "list", dict := none, data := .seq #[] m, slots := #[] })
    (q : ∀ h' tk, (∀ d o, d ∉ wr → d ≠ S → s.heap.get? d = some o → h'.get? d = some o) → R (.ok (.ret (if c = true then y else x))) { s with heap := h', toks := tk }) :
    codeAny (model prog w) A (.builtin "min.loop" ⟨[.ref I, .none, .ref S], []⟩) R s := by
  have hw : S ∉ wr := fun h => hf (W.sub _ h)
  have hname : (toString "min" ++ toString ".loop" : String) = "min.loop" := by decide
  refine codeAny_builtin F.entry_min_loop ?_
  rw [Around.under_plainId F.plain_min_loop _]
  refine wpAny_bind (wpAny_seqItems hS rfl ?_)
  refine wpAny_bind (wpAny_tryCatch (W.item 0 s _ _ (by omega) hst fun v h' tk hv hst' k => ?_))
  obtain rfl := hP0 v hv
  have hS' := k S _ hw hS
  show wpAny _ A.in1 (updateSeq S (fun _ => #[v, v]) >>= _) _ _ _
  refine wpAny_bind ?_
  refine wpAny_updateSeq hS' rfl ?_
  rw [hname]
  refine wpAny_pure ⟨plainId_quiet F.plain_min_loop _, min_mid W hf _ v y _ c hP (W.frame _ _ _ hst' fun d hd o e => ?_) (fun s' Q' E' k2 q' => hc s' Q' E' (fun d o h1 h2 e => k2 d o h1 ?_) q') (Heap.get?_update_self _ hS' rfl) fun h'' tk'' k2 => ?_⟩
  · exact (Heap.get?_update_other _ _ (fun h : S = d => hf (by rw [h]; exact hd))).trans e
  · exact (Heap.get?_update_other _ _ (Ne.symm h2)).trans (k d o h1 e)
  · exact q _ _ fun d o h1 h2 e => k2 d o h1 h2 ((Heap.get?_update_other _ _ (Ne.symm h2)).trans (k d o h1 e))
end
section
variable {prog : Program} {w : World} {A : Around} {E : Value → Shared → Prop} {s : Shared}
/-- the lesser one of two things that compare as c says, wherever what stood still stands -/
theorem min_pair {a b : Value} {c : Bool} {Q : Value → Shared → Prop} (hh : A.handled = none)
    (hc : ∀ (s' : Shared) (Q' : Value → Shared → Prop) (E' : Value → Shared → Prop), (∀ d o, s.heap.get? d = some o → s'.heap.get? d = some o) → Q' (.bool c) s' → wpAny (model prog w) A.in1 (richCompare .Lt b a) Q' E' s')
    (h : ∀ h' tk, (∀ d o, s.heap.get? d = some o → h'.get? d = some o) → Q (if c = true then b else a) { s with heap := h', toks := tk }) :
    wpAny (model prog w) A (call (.builtin "min") [a, b]) Q E s := by
  have hname : (toString "min" ++ toString ".loop" : String) = "min.loop" := by decide
  refine call_function_tree F.kind_min F.plain_min F.entry_min (F.args_min2 _ _) ?_
  show wpAny _ A.in1 (Builtin.Builtins.bindParams "min" ["key", "default"] 0 ⟨[], []⟩ >>= _) _ _ s
  refine wpAny_bind (wpAny_of_eq (show Builtin.Builtins.bindParams "min" ["key", "default"] 0 ⟨[], []⟩ = pure [none, none] from rfl) ?_)
  show wpAny _ A.in1 (newTuple [a, b] >>= _) _ _ s
  refine wpAny_bind (wpAny_newObj_type ?_)
  have hT : (s.heap.push { cls := .type "tuple", data := .seq #[a, b] }).IsTuple s.heap.objs.size #[a, b] := ⟨_, Heap.get?_push_size _ rfl, rfl, 0, rfl⟩
  have hsz : (s.heap.push { cls := .type "tuple", data := .seq #[a, b] }).objs.size = s.heap.objs.size + 1 := Heap.size_push ..
  refine wpAny_bind (wpAny_pyIter_tuple hT ?_)
  have W := Walks.tuple (prog := prog) (w := w) (A := A.in1) hh (s.heap.push { cls := .type "tuple", data := .seq #[a, b] }).objs.size s.heap.objs.size (by rw [hsz]; exact Nat.ne_of_lt (Nat.lt_succ_self _)) #[a, b]
  refine wpAny_bind (wpAny_newObj_type ?_)
  rw [hname]
  have keep : ∀ {h' : Heap} {o1 o2 o3 : Obj}, (∀ d o, d ∉ [(s.heap.push o1).objs.size] → d ≠ ((s.heap.push o1).push o2).objs.size → (((s.heap.push o1).push o2).push o3).get? d = some o → h'.get? d = some o) → ∀ d o, s.heap.get? d = some o → h'.get? d = some o := by
    intro h' o1 o2 o3 hk d o e
    have hl := Heap.lt_size e
    refine hk d o (fun hm => ?_) (fun hm => ?_) (Heap.get?_push_of_some _ (Heap.get?_push_of_some _ (Heap.get?_push_of_some _ e)))
    · have hm : d = (s.heap.push o1).objs.size := by simpa using hm
      rw [hm, Heap.size_push] at hl
      exact Nat.lt_irrefl _ (Nat.lt_of_succ_lt hl)
    · rw [hm, Heap.size_push, Heap.size_push] at hl
      exact Nat.lt_irrefl _ (Nat.lt_of_succ_lt (Nat.lt_of_succ_lt hl))
  refine wpAny_pure ⟨plainId_quiet F.plain_min_loop _, min_one (P := fun i v => (#[a, b] : Array Value)[i]? = some v) W ?_ _ a b _ c (fun v hv => by simpa using hv.symm) (fun v hv => by simpa using hv.symm) ?_ (fun s' Q' E' k q' => hc s' Q' E' (keep k) q') (Heap.get?_push_size _ rfl) fun h' tk k => h h' tk (keep k)⟩
  · intro hm
    simp only [List.mem_cons, List.not_mem_nil, or_false] at hm
    rcases hm with hm | hm
    · rw [Heap.size_push] at hm
      exact Nat.succ_ne_self _ hm
    · rw [Heap.size_push, Heap.size_push] at hm
      exact Nat.ne_of_gt (Nat.lt_succ_of_lt (Nat.lt_succ_self _)) hm
  · exact ⟨⟨_, Heap.get?_push_of_some _ (Heap.get?_push_size _ rfl), rfl, rfl⟩, (hT.push _).push _⟩
end
def rMinT (K : PySem.W.Frag) : List V → Hp → VK → Prop := fun vs H Q => ∃ (a b : Addr) (ns ms : List Int), vs = [V.ref a, V.ref b] ∧ SqT K H a (ns.map V.int) ∧ SqT K H b (ms.map V.int) ∧ Q (if HT.lexLt ms ns = true then .ref b else .ref a) H
theorem call_minT {X : Cx} (hc : X.calm = true) (hu : X.A.units + 65 < cLine) : CallR X (.builtin "min") (rMinT X.K) := by
  intro pins s σ H vs us Q I r h
  obtain ⟨a, b, ns, ms, rfl, ha, hb, q⟩ := h
  obtain ⟨u, w', rfl, r1, r2⟩ := vals2 r
  cases r1
  cases r2
  obtain ⟨its, rv, p1, _⟩ := I.tuple ha
  obtain ⟨its2, rv2, p2, _⟩ := I.tuple hb
  have i1 : IntsAre its.toArray.toList ns := intsAre_of rv
  have i2 : IntsAre its2.toArray.toList ms := intsAre_of rv2
  refine min_pair (c := HT.lexLt ms ns) (I.ok.hd hc) (fun s' Q' E' k q' => ?_) fun h' tk k => ⟨_, H, I.kept k, ?_, q⟩
  · obtain ⟨o1, e1, x1⟩ := p1
    obtain ⟨o2, e2, x2⟩ := p2
    exact HT.lt_tupInts (A := X.A.in1) ⟨o2, k _ _ e2, x2⟩ ⟨o1, k _ _ e1, x1⟩ i2 i1 (by show X.A.units + 1 < cLine; omega) q'
  · by_cases c : HT.lexLt ms ns = true
    · rw [if_pos c, if_pos c]; rfl
    · rw [if_neg c, if_neg c]; rfl
def minTD : List D → Option D
  | [.tup xs, .tup ys] => (intsOf xs).bind fun ns => (intsOf ys).bind fun ms => some (if HT.lexLt ms ns = true then .tup ys else .tup xs)
  | _ => none
theorem noOwns_of (ns : List Int) : noOwn (D.tup (ns.map D.int)) = true := by
  show noOwns _ = true
  induction ns with
  | nil => rfl
  | cons n ns ih => rw [List.map_cons]; simp only [noOwns, noOwn, Bool.true_and]; exact ih
theorem vok_minT {K : PySem.W.Frag} : VOk K (rMinT K) minTD := by
  intro G H vs ds d s rl e Q q
  unfold minTD at e
  split at e
  · rename_i xs ys
    obtain ⟨v, u, L, M, rfl, r1, r2⟩ := rl.two
    obtain ⟨ns, e1, e⟩ := Option.bind_eq_some_iff.mp e
    obtain ⟨ms, e2, e⟩ := Option.bind_eq_some_iff.mp e
    cases e
    obtain ⟨a, vs, rfl, h1, h2⟩ := r1.tupInv s
    obtain ⟨b, us, rfl, h3, h4⟩ := r2.tupInv s
    obtain ⟨rfl, z1⟩ := h2.ints e1
    obtain ⟨rfl, z2⟩ := h4.ints e2
    subst z1; subst z2
    have n1 : noOwn (D.tup (ns.map D.int)) = true := by
      have := noOwns_of ns
      exact this
    have n2 : noOwn (D.tup (ms.map D.int)) = true := noOwns_of ms
    have e1 := r1.noL n1
    have e2 := r2.noL n2
    subst e1; subst e2
    refine ⟨a, b, ns, ms, rfl, h1, h3, ?_⟩
    by_cases c : HT.lexLt ms ns = true
    · rw [if_pos c]
      rw [if_pos c] at q
      exact fin0 s r2 q
    · rw [if_neg c]
      rw [if_neg c] at q
      exact fin0 s r1 q
  · cases e
end VS
set_option Elab.async false
set_option linter.all false
set_option maxRecDepth 100000
namespace VS
open PySem PySem.Spec PyProof.Rows L2 RZ
/-! ### t1 = t2 = e, of a thing that holds no list of its own -/
def asg2F (f : FE) (g1 g2 : D → Env → Option Env) : FS := fun ρ => (f ρ).bind fun p => if noOwn p.1 = true then (g1 p.1 p.2).bind fun ρ1 => (g2 p.1 ρ1).bind fun ρ2 => some (.nx ρ2) else none
section
variable {X : Cx} {e : Expr} {pos : Pos} {pn : Nat → Bool} {W : WX} {K : PySem.W.Frag}
theorem simS_asg2 {te : TE} {g1 g2 : TG} {f : FE} {fg1 fg2 : D → Env → Option Env} (h1 : SimE K te f) (h2 : SimG K pn g1 fg1) (h3 : SimG K pn g2 fg2) : SimS K pn W (tAsg2 te g1 g2) (asg2F f fg1 fg2) := by
  intro ρ o e σ G H F r E q
  unfold asg2F at e
  cases hf : f ρ with
  | none => rw [hf] at e; cases e
  | some p =>
    obtain ⟨d, ρ1⟩ := p
    rw [hf] at e
    have e0 : (if noOwn d = true then (fg1 d ρ1).bind fun ρ2 => (fg2 d ρ2).bind fun ρ3 => some (Out.nx ρ3) else none) = some o := e
    split at e0
    · rename_i hd
      cases hg : fg1 d ρ1 with
      | none => rw [hg] at e0; cases e0
      | some ρ2 =>
        rw [hg] at e0
        have e1 : (fg2 d ρ2).bind (fun ρ3 => some (Out.nx ρ3)) = some o := e0
        cases hg2 : fg2 d ρ2 with
        | none => rw [hg2] at e1; cases e1
        | some ρ3 =>
          rw [hg2] at e1; cases e1
          refine h1 ρ d ρ1 hf σ G H F r _ fun v G1 H1 F1 L t1 r1 rv n1 => ?_
          have e0 := rv.noL hd
          subst e0
          refine h2 d ρ1 ρ2 hg v σ G1 H1 F1 [] r1 rv n1 _ fun σ2 G2 H2 F2 t2 r2 p2 => ?_
          have t2' := t2.post (A2 := fun a => own F2 a ∨ a ∈ ([] : List Addr)) fun x hx => hx.resolve_right (by simp)
          refine h3 d ρ2 ρ3 hg2 v σ2 G2 H2 F2 [] r2 (rv.tr t2 fun a ha => (by cases ha)) (fun a ha => (by cases ha)) _ fun σ3 G3 H3 F3 t3 r3 p3 => ?_
          exact q σ3 G3 H3 F3 ((t1.trans t2').trans t3) r3 (p2.trans p3)
    · cases e0
theorem psf_asg2 {a b : Expr} {f : FE} {g1 g2 : D → Env → Option Env} (h : PEf X e f) (hg : PGf X pn a g1) (hg2 : PGf X pn b g2)
    (ha : (assignEach [a, b] X.env).map (·.2) = [assign a X.env, assign b X.env] := by rfl) (hw : swappedStores [a, b] e X.env = pure none := by rfl) : PSf X pn W (.Assign [a, b] e pos) (asg2F f g1 g2) :=
  .mk (ps_asg2 h hg hg2 ha hw) (simS_asg2 (simE_of f) (simG_of g1) (simG_of g2))
end
end VS
set_option Elab.async false
set_option linter.all false
set_option maxRecDepth 100000
namespace VS
open PySem PySem.Spec PyProof.Rows L2 RZ
/-! ### xs.extend(ys), xs += ys: ys a list of things that own nothing -/
def extD : List D → List D → Option (D × List D) := fun xs ds => match ds with
  | [.lst _ zs] => if noOwns zs = true ∧ xs.length + zs.length ≤ smallL then some (.non, xs ++ zs) else none
  | _ => none
section
variable {K : PySem.W.Frag} {pn : Nat → Bool} {W : WX}
theorem Reps.app {G H : Hp} : ∀ {vs us : List V} {xs zs : List D} {L : List Addr}, Reps K G H vs xs L → Reps K G H us zs [] → Reps K G H (vs ++ us) (xs ++ zs) L
  | _, us, _, zs, _, .nil, h => h
  | _, us, _, zs, _, .cons hv hr n, h => .cons hv (Reps.app hr h) n
theorem mok_ext : MOk K rExtend extD := by
  intro G H a vs us xs ds L M d xs' s hG hH hr hrs nLM e Q q
  unfold extD at e
  split at e
  · rename_i o zs
    split at e
    · rename_i hz
      cases e
      cases hrs with
      | cons hv rr nn =>
        cases rr
        rename_i v L1
        rw [List.append_nil] at nLM q
        obtain ⟨b, us', L2, rfl, hB, h2, _⟩ := hv.lstInv s
        have h0 := h2.to0 hz.1
        refine ⟨a, b, vs, us', rfl, rfl, hH, hB, ?_, q .non (vs ++ us') L [] (hr.app h0) .non (fun b hb => .inl hb) (fun b hb => (by cases hb)) (fun b _ hb => (by cases hb))⟩
        rw [hr.length, h2.length]
        exact small_line hz.2
    · cases e
  · cases e
theorem simS_ext {i : Nat} {te : TE} {o : Op} (ho : SimO K te o) : SimS K pn W (tAug i te rExt2) (dropF (mutF i extD [o])) := by
  have h1 : SimS K pn W (tDrop (tBM K "list" rExtend (tVar i) (tCons te tNil))) (dropF (mutF i extD [o])) := simS_drop (simE_mut rfl (simA_cons ho simA_nil) mok_ext)
  intro ρ out e σ G H F r E q
  have h2 := h1 ρ out e σ G H F r E q
  obtain ⟨v, hv, _, h3⟩ := h2
  refine ⟨v, hv, ?_⟩
  have h4 : te σ H fun y H1 => rExtend v [y] H1 fun _ H2 => E.nx σ H2 := h3
  have es : σ.set i (some v) = σ := by
    apply List.ext_getElem?
    intro j
    by_cases hj : i = j
    · subst hj
      rw [List.getElem?_set_self (List.getElem?_eq_some_iff.mp hv).1, hv]
    · rw [List.getElem?_set_ne hj]
  have m : (fun y H1 => rExtend v [y] H1 fun _ H2 => E.nx σ H2) = fun y H1 => rExt2 v y H1 fun z H2 => E.nx (σ.set i (some z)) H2 := by
    funext y H1
    refine propext ⟨?_, ?_⟩
    · rintro ⟨l, b, xs, zs, rfl, hy, h1, h2, h3, h4⟩
      cases hy
      refine ⟨l, b, xs, zs, rfl, rfl, h1, h2, h3, ?_⟩
      show E.nx (σ.set i (some (V.ref l))) _
      rw [es]
      exact h4
    · rintro ⟨l, b, xs, zs, rfl, rfl, h1, h2, h3, h4⟩
      have h4 : E.nx (σ.set i (some (V.ref l))) (upd H1 l (.lst (xs ++ zs))) := h4
      rw [es] at h4
      exact ⟨l, b, xs, zs, rfl, rfl, h1, h2, h3, h4⟩
  rw [m] at h4
  exact h4
end
section
variable {X : Cx} {pn : Nat → Bool} {W : WX} {e : Expr} {pos : Pos}
theorem psf_ext {i : Nat} {x : Str} {pos' : Pos} {o : Op} (hN : X.N.Nodup) (hi : X.N[i]? = some x) (hx : Loc X.env.scope x) (he : POf X e o)
    (hf : X.fn x = true ∨ X.env.scope.names.lookup x = some .local := by first | exact .inl rfl | exact .inr rfl | assumption) : PSf X pn W (.AugAssign (.Name x pos') .Add e pos) (dropF (mutF i extD [o])) := by
  obtain ⟨te, p1, s1⟩ := he.ex
  exact .mk (ps_aug hN hi hx p1 iop_ext hf) (simS_ext s1)
theorem pf_extend {o : Expr} {es : List Expr} {apos cpos : Pos} {i : Nat} {ops : List Op} (ho : PE X o (tVar i)) (ha : PAf X (e :: es) ops) (hbase : attributeBase o "extend" X.env (eval o X.env) = eval o X.env := by rfl)
    (hfew : ((backTo cpos (starEach (e :: es) X.env)).all (fun x => !x.1) && (backToKw cpos (keywordEach [] X.env)).all (fun x => x.1.isSome)
      && decide ((e :: es).length + ([] : List Keyword).length + (if ([] : List Keyword).isEmpty then 0 else 1) < 30)) = true := by rfl)
    (hline : (apos.endLine == cpos.line) = true := by rfl) (hs : starEach (e :: es) X.env = (false, eval e X.env) :: starEach es X.env := by rfl) (hplain : (backTo cpos (starEach es X.env)).any (·.1) = false := by rfl) :
    PEf X (.Call (.Attribute o "extend" apos) (e :: es) [] cpos) (mutF i extD ops) :=
  .mk (pe_bm PySem.F.plainAttrs_list PySem.F.slot_list_extend PySem.F.type_list_extend mt_extend ho ha hbase hfew hline hs hplain) (simE_mut rfl (simA_of ops) mok_ext)
end
end VS
set_option Elab.async false
set_option linter.all false
set_option maxRecDepth 100000
namespace VS
open PySem PySem.Spec PyProof.Rows L2 RZ
/-! ### sorted(xs), xs tuples of one shape, of any depth -/
def rSortedM (K : PySem.W.Frag) : List V → Hp → VK → Prop := fun vs H Q => ∃ (a : Addr) (ys : List V) (ds : List PyData), vs = [V.ref a] ∧ SqL K H a ys ∧ DpAll K H ys ds ∧ PySem.W.AllAlike ds ∧ (∀ d ∈ ds, ∃ x r, d = .tuple (x :: r)) ∧ (∀ d ∈ ds, d.depth ≤ 60) ∧
  ∀ p, H p = none → Q (.ref p) (upd H p (.lst (((ys.zip ds).mergeSort (PySem.W.dataLe false Prod.snd)).map Prod.fst)))
theorem each_zip {h : Heap} : ∀ {ys : List V} {its : List Value} {ds : List PyData} {as : List Addr}, Vals ys its → ReadsAll h its ds as → PySem.W.EachIs (fun v (b : V × PyData) => RelV b.1 v ∧ ∃ as, Reads h v b.2 as) its (ys.zip ds)
  | _, _, _, _, .nil, .nil => .nil
  | _, _, _, _, .cons r1 r2, .cons h1 h2 => .cons ⟨r1, _, h1⟩ (each_zip r2 h2)
theorem each_vals : ∀ {out : List Value} {bs : List (V × PyData)}, PySem.W.EachIs (fun v (b : V × PyData) => RelV b.1 v) out bs → Vals (bs.map Prod.fst) out
  | _, _, .nil => .nil
  | _, _, .cons h t => .cons h (each_vals t)
theorem zip_snd {α β : Type} : ∀ {xs : List α} {ys : List β}, xs.length = ys.length → (xs.zip ys).map Prod.snd = ys
  | [], [], _ => rfl
  | x :: xs, y :: ys, h => by
    simp only [List.zip_cons_cons, List.map_cons]
    rw [zip_snd (by simpa using h)]
  | [], _ :: _, h => by simp at h
  | _ :: _, [], h => by simp at h
theorem dpAll_len {K : PySem.W.Frag} {H : Hp} : ∀ {ys : List V} {ds : List PyData}, DpAll K H ys ds → ys.length = ds.length
  | _, _, .nil => rfl
  | _, _, .cons _ t => by simp [dpAll_len t]
theorem cr_sortedM {X : Cx} (hu : X.A.units + 65 < cLine) : CallR X (.builtin "sorted") (rSortedM X.K) := by
  intro pins s σ H vs us Q I r h
  obtain ⟨a, ys, ds, rfl, hs, hd, hal, hk, hdp, q⟩ := h
  obtain ⟨its, rv, hl, hz⟩ := I.list hs
  rw [Vals.ref1 r]
  obtain ⟨as, ra⟩ := Dp.readsAll I ds ys its hd rv
  have ez := each_zip rv ra
  have hlen := dpAll_len hd
  have e2 : (ys.zip ds).map Prod.snd = ds := zip_snd hlen
  have el : (ys.zip ds).length = ys.length := by rw [List.length_zip]; omega
  refine PySem.W.sorted_data (R := fun v b => RelV b.1 v) (enc := Prod.snd) (bs := ys.zip ds) hl.isList (ez.mono fun _ _ h => h.1) (ez.mono fun _ _ h => h.2) (by rw [e2]; exact hal) (by rw [e2]; exact .inl hk) (by rw [el]; exact hz) (fun b hb => ?_) fun out h1 h2 => ?_
  · have : b.2 ∈ ds := by rw [← e2]; exact List.mem_map_of_mem hb
    have := hdp _ this
    omega
  · have rv2 := each_vals h2
    obtain ⟨ep, he'⟩ := PyProof.Rows.sortedAll_at s.heap its out.toArray
    have hl2 : (((ys.zip ds).mergeSort (PySem.W.dataLe false Prod.snd)).map Prod.fst).length ≤ sizeLine := by
      rw [List.length_map, List.length_mergeSort, el]; exact hz
    exact ⟨.ref _, upd H (s.heap.objs.size + 1) (.lst (((ys.zip ds).mergeSort (PySem.W.dataLe false Prod.snd)).map Prod.fst)), I.laid (t' := s.toks) (fun _ _ => PyProof.Rows.sortedAll_old) (Nat.le_succ _) ⟨hl2, out, ep, rv2, he'⟩, rfl, q _ (I.hok.fresh (Nat.le_succ _))⟩
def tupled : PyData → Bool
  | .tuple (_ :: _) => true
  | _ => false
def shapeOk (ds : List PyData) : Bool := (ds.all fun d => ds.all fun e => PySem.W.alike d e) && (ds.all tupled && ds.all fun d => decide (d.depth ≤ 60))
def sortMD (xs : List D) : List D := xs.mergeSort (PySem.W.dataLe false pyD)
def sortedMD : List D → Option D
  | [.lst _ xs] => if noOwns xs = true ∧ noTys xs = true ∧ shapeOk (pyDs xs) = true then some (.lst true (sortMD xs)) else none
  | _ => none
theorem pyDs_map : ∀ xs : List D, pyDs xs = xs.map pyD
  | [] => rfl
  | x :: xs => by rw [pyDs, pyDs_map xs]; rfl
theorem reps_zip {K : PySem.W.Frag} {G H : Hp} : ∀ {vs : List V} {xs : List D}, Reps K G H vs xs [] → ∃ L : List (V × D), L.map Prod.fst = vs ∧ L.map Prod.snd = xs ∧ ∀ p ∈ L, Rep K G H p.1 p.2 []
  | [], xs, h => by cases h; exact ⟨[], rfl, rfl, fun p hp => (by cases hp)⟩
  | v :: vs, [], h => by cases h
  | v :: vs, x :: xs, h => by
    obtain ⟨h1, h2⟩ : Rep K G H v x [] ∧ Reps K G H vs xs [] := by
      generalize e : ([] : List Addr) = L at h
      cases h with
      | cons hv hr n =>
        obtain ⟨e1, e2⟩ := List.append_eq_nil_iff.mp e.symm
        subst e1; subst e2
        exact ⟨hv, hr⟩
    obtain ⟨L, e1, e2, e3⟩ := reps_zip h2
    refine ⟨(v, x) :: L, by simp [e1], by simp [e2], fun p hp => ?_⟩
    rcases List.mem_cons.mp hp with rfl | hp
    · exact h1
    · exact e3 p hp
theorem reps_of {K : PySem.W.Frag} {G H : Hp} : ∀ {L : List (V × D)}, (∀ p ∈ L, Rep K G H p.1 p.2 []) → Reps K G H (L.map Prod.fst) (L.map Prod.snd) []
  | [], _ => .nil
  | p :: L, h => .cons (L := []) (M := []) (h p (by simp)) (reps_of fun q hq => h q (by simp [hq])) (fun a ha => nomatch ha)
theorem vok_sortedM {K : PySem.W.Frag} : VOk K (rSortedM K) sortedMD := by
  intro G H vs ds d s rl e Q q
  unfold sortedMD at e
  split at e
  · rename_i o xs
    split at e
    · rename_i hz
      cases e
      obtain ⟨v, L, rfl, r1⟩ := rl.one
      obtain ⟨a, us, L1, rfl, h1, h2, _⟩ := r1.lstInv s
      have h0 := h2.to0 hz.1
      obtain ⟨M, m1, m2, m3⟩ := reps_zip h0
      have hs := hz.2.2
      unfold shapeOk at hs
      simp only [Bool.and_eq_true, List.all_eq_true, decide_eq_true_eq] at hs
      refine ⟨a, us, pyDs xs, rfl, SqL.of h1, Reps.dp s h0 hz.2.1, fun d hd d' hd' => hs.1 d hd d' hd', fun d hd => ?_, hs.2.2, fun p hp => ?_⟩
      · have := hs.2.1 d hd
        unfold tupled at this
        split at this
        · exact ⟨_, _, rfl⟩
        · cases this
      · have ez : us.zip (pyDs xs) = M.map fun p => (p.1, pyD p.2) := by
          rw [← m1, ← m2, pyDs_map, List.map_map]
          clear m1 m2 m3
          induction M with
          | nil => rfl
          | cons p M ih => simp only [List.map_cons, List.zip_cons_cons, ih, Function.comp_apply]
        have e1 : ((us.zip (pyDs xs)).mergeSort (PySem.W.dataLe false Prod.snd)) = (M.mergeSort (PySem.W.dataLe false fun p => pyD p.2)).map fun p => (p.1, pyD p.2) := by
          rw [ez]
          exact (List.map_mergeSort (r := PySem.W.dataLe false fun p : V × D => pyD p.2) (s := PySem.W.dataLe false Prod.snd) (f := fun p : V × D => (p.1, pyD p.2)) (l := M) fun a _ b _ => rfl).symm
        have e2 : sortMD xs = (M.mergeSort (PySem.W.dataLe false fun p => pyD p.2)).map Prod.snd := by
          unfold sortMD
          rw [← m2]
          exact (List.map_mergeSort (r := PySem.W.dataLe false fun p : V × D => pyD p.2) (s := PySem.W.dataLe false pyD) (f := Prod.snd) (l := M) fun a _ b _ => rfl).symm
        have rs : Reps K G H ((M.mergeSort (PySem.W.dataLe false fun p => pyD p.2)).map Prod.fst) (sortMD xs) [] := by
          rw [e2]
          exact reps_of fun p hp => m3 p ((List.mergeSort_perm M _).mem_iff.mp hp)
        have e3 : (((us.zip (pyDs xs)).mergeSort (PySem.W.dataLe false Prod.snd)).map Prod.fst) = (M.mergeSort (PySem.W.dataLe false fun p => pyD p.2)).map Prod.fst := by
          rw [e1, List.map_map]; rfl
        rw [e3]
        obtain ⟨t, rr⟩ := new_lst s hp rs
        exact q _ _ _ _ t rr
    · cases e
  · cases e
end VS
set_option Elab.async false
set_option linter.all false
set_option maxRecDepth 100000
namespace VS
open PySem PySem.Spec PyProof.Rows L2 RZ
/-! ### defs with a star parameter: what is left over is a new tuple -/
def spStar (K : PySem.W.Frag) (fn : Fn) (na : Nat) : Sp := fun vs H Q E => ∃ ws rest, vs = ws ++ rest ∧ ws.length = na ∧ rest.length ≤ sizeLine ∧ ∀ p, H p = Option.none → spOf K fn (ws ++ [V.ref p]) (upd H p (.tup rest)) Q E
section
variable {P : Program} {w : World} {K : PySem.W.Frag} {mg : Str → Option Value} {base : Heap}
theorem star_ok {x qual pv : Str} {st : Stmt} {f : Addr} {fd : FuncData} {N ps : List Str} {k : Nat} {pins : List Bool} {fb : FS} (F : Fun K x qual st f fd) (S : FnScope N (ps ++ [pv]) (defScope st)) (hpl : pins.length = ps.length + 1) (hN : ps.length + 1 ≤ N.length)
    (hb : ∀ (kV doc pm : Value) (an : Option Addr) (cdv ct : Value) (us rest : List Value), us.length = ps.length → bindArgs (PySem.W.fnOf x qual (defArgs st) (defBody st) (defScope st) .none kV doc pm an cdv ct) ⟨us ++ rest, []⟩ = (newTuple rest >>= fun t => pure (ps.zip us ++ [(pv, t)])))
    (hbody : ∀ (cdv : Value) (A : Around) (outer : List PySem.Env) (s : Shared) (H : Hp) (E : XK), Room k (A.deeper (envOfC qual (defScope st) s.heap.objs.size f cdv)) →
      PSsf (cxOf CX0 P w K mg base N qual (defScope st) f cdv A outer s H E).nox (pnOf pins) noW (defBody st) fb) : FnR P w K mg base CX0 (k + 1) f (spStar K (bodyFn N.length (ps.length + 1) pins fb) ps.length) := by
  obtain ⟨oc, od, kV, doc, pm, an, cdv, ct, osl, rfl, lk, hcd⟩ := F.ex
  refine StX.fn_star lk hcd S StX.cxUp_none (hb kV doc pm an cdv ct) fun A outer s H vs Q E hr hsp => ?_
  exact ⟨_, (hbody cdv A outer s H E hr).nox, body_sim hpl hN hsp⟩
end
def starD (fn : Fn) (na : Nat) : List D → Option D := fun ds => if noOwns ds = true ∧ na ≤ ds.length ∧ ds.length ≤ smallL then (fn.sem (ds.take na ++ [.tup (ds.drop na)])).bind fun q => if flat1 q.1 = true then some q.1 else none else none
theorem RepL.to0 {K : PySem.W.Frag} {G H : Hp} : ∀ {vs : List V} {ds : List D}, RepL K G H vs ds → noOwns ds = true → Reps K G H vs ds []
  | _, _, .nil, _ => .nil
  | _, _, .cons h r, hn => by
    simp only [noOwns, Bool.and_eq_true] at hn
    have e := h.noL hn.1
    subst e
    exact .cons (L := []) (M := []) h (RepL.to0 r hn.2) (fun a ha => nomatch ha)
theorem vok_star {K : PySem.W.Frag} {fn : Fn} {na : Nat} : VOk K (fun vs H Q => spStar K fn na vs H Q E0) (starD fn na) := by
  intro G H vs ds d s rl e Q q
  unfold starD at e
  split at e
  · rename_i hz
    obtain ⟨⟨d1, os⟩, hs, e3⟩ := Option.bind_eq_some_iff.mp e
    by_cases hf : flat1 d1 = true
    · rw [if_pos hf] at e3
      cases e3
      have r0 := rl.to0 hz.1
      have hl := r0.length
      refine ⟨vs.take na, vs.drop na, (List.take_append_drop _ _).symm, by rw [List.length_take]; omega, ?_, fun p hp => ?_⟩
      · rw [List.length_drop]
        exact Nat.le_trans (by omega) (small_line hz.2.2)
      · obtain ⟨G', t, rp⟩ := new_tup s hp (r0.drop0 na)
        have rt := (r0.take0 na).tr t (fun _ _ z => z)
        have rall : Reps K G' (upd H p (.tup (vs.drop na))) (vs.take na ++ [V.ref p]) (ds.take na ++ [.tup (ds.drop na)]) [] := rt.append0 (.cons (L := []) (M := []) rp .nil (fun a ha => nomatch ha))
        refine ⟨G', _, [], d1, os, t.sub, rall, by rw [rall.length, fn.len _ _ hs], hs, fun v G2 H2 P N t2 ro rv n => ?_⟩
        have sm : ∀ a o, H a = some o → H2 a = some o := fun a o e => t2.keep a o (by rw [upd_ne (fun z => by rw [z, hp] at e; cases e)]; exact e) (fun z => nomatch z)
        have tt : Tr G H (fun _ => False) G H2 (fun _ => False) := ⟨Same.refl _, fun a o e => sm a o (s a o e), fun a o e _ => sm a o e, fun _ _ _ _ => rfl, fun _ z => .inl z, fun a e => by
          cases ha : H a with
          | none => rfl
          | some o => rw [sm a o ha] at e; cases e⟩
        exact q v G H2 [] (tt.post fun a h => nomatch h) (flat1_rep hf rv)
    · rw [if_neg hf] at e3; cases e3
  · cases e
section
variable {X : Cx} {k na : Nat} {f : Addr} {fn : Fn} {x : Str} {p pos : Pos} {e : Expr} {es : List Expr} {o : Op} {ops : List Op}
theorem pf_callS (F : FnR X.prog X.w X.K X.mg X.base CX0 k f (spStar X.K fn na)) (hr : Room k X.A) (hg : Gl X x) (hm : X.mg x = some (.ref f)) (hk : PySem.W.keepIn X.K (.ref f) = true)
    (ha : PAf X (e :: es) ops) (hdb : (x == ("__debug__" : Str)) = false := by decide) (he : starEach (e :: es) X.env = (false, eval e X.env) :: starEach es X.env := by rfl) (hpl : (backTo pos (starEach es X.env)).any (·.1) = false := by rfl) :
    PEf X (.Call (.Name x p) (e :: es) [] pos) (opF (starD fn na) ops) := by
  refine .mk (te := fun σ H Q => taOf X.K ops σ H fun vs H1 => spStar X.K fn na vs H1 Q E0) ⟨fun pins s σ H Q I h => ?_⟩ (simE_op (simA_of _) vok_star)
  refine wpAny_Call_Name_kw (ld_glob I hg hm ?_ hdb)
  refine PySem.W.callWith_K (h₀ := X.base) I.ok.mod.kin hk (thn (ha.run pos pins s σ H _ I h) fun us s1 ⟨vs, H1, I1, r, q⟩ => ⟨I1.kIn, ?_⟩) he hpl
  exact wpAny_call (run_fnR F hr pass0 I1 r q)
end
end VS
set_option Elab.async false
set_option linter.all false
set_option maxRecDepth 100000
namespace VS
open PySem PySem.Spec PyProof.Rows L2 RZ
/-! ### x[i] op= e, of whole numbers, x a list of its own -/
def elemI : List D → Option D → Option (Int × Int)
  | [.int i], some (.lst true xs) => match atI xs i with
    | some (.int a) => some (i, a)
    | _ => none
  | _, _ => none
def intA1 : List D → Option Int
  | [.int b] => some b
  | _ => none
def augSF (k : Nat) (oi : Op) (f : Int → Int → Int) (o : Op) : FS := fun ρ => (getS ρ k).bind fun _ => (evOps [oi] ρ).bind fun p => (fetch [oi] p.1 p.2).bind fun is => (elemI is (getS p.2 k)).bind fun ix =>
  (evOps [o] p.2).bind fun p2 => (fetch [o] p2.1 p2.2).bind fun ds => (intA1 ds).bind fun b => (tgSub k (.t (litF (.int ix.1))) (.int (f ix.2 b)) p2.2).bind fun ρ' => some (.nx ρ')
section
variable {K : PySem.W.Frag} {pn : Nat → Bool} {W : WX}
theorem get_list {X : Cx} : PGet X (rIxL X.K) := by
  intro pins s σ H x y v u Q I rx ry h
  obtain ⟨p, xs, i, z, rfl, rfl, hq, he, q⟩ := h
  cases rx
  obtain ⟨t, rfl⟩ := ry
  obtain ⟨its, r, pl, hz⟩ := I.list hq
  obtain ⟨j, h1, h2, h3, h4, h5⟩ := atI_get he
  obtain ⟨w, ew, rw'⟩ := r.get h2
  have hl := r.length
  have hn := line63
  have fin : EP X pins σ Q w s := ⟨z, H, I, rw', q⟩
  by_cases h0 : 0 ≤ i
  · have hj : i.toNat = j := by
      rw [seqIndex_of h0 h5] at h1
      exact Option.some.inj h1
    exact wpAny_getItem_list pl.isList h0 (by omega) (by rw [hj]; simpa using ew) fin
  · have hj : (i + (its.toArray.size : Int)).toNat = j := by
      rw [seqIndex_neg (by omega) h4] at h1
      rw [List.size_toArray, ← hl]
      exact Option.some.inj h1
    exact wpAny_getItem_list_neg pl.isList (by omega) (by rw [List.size_toArray] <;> omega) (by omega) (by rw [hj]; simpa using ew) fin
theorem simS_augS {k : Nat} {ti te : TE} {oi o : Op} {f : Int → Int → Int} (hi : SimO K ti oi) (ho : SimO K te o) : SimS K pn W (tAugS (tVar k) ti te (rIxL K) (ipI f) rSetL) (augSF k oi f o) := by
  intro ρ out e σ G H F r E q
  unfold augSF at e
  cases h0 : getS ρ k with
  | none => rw [h0] at e; cases e
  | some d0 =>
  rw [h0] at e
  obtain ⟨w, hw, hr0⟩ := r.at_ k d0 h0
  cases he : evOps [oi] ρ with
  | none => simp only [Option.bind_some, he, Option.bind_none] at e; cases e
  | some p =>
  obtain ⟨ts, ρ1⟩ := p
  simp only [Option.bind_some, he] at e
  cases hf : fetch [oi] ts ρ1 with
  | none => simp only [hf, Option.bind_none] at e; cases e
  | some is =>
  simp only [hf, Option.bind_some] at e
  cases hx : elemI is (getS ρ1 k) with
  | none => simp only [hx, Option.bind_none] at e; cases e
  | some ix =>
  obtain ⟨i, a⟩ := ix
  simp only [hx, Option.bind_some] at e
  cases he2 : evOps [o] ρ1 with
  | none => simp only [he2, Option.bind_none] at e; cases e
  | some p2 =>
  obtain ⟨ts2, ρ2⟩ := p2
  simp only [he2, Option.bind_some] at e
  cases hf2 : fetch [o] ts2 ρ2 with
  | none => simp only [hf2, Option.bind_none] at e; cases e
  | some ds =>
  simp only [hf2, Option.bind_some] at e
  cases hb : intA1 ds with
  | none => simp only [hb, Option.bind_none] at e; cases e
  | some b =>
  simp only [hb, Option.bind_some] at e
  cases hg : tgSub k (.t (litF (.int i))) (.int (f a b)) ρ2 with
  | none => simp only [hg, Option.bind_none] at e; cases e
  | some ρ3 =>
  simp only [hg, Option.bind_some] at e
  cases e
  have hds : ds = [.int b] := by
    unfold intA1 at hb
    split at hb
    · cases hb; rfl
    · cases hb
  have his : is = [.int i] ∧ ∃ xs, getS ρ1 k = some (.lst true xs) ∧ atI xs i = some (.int a) := by
    unfold elemI at hx
    split at hx
    · rename_i i' xs hk
      split at hx
      · rename_i a' ha
        cases hx
        exact ⟨rfl, xs, hk, ha⟩
      · cases hx
    · cases hx
  obtain ⟨his, xs, hk1, hat⟩ := his
  subst his hds
  refine ⟨w, hw, ?_⟩
  have key := simA_cons (ta := tNil) (ops := []) hi simA_nil ρ ts ρ1 he σ G H F r (fun vs H1 => ∀ x, vs = [x] → rIxL K w x H1 fun x3 H3 => te σ H3 fun y H4 => ipI f x3 y H4 fun z H5 => rSetL w x z H5 fun H6 => E.nx σ H6) fun vs G1 H1 F1 M t1 r1 ok n1 x ev => ?_
  · have k2 : ti σ H fun x H1 => ∀ y, [x] = [y] → rIxL K w y H1 fun x3 H3 => te σ H3 fun y' H4 => ipI f x3 y' H4 fun z H5 => rSetL w y z H5 fun H6 => E.nx σ H6 := key
    have m : (fun (x : V) H1 => ∀ y, [x] = [y] → rIxL K w y H1 fun x3 H3 => te σ H3 fun y' H4 => ipI f x3 y' H4 fun z H5 => rSetL w y z H5 fun H6 => E.nx σ H6) = (fun x H1 => rIxL K w x H1 fun x3 H3 => te σ H3 fun y' H4 => ipI f x3 y' H4 fun z H5 => rSetL w x z H5 fun H6 => E.nx σ H6) := by
      funext x H1
      exact propext ⟨fun h => h x rfl, fun h y e => by cases e; exact h⟩
    rw [m] at k2
    exact k2
  · subst ev
    have rl := ok.get r1 hf
    cases rl with
    | cons rx rr =>
    cases rr
    cases rx
    obtain ⟨w', hw', hrep⟩ := r1.at_ k _ hk1
    rw [hw] at hw'; cases hw'
    generalize hFk : F1 k = Fk at hrep
    cases hrep with
    | lstO hG hH hn hr =>
    rename_i ad vs La
    obtain ⟨j, hj, hd⟩ := atI_len hr.length hat
    obtain ⟨v, hv, hrv⟩ := hr.get1 hd rfl
    cases hrv
    refine ⟨ad, vs, i, .int a, rfl, rfl, .inl (.inl hH), atI_of hj hv, ?_⟩
    have key2 := simA_cons (ta := tNil) (ops := []) ho simA_nil ρ1 ts2 ρ2 he2 σ G1 H1 F1 r1 (fun vs H1 => ∀ x, vs = [x] → ipI f (.int a) x H1 fun z H5 => rSetL (.ref ad) (.int i) z H5 fun H6 => E.nx σ H6) fun vs2 G2 H2 F2 M2 t2 r2 ok2 n2 y ev2 => ?_
    · have k2 : te σ H1 fun x H1 => ∀ y, [x] = [y] → ipI f (.int a) y H1 fun z H5 => rSetL (.ref ad) (.int i) z H5 fun H6 => E.nx σ H6 := key2
      have m : (fun (x : V) H1 => ∀ y, [x] = [y] → ipI f (.int a) y H1 fun z H5 => rSetL (.ref ad) (.int i) z H5 fun H6 => E.nx σ H6) = (fun x H1 => ipI f (.int a) x H1 fun z H5 => rSetL (.ref ad) (.int i) z H5 fun H6 => E.nx σ H6) := by
        funext x H1
        exact propext ⟨fun h => h x rfl, fun h y e => by cases e; exact h⟩
      rw [m] at k2
      exact k2
    · subst ev2
      have rl2 := ok2.get r2 hf2
      cases rl2 with
      | cons ry rr2 =>
      cases rr2
      cases ry
      refine ⟨a, b, rfl, rfl, ?_⟩
      have fin := simG_sub (K := K) (pn := pn) (k := k) (ti := tC (.int i)) (oi := .t (litF (.int i))) (simE_lit fun _ _ => .int i) (.int (f a b)) ρ2 ρ3 hg (.int (f a b)) σ G2 H2 F2 [] r2 (.int _) (fun a z => nomatch z) (fun σ' H' => σ' = σ → E.nx σ H') fun σ3 G3 H3 F3 t3 r3 p3 es => ?_
      · obtain ⟨w2, hw2, fin⟩ := fin
        rw [hw] at hw2; cases hw2
        obtain ⟨p, xs', k', j', e1, e2, e3, e4, e5⟩ := fin
        cases e1; cases e2
        exact ⟨_, _, _, _, rfl, rfl, e3, e4, e5 rfl⟩
      · subst es
        have t1' : Tr G H (own F) G1 H1 (own F1) := t1.post fun a h => .inl h
        have t2' : Tr G1 H1 (own F1) G2 H2 (own F2) := t2.post fun a h => .inl h
        have t3' : Tr G2 H2 (own F2) G3 H3 (own F3) := t3.wk (fun a h => h.elim id (fun z => nomatch z)) fun a h => .inl h
        exact q _ G3 H3 F3 ((t1'.trans t2').trans t3') r3 Pin.refl
end
section
variable {X : Cx} {pn : Nat → Bool} {W : WX} {o i e : Expr} {tpos pos : Pos}
theorem psf_augS {k : Nat} {oi oe : Op} {op : Operator} {f : Int → Int → Int} (ho : PE X o (tVar k)) (hi : POf X i oi) (he : POf X e oe) (hp : PIp X op (ipI f))
    (ha : ∀ ov iv new, augStore i ov iv new = (do holding [new, ov, iv] (setItem ov iv new); release [new, ov, iv] []; pure .next) := by intros; rfl) : PSf X pn W (.AugAssign (.Subscript o i tpos) op e pos) (augSF k oi f oe) := by
  obtain ⟨te, p1, s1⟩ := hi.ex
  obtain ⟨te2, p2, s2⟩ := he.ex
  exact .mk (ps_augS ho p1 get_list p2 hp set_list ha) (simS_augS s1 s2)
end
end VS
set_option Elab.async false
set_option linter.all false
set_option maxRecDepth 100000
namespace VS
open PySem PySem.Spec PyProof.Rows L2 RZ
/-! ### for x in reversed(xs), reversed(range(..)); a name of the module that holds a tuple of whole numbers -/
def itRev (f : FE) : FI := fun ρ => (f ρ).bind fun p => (seqD p.1).bind fun xs => some (xs.reverse, p.2)
section
variable {K : PySem.W.Frag} {pn : Nat → Bool} {W : WX}
theorem jok_revL {G0 H0 : Hp} {a : Addr} {vs : List V} {ds : List D} (h : SqL K G0 a vs) (r : Reps K G0 H0 vs ds []) : JOk K (Itv K a vs.length) G0 ds.reverse := by
  have hl := r.length
  refine ⟨fun i H hi s => ?_, fun H s => ?_, fun i d G H x H' hd s1 s2 y => ?_⟩
  · rw [List.length_reverse] at hi
    have hj : vs.length - 1 - i < vs.length := by omega
    exact ⟨by omega, vs, vs[vs.length - 1 - i], Same.seq s h, List.getElem?_eq_getElem hj⟩
  · show vs.length ≤ ds.reverse.length
    rw [List.length_reverse]; omega
  · have hi : i < ds.length := by have := (List.getElem?_eq_some_iff.mp hd).1; rw [List.length_reverse] at this; exact this
    obtain ⟨e, hx⟩ := y
    subst e
    have hx' := hx vs (Same.seq (s1.trans s2) h)
    rw [List.getElem?_reverse hi, ← hl] at hd
    obtain ⟨M, q, s⟩ := r.get0 hx' hd
    have : M = [] := List.eq_nil_iff_forall_not_mem.mpr fun a ha => nomatch s a ha
    subst this
    exact ⟨G, Tr.refl s2, q.far s1⟩
theorem jok_revT {G0 H0 : Hp} {a : Addr} {vs : List V} {ds : List D} (h : SqT K G0 a vs) (r : Reps K G0 H0 vs ds []) : JOk K (RT.ItvT K a vs.length) G0 ds.reverse := by
  have hl := r.length
  refine ⟨fun i H hi s => ?_, fun H s => ?_, fun i d G H x H' hd s1 s2 y => ?_⟩
  · rw [List.length_reverse] at hi
    have hj : vs.length - 1 - i < vs.length := by omega
    exact ⟨by omega, vs, vs[vs.length - 1 - i], Same.seqT s h, List.getElem?_eq_getElem hj⟩
  · show vs.length ≤ ds.reverse.length
    rw [List.length_reverse]; omega
  · have hi : i < ds.length := by have := (List.getElem?_eq_some_iff.mp hd).1; rw [List.length_reverse] at this; exact this
    obtain ⟨e, hx⟩ := y
    subst e
    have hx' := hx vs (Same.seqT (s1.trans s2) h)
    rw [List.getElem?_reverse hi, ← hl] at hd
    obtain ⟨M, q, s⟩ := r.get0 hx' hd
    have : M = [] := List.eq_nil_iff_forall_not_mem.mpr fun a ha => nomatch s a ha
    subst this
    exact ⟨G, Tr.refl s2, q.far s1⟩
theorem simI_rev {te : TE} {f : FE} (h : SimE K te f) : SimI K (RT.iRevA K te) (itRev f) := by
  intro ρ ds ρ' e σ G H F r R q
  unfold itRev at e
  cases hf : f ρ with
  | none => rw [hf] at e; cases e
  | some p =>
    obtain ⟨d, ρ1⟩ := p
    rw [hf] at e
    have e1 : (seqD d).bind (fun xs => some (xs.reverse, ρ1)) = some (ds, ρ') := e
    cases d with
    | lst o xs =>
      cases e1
      refine simE_frz h hf r _ fun v G' H' F' t' r' rv => ?_
      cases rv with
      | lstS hs hr _ => exact ⟨_, _, rfl, .inl ⟨SqL.of (r'.sub _ _ hs), q _ G' H' F' t' r' (jok_revL (SqL.of hs) hr)⟩⟩
    | scr ns =>
      cases e1
      refine simE_frz h hf r _ fun v G' H' F' t' r' rv => ?_
      cases rv with
      | scr hs => exact ⟨_, _, rfl, .inl ⟨Same.seq r'.sub hs, q _ G' H' F' t' r' (jok_revL (H0 := H') hs (reps_ints ns))⟩⟩
    | tup xs =>
      cases e1
      refine simE_frz h hf r _ fun v G' H' F' t' r' rv => ?_
      cases rv with
      | tup hs hr => exact ⟨_, _, rfl, .inr ⟨Same.seqT r'.sub hs, q _ G' H' F' t' r' (jok_revT hs hr)⟩⟩
    | _ => cases e1
/-- reversed(range(n)) -/
theorem simI_revR1 {o : Op} {te : TE} (h : SimO K te o) : SimI K (iRevR (tRg1 te)) (itRg (fun ds => (rng1D ds).map List.reverse) [o]) := by
  intro ρ ds ρ' e σ G H F r R q
  unfold itRg at e
  cases he : evOps [o] ρ with
  | none => rw [he] at e; cases e
  | some p =>
    obtain ⟨ts, ρ1⟩ := p
    rw [he] at e
    have e1 : (fetch [o] ts ρ1).bind (fun ds => ((rng1D ds).map List.reverse).bind fun xs => some (xs, ρ1)) = some (ds, ρ') := e
    cases hf : fetch [o] ts ρ1 with
    | none => rw [hf] at e1; cases e1
    | some is =>
      rw [hf] at e1
      have e2 : ((rng1D is).map List.reverse).bind (fun xs => some (xs, ρ1)) = some (ds, ρ') := e1
      have key := simA_cons (ta := tNil) (ops := []) h simA_nil ρ ts ρ1 he σ G H F r (fun vs H1 => ∀ x, vs = [x] → ∃ n, x = .int n ∧ (-(2 ^ 62) ≤ (0 : Int) ∧ (0 : Int) < 2 ^ 62 ∧ -(2 ^ 62) ≤ n ∧ n < 2 ^ 62 ∧ R (Itc (0 + (((n - 0).toNat : Nat) : Int) - 1) (-1) (n - 0).toNat) H1)) fun vs G1 H1 F1 M t1 r1 ok n1 x ev => ?_
      · have k2 : te σ H fun x H1 => ∀ y, [x] = [y] → ∃ n, y = .int n ∧ (-(2 ^ 62) ≤ (0 : Int) ∧ (0 : Int) < 2 ^ 62 ∧ -(2 ^ 62) ≤ n ∧ n < 2 ^ 62 ∧ R (Itc (0 + (((n - 0).toNat : Nat) : Int) - 1) (-1) (n - 0).toNat) H1) := key
        have m : (fun (x : V) H1 => ∀ y, [x] = [y] → ∃ n, y = .int n ∧ (-(2 ^ 62) ≤ (0 : Int) ∧ (0 : Int) < 2 ^ 62 ∧ -(2 ^ 62) ≤ n ∧ n < 2 ^ 62 ∧ R (Itc (0 + (((n - 0).toNat : Nat) : Int) - 1) (-1) (n - 0).toNat) H1)) = (fun x H1 => ∃ n, x = .int n ∧ (-(2 ^ 62) ≤ (0 : Int) ∧ (0 : Int) < 2 ^ 62 ∧ -(2 ^ 62) ≤ n ∧ n < 2 ^ 62 ∧ R (Itc (0 + (((n - 0).toNat : Nat) : Int) - 1) (-1) (n - 0).toNat) H1)) := by
          funext x H1
          exact propext ⟨fun h => h x rfl, fun h y e => by cases e; exact h⟩
        rw [m] at k2
        exact k2
      · subst ev
        have rl := ok.get r1 hf
        cases rl with
        | cons rx rr =>
          cases rr
          rename_i dx Lx
          cases dx with
          | int n =>
            cases rx
            have e3 : ((if -4611686018427387904 ≤ n ∧ n < 4611686018427387904 then some (intsTo 0 n.toNat) else none).map List.reverse).bind (fun xs => some (xs, ρ1)) = some (ds, ρ') := e2
            split at e3
            · rename_i hb
              cases e3
              refine ⟨n, rfl, by omega, by omega, by omega, by omega, ?_⟩
              refine q _ G1 H1 F1 (t1.post fun a h => .inl h) r1 ?_
              have ee : intsTo 0 n.toNat = (intsBy (0 + (((n - 0).toNat : Nat) : Int) - 1) (-1) (n - 0).toNat).reverse := by
                rw [Int.sub_zero]
                generalize n.toNat = m
                apply List.ext_getElem?
                intro j
                unfold intsTo intsBy
                by_cases hj : j < m
                · rw [List.getElem?_reverse (by rw [List.length_map, List.length_range]; exact hj), List.length_map, List.length_range, List.getElem?_map, List.getElem?_map, List.getElem?_range hj, List.getElem?_range (by omega)]
                  simp only [Option.map_some]
                  congr 2
                  omega
                · rw [List.getElem?_eq_none (by simp; omega), List.getElem?_eq_none (by simp; omega)]
              rw [ee, List.reverse_reverse]
              exact jok_rangeC
            · cases e3
          | _ => cases e2
end
section
variable {X : Cx} {tg e : Expr} {p p2 pos pos2 : Pos}
theorem pif_rev {f : FE} (hg : Gl X "reversed") (hm : X.mg "reversed" = none) (h : PEf X e f) (hs : starEach [e] X.env = (false, eval e X.env) :: starEach [] X.env := by rfl) : PIf X tg (.Call (.Name "reversed" p) [e] [] pos) (itRev f) := .mk (RT.pi_revA hg hm h hs) (simI_rev (simE_of f))
theorem pif_revR1 {o : Op} {a : Expr} (hg : Gl X "reversed") (hm : X.mg "reversed" = none) (hg2 : Gl X "range") (hm2 : X.mg "range" = none) (ha : POf X a o) (na : starEach [a] X.env = (false, eval a X.env) :: starEach [] X.env := by rfl)
    (hs : starEach [.Call (.Name "range" p2) [a] [] pos2] X.env = (false, eval (.Call (.Name "range" p2) [a] [] pos2) X.env) :: starEach [] X.env := by rfl) : PIf X tg (.Call (.Name "reversed" p) [.Call (.Name "range" p2) [a] [] pos2] [] pos) (itRg (fun ds => (rng1D ds).map List.reverse) [o]) := by
  obtain ⟨te, p1, s1⟩ := ha.ex
  exact .mk (pi_revR hg hm (prg_1 hg2 hm2 p1 na) hs) (simI_revR1 s1)
/-- a name of the module that holds a tuple of whole numbers -/
theorem rel_gtup {K : PySem.W.Frag} {a : Addr} {ns : List Int} {od : Option Addr} {its : Array Value} {n : Nat} {sl : Array (Option Value)} (hk : K.lookup a = some ⟨.type "tuple", od, .seq its n, sl⟩) (hz : its.size ≤ sizeLine) (hv : Vals (ns.map V.int) its.toList) (G H : Hp) :
    Rep K G H (.ref a) (.tup (ns.map D.int)) [] := .tup (.inr ⟨_, its, n, hk, rfl, rfl, hz, hv⟩) (reps_ints ns)
def GTup (K : PySem.W.Frag) (mg : Str → Option Value) (x : Str) (ns : List Int) : Prop := ∃ a, mg x = some (.ref a) ∧ ∀ G H, Rep K G H (.ref a) (.tup (ns.map D.int)) []
theorem pf_gtup {x : Str} {ns : List Int} (hg : Gl X x) (h : GTup X.K X.mg x ns) (hd : (x == Str.ofString "__debug__") = false := by decide +kernel) : PEf X (.Name x p) (litF (.tup (ns.map D.int))) := by
  obtain ⟨a, hm, hr⟩ := h
  exact .mk (pe_glob (v := .ref a) hg hm rfl (hd := hd)) (simE_lit hr)
theorem vals_ints : ∀ (ns : List Int) (ts : List Tok), ns.length = ts.length → Vals (ns.map V.int) ((ns.zip ts).map fun p => Value.int p.1 p.2)
  | [], [], _ => .nil
  | n :: ns, t :: ts, h => .cons ⟨t, rfl⟩ (vals_ints ns ts (by simpa using h))
end
end VS
set_option Elab.async false
set_option linter.all false
set_option maxRecDepth 100000
namespace VS
open PySem PySem.Spec PyProof.Rows L2 RZ
/-! ### divmod -/
def dvmOk (j : Int) : Bool := decide (j ≠ 0 ∧ j.natAbs.log2 < 9000)
def rDvm : List V → Hp → VK → Prop := fun xs H Q => ∃ i j, xs = [.int i, .int j] ∧ (j ≠ 0 ∧ j.natAbs.log2 < 9000) ∧ ∀ p, H p = none → Q (.ref p) (upd H p (.tup [.int (i.fdiv j), .int (i.fmod j)]))
theorem cr_dvm {X : Cx} : CallR X (.builtin "divmod") rDvm := by
  intro pins s σ H xs us Q I r h
  obtain ⟨i, j, rfl, ⟨h1, h2⟩, q⟩ := h
  obtain ⟨u, w', rfl, ⟨t, rfl⟩, ⟨t', rfl⟩⟩ := vals2 r
  refine divmod_int h1 ?_ (.inl (PyProof.noPylong_of_log2 h2))
  have hn : H s.heap.objs.size = none := I.hok.fresh (Nat.le_refl _)
  refine ⟨.ref s.heap.objs.size, _, ?_, rfl, q _ hn⟩
  refine I.laid (fun b o e => Heap.get?_push_of_some _ e) (Nat.le_refl _) ⟨by simp only [List.length_cons, List.length_nil]; rw [sizeLine_eq]; decide, [.int (i.fdiv j) s.toks, .int (i.fmod j) (s.toks + 1)], .cons ⟨_, rfl⟩ (.cons ⟨_, rfl⟩ .nil), ?_⟩
  exact ⟨_, Heap.get?_push_size s.heap rfl, rfl, 0, rfl⟩
def dvmD : List D → Option D
  | [.int i, .int j] => if dvmOk j = true then some (.tup [.int (i.fdiv j), .int (i.fmod j)]) else none
  | _ => none
theorem vok_dvm {K : PySem.W.Frag} : VOk K rDvm dvmD := by
  intro G H vs ds d s rl e Q q
  unfold dvmD at e
  split at e
  · rename_i i j
    split at e
    · rename_i hc
      cases e
      unfold dvmOk at hc
      cases rl with
      | cons r1 rr =>
      cases rr with
      | cons r2 rr2 =>
      cases rr2
      cases r1
      cases r2
      refine ⟨i, j, rfl, of_decide_eq_true hc, fun p hp => ?_⟩
      obtain ⟨G', t, r⟩ := new_tup s hp (xs := [.int (i.fdiv j), .int (i.fmod j)]) (vs := [.int (i.fdiv j), .int (i.fmod j)]) (.cons (.int _) (.cons (.int _) .nil (by simp)) (by simp))
      exact q _ _ _ _ t r
    · cases e
  · cases e
/-! ### any of whole numbers -/
def rAnyI (K : PySem.W.Frag) : List V → Hp → VK → Prop := fun vs H Q => ∃ (a : Addr) (ns : List Int), vs = [V.ref a] ∧ SqL K H a (ns.map V.int) ∧ Q (.bl (ns.any fun n => n != 0)) H
def anyID : List D → Option D
  | [.lst _ xs] => (intsOf xs).bind fun ns => some (.bl (ns.any fun n => n != 0))
  | _ => none
theorem vok_anyI {K : PySem.W.Frag} : VOk K (rAnyI K) anyID := by
  intro G H vs ds d s rl e Q q
  unfold anyID at e
  split at e
  · obtain ⟨v, L, rfl, r1⟩ := rl.one
    obtain ⟨ns, e1, e2⟩ := Option.bind_eq_some_iff.mp e
    cases e2
    obtain ⟨a, vs, L1, rfl, h1, h2, _⟩ := r1.lstInv s
    obtain ⟨rfl, _⟩ := h2.ints e1
    exact ⟨a, ns, rfl, SqL.of h1, fin0 s (.bl _) q⟩
  · cases e
theorem reads_ints {h : Heap} : ∀ {ns : List Int} {its : List Value}, Vals (ns.map V.int) its → ∃ as, ReadsAll h its (ns.map PyData.int) as
  | [], _, .nil => ⟨[], .nil⟩
  | n :: ns, _, .cons r rr => by
    obtain ⟨t, rfl⟩ := r
    obtain ⟨as, h1⟩ := reads_ints rr
    exact ⟨_, .cons (.int n t) h1⟩
theorem cr_anyI {X : Cx} (hc : X.calm = true) : CallR X (.builtin "any") (rAnyI X.K) := by
  intro pins s σ H vs us Q I r h
  obtain ⟨a, ns, rfl, hs, q⟩ := h
  obtain ⟨its, rv, hl, _⟩ := I.list hs
  rw [Vals.ref1 r]
  obtain ⟨as, ra⟩ := reads_ints (h := s.heap) rv
  have hp : ∀ ns : List Int, PyData.plainAll (ns.map PyData.int) = true := fun ns => by
    induction ns with
    | nil => rfl
    | cons n ns ih => rw [List.map_cons, PyData.plainAll, ih]; rfl
  refine PySem.W.any_list_data (I.ok.hd hc) hl.isList (by simpa using ra) (hp ns) (fun x hx => ?_) fun h' tk hk => ?_
  · obtain ⟨n, _, rfl⟩ := List.mem_map.mp hx
    trivial
  · refine ⟨.bl _, H, I.kept hk, ?_, q⟩
    show Value.bool _ = Value.bool _
    rw [List.any_map]
    rfl
end VS
set_option Elab.async false
set_option linter.all false
set_option maxRecDepth 100000
namespace VS
open PySem PySem.Spec PyProof.Rows L2 RZ
/-! ### a value that is frozen as soon as it is made -/
def frzF (f : FE) : FE := fun ρ => (f ρ).bind fun p => some (freeze p.1, p.2)
section
variable {K : PySem.W.Frag} {X : Cx} {e : Expr}
theorem simE_frzF {te : TE} {f : FE} (h : SimE K te f) : SimE K te (frzF f) := by
  intro ρ d ρ' e σ G H F r Q q
  obtain ⟨p, e1, e2⟩ := Option.bind_eq_some_iff.mp e
  cases e2
  refine h ρ p.1 p.2 e1 σ G H F r Q fun v G' H' F' L t r' hr n => ?_
  obtain ⟨G1, t1, r1, hr1⟩ := r'.frz hr n
  exact q v G1 H' F' [] ((t.trans t1).post fun a h => h.elim id fun z => nomatch z) r1 hr1 (fun a z => nomatch z)
theorem pf_frz {f : FE} (h : PEf X e f) : PEf X e (frzF f) := by
  obtain ⟨te, p, s⟩ := (po_t h).ex
  exact .mk p (simE_frzF s)
end
end VS
set_option Elab.async false
set_option linter.all false
set_option maxRecDepth 100000
namespace VS
open PySem PySem.Spec PyProof.Rows L2
/-! ### defs with defaults, and calls that leave them out -/
/-- a def whose defaults are whole numbers -/
abbrev FunDf (K : PySem.W.Frag) (x : Str) (st : Stmt) (dis : List Int) (f : Addr) (fd : FuncData) : Prop := FunD K x x (defArgs st) (defBody st) (defScope st) (dis.map V.int) [] f fd
theorem funDf_mk {K : PySem.W.Frag} {x : Str} {st : Stmt} {dis : List Int} {f T : Addr} {oc : Value} {od god : Option Addr} {kV doc pm cdv ct : Value} {an : Option Addr} {osl gsl : Array (Option Value)} {its : Array Value} {n : Nat} {gc : Value}
    (l : K.lookup f = some ⟨oc, od, .func (PySem.W.fnOf x x (defArgs st) (defBody st) (defScope st) (.ref T) kV doc pm an cdv ct), osl⟩) (c : PySem.W.codeIn K cdv x = true) (k : PySem.W.keepIn K (.ref f) = true)
    (lT : K.lookup T = some ⟨gc, god, .seq its n, gsl⟩) (v : Vals (dis.map V.int) its.toList) (hd : dis ≠ []) : FunDf K x st dis f (PySem.W.fnOf x x (defArgs st) (defBody st) (defScope st) (.ref T) kV doc pm an cdv ct) :=
  ⟨⟨oc, od, .ref T, kV, doc, pm, an, cdv, ct, osl, rfl, l, c, .inr ⟨by simpa using hd, T, _, its.toList, n, rfl, lT, rfl, v⟩, .inl rfl⟩, k⟩
section
variable {P : Program} {w : World} {K : PySem.W.Frag} {mg : Str → Option Value} {base : Heap}
theorem fn_okD {x : Str} {st : Stmt} {dis : List Int} {f : Addr} {fd : FuncData} {N ps : List Str} {k : Nat} {pins : List Bool} {fb : FS} (F : FunDf K x st dis f fd) (S : FnScope N ps (defScope st)) (hpl : pins.length = ps.length) (hN : ps.length ≤ N.length)
    (hbody : ∀ (cdv : Value) (A : Around) (outer : List PySem.Env) (s : Shared) (H : Hp) (E : XK), Room k (A.deeper (envOfC x (defScope st) s.heap.objs.size f cdv)) →
      PSsf (cxOf CX0 P w K mg base N x (defScope st) f cdv A outer s H E).nox (pnOf pins) noW (defBody st) fb) : FnOk P w K mg base CX0 (k + 1) f fd ps (spOf K (bodyFn N.length ps.length pins fb)) :=
  F.ok S (fun vs H Q E ⟨_, _, _, _, _, _, _, h, _⟩ => h) fun cdv A outer s H vs Q E hr h => ⟨_, (hbody cdv A outer s H E hr).nox, body_sim hpl hN h⟩
theorem stuck_okD {x : Str} {st : Stmt} {dis : List Int} {f : Addr} {fd : FuncData} {N ps : List Str} {k : Nat} {pins : List Bool} (F : FunDf K x st dis f fd) (S : FnScope N ps (defScope st)) : FnOk P w K mg base CX0 (k + 1) f fd ps (spOf K (stuckFn ps.length pins)) :=
  F.ok S (fun vs H Q E ⟨_, _, _, _, _, _, _, h, _⟩ => h) fun cdv A outer s H vs Q E hr ⟨_, _, _, _, _, _, _, _, h, _⟩ => by cases h
end
theorem binds_all {K : PySem.W.Frag} {fd : FuncData} {ps : List Str} (h : ∃ ds, Vals ([] : List V) ds ∧ Binds K fd ps ds) : Binds K fd ps [] := by
  obtain ⟨ds, hv, hb⟩ := h
  cases hv; exact hb
/-! list(the script) -/
def listSD : List D → Option D
  | [.scr ns] => some (.lst true (ns.map .int))
  | _ => none
theorem vok_listS {K : PySem.W.Frag} : VOk K (fun xs H Q => ∃ p ys, xs = [.ref p] ∧ (SqL K H p ys ∨ SqT K H p ys) ∧ ∀ l, H l = none → Q (.ref l) (upd H l (.lst ys))) listSD := by
  intro G H vs ds d s rl e Q q
  unfold listSD at e
  split at e
  · obtain ⟨v, L, rfl, r1⟩ := rl.one
    cases e
    cases r1 with
    | scr h =>
      refine ⟨_, _, rfl, .inl (Same.seq s h), fun p hp => ?_⟩
      obtain ⟨t, r⟩ := new_lst s hp (reps_ints _)
      exact q _ _ _ _ t r
  · cases e
theorem evOps_snoc {i : Int} : ∀ {ops : List Op} {ρ : Env} {ts : List (Option D)} {ρ' : Env}, evOps (ops ++ [.t (litF (.int i))]) ρ = some (ts, ρ') → ∃ ts0, ts = ts0 ++ [some (.int i)] ∧ evOps ops ρ = some (ts0, ρ')
  | [], ρ, ts, ρ', e => by
    cases e
    exact ⟨[], rfl, rfl⟩
  | .b j :: ops, ρ, ts, ρ', e => by
    have e1 : (evOps (.b j :: (ops ++ [.t (litF (.int i))])) ρ) = some (ts, ρ') := e
    unfold evOps at e1 ⊢
    obtain ⟨y, hy, e3⟩ := Option.bind_eq_some_iff.mp e1
    obtain ⟨q, hq, e2⟩ := Option.bind_eq_some_iff.mp e3
    obtain ⟨t1, ρ1⟩ := q
    cases e2
    obtain ⟨ts0, rfl, h0⟩ := evOps_snoc hq
    exact ⟨_ :: ts0, rfl, by rw [hy, h0]; rfl⟩
  | .t f :: ops, ρ, ts, ρ', e => by
    have e1 : (evOps (.t f :: (ops ++ [.t (litF (.int i))])) ρ) = some (ts, ρ') := e
    unfold evOps at e1 ⊢
    obtain ⟨q, hq, e2⟩ := Option.bind_eq_some_iff.mp e1
    obtain ⟨p, hp, e3⟩ := Option.bind_eq_some_iff.mp e2
    obtain ⟨t1, ρ1⟩ := p
    cases e3
    obtain ⟨ts0, rfl, h0⟩ := evOps_snoc hp
    exact ⟨_ :: ts0, rfl, by rw [hq]; show (evOps ops q.2).bind _ = _; rw [h0]; rfl⟩
theorem OpsOk.snoc {K : PySem.W.Frag} {G H : Hp} {σ : L2.St} {i : Int} : ∀ {ops : List Op} {ts : List (Option D)} {vs : List V} {M : List Addr}, OpsOk K G H σ ops ts vs M → OpsOk K G H σ (ops ++ [.t (litF (.int i))]) (ts ++ [some (.int i)]) (vs ++ [V.int i]) M
  | _, _, _, _, .nil => .t (L := []) (.int i) (fun a z => nomatch z) .nil
  | _, _, _, _, .b h r => .b h r.snoc
  | _, _, _, _, .t hr hn r => .t hr hn r.snoc
theorem simA_snoc {K : PySem.W.Frag} {ta : TA} {ops : List Op} {i : Int} (h : SimA K ta ops) : SimA K (fun σ H Q => ta σ H fun vs H1 => Q (vs ++ [V.int i]) H1) (ops ++ [.t (litF (.int i))]) := by
  intro ρ ts ρ' e σ G H F r Q q
  obtain ⟨ts0, rfl, h0⟩ := evOps_snoc e
  exact h ρ ts0 ρ' h0 σ G H F r _ fun vs G1 H1 F1 M t1 r1 ok n1 => q _ G1 H1 F1 M t1 r1 ok.snoc n1
section
variable {X : Cx} {k : Nat} {f : Addr} {fd : FuncData} {ps : List Str} {fn : Fn} {x : Str} {p pos : Pos} {e : Expr} {es : List Expr} {ops : List Op} {i : Int}
/-- the last parameter is left out: its default stands in -/
theorem pf_callDf (F : FnOk X.prog X.w X.K X.mg X.base CX0 k f fd ps (spOf X.K fn)) (hr : Room k X.A) (hg : Gl X x) (hm : X.mg x = some (.ref f)) (hk : PySem.W.keepIn X.K (.ref f) = true) (hb : ∃ ds, Vals [V.int i] ds ∧ Binds X.K fd ps ds)
    (ha : PAf X (e :: es) ops) (hdb : (x == ("__debug__" : Str)) = false := by decide) (he : starEach (e :: es) X.env = (false, eval e X.env) :: starEach es X.env := by rfl) (hpl : (backTo pos (starEach es X.env)).any (·.1) = false := by rfl) :
    PEf X (.Call (.Name x p) (e :: es) [] pos) (callF fn (ops ++ [.t (litF (.int i))])) := by
  obtain ⟨ds, hv, hb⟩ := hb
  have h := simE_call (fn := fn) (E := E0) (simA_snoc (i := i) (simA_of (K := X.K) ops)) rfl
  refine .mk (pe_call F hr hg hm hk hb hv pass0 ha hdb he hpl) (simE_eta h fun σ H Q q => ?_)
  have e0 : (fun (vs : List V) (H1 : Hp) => spOf X.K fn ((vs ++ [V.int i]) ++ []) H1 Q E0) = (fun vs H1 => spOf X.K fn (vs ++ [V.int i]) H1 Q E0) := by
    funext vs H1
    rw [List.append_nil]
  have q1 : taOf X.K ops σ H (fun vs H1 => spOf X.K fn ((vs ++ [V.int i]) ++ []) H1 Q E0) := q
  rw [e0] at q1
  exact q1
end
/-! ### asked by keywords, nothing handed on -/
def callRdKF (fn : Fn) (is : List Nat) (ops : List Op) : FE := fun ρ => (evOps ops ρ).bind fun p => (fetch ops p.1 p.2).bind fun ds => (fn.sem (permL is (freezes ds))).bind fun q => if flat1 q.1 = true then some (q.1, p.2) else none
theorem Reps.perm0 {K : PySem.W.Frag} {G H : Hp} {vs : List V} {ds : List D} (r : Reps K G H vs ds []) : ∀ is : List Nat, Reps K G H (permL is vs) (permL is ds) []
  | [] => .nil
  | i :: is => by
    unfold permL
    rw [List.filterMap_cons, List.filterMap_cons]
    cases hv : vs[i]? with
    | none =>
      have : ds[i]? = none := by rw [List.getElem?_eq_none_iff] at hv ⊢; rw [← r.length]; exact hv
      rw [this]
      exact Reps.perm0 r is
    | some v =>
      have hl := (List.getElem?_eq_some_iff.mp hv).1
      have hd : ds[i]? = some (ds[i]'(by rw [← r.length]; exact hl)) := List.getElem?_eq_getElem _
      rw [hd]
      exact Reps.cons0 (r.at0 i _ v G H hd hv (Same.refl _)) (Reps.perm0 r is)
theorem simE_callRdK {K : PySem.W.Frag} {ta : TA} {ops : List Op} {fn : Fn} {is : List Nat} (h : SimA K ta ops) : SimE K (fun σ H Q => ta σ H fun vs H1 => spOf K fn (permL is vs) H1 Q E0) (callRdKF fn is ops) := by
  intro ρ d ρ' e σ G H F r Q q
  unfold callRdKF at e
  cases he : evOps ops ρ with
  | none => rw [he] at e; cases e
  | some p =>
    obtain ⟨ts, ρ1⟩ := p
    rw [he] at e
    have e1 : (fetch ops ts ρ1).bind (fun ds => (fn.sem (permL is (freezes ds))).bind fun q => if flat1 q.1 = true then some (q.1, ρ1) else none) = some (d, ρ') := e
    obtain ⟨ds, hf, e2⟩ := Option.bind_eq_some_iff.mp e1
    obtain ⟨⟨d1, os⟩, hs, e3⟩ := Option.bind_eq_some_iff.mp e2
    by_cases hz : flat1 d1 = true
    · rw [if_pos hz] at e3
      cases e3
      refine h ρ ts ρ' he σ G H F r _ fun vs G1 H1 F1 M t1 r1 ok n1 => ?_
      have rl := ((ok.get r1 hf).frz r1.sub).perm0 is
      have hl : (permL is vs).length = fn.np := by rw [rl.length, fn.len _ _ hs]
      refine ⟨H1, permL is (freezes ds), [], d1, os, Same.refl _, rl, hl, hs, fun v G' H' P N t ro rv n => ?_⟩
      have sm : Same H1 H' := t.g.trans t.sub
      have tt : Tr G1 H1 (fun _ => False) G1 H' (fun _ => False) := ⟨Same.refl _, r1.sub.trans sm, fun a o e _ => sm a o e, fun _ _ _ _ => rfl, fun _ z => .inl z, fun a e => by
        cases ha : H1 a with
        | none => rfl
        | some o => rw [sm a o ha] at e; cases e⟩
      exact q v G1 H' F1 [] (t1.trans (tt.wk (B := fun a => own F1 a ∨ a ∈ M) (fun _ z => z.elim) fun a z => z.elim (fun z => .inr (.inl (.inl z))) fun z => (nomatch z))) (r1.tr tt fun _ _ z => z) (flat1_rep hz rv) fun a z => nomatch z
    · rw [if_neg hz] at e3; cases e3
section
variable {X : Cx} {k : Nat} {f : Addr} {fd : FuncData} {ps ks : List Str} {fn : Fn} {x : Str} {p pos : Pos} {e : Expr} {es : List Expr} {kws : List Keyword} {ops kops : List Op} {is : List Nat}
theorem pf_callRdK0 (F : FnOk X.prog X.w X.K X.mg X.base CX0 k f fd ps (spOf X.K fn)) (hr : Room k X.A) (hg : Gl X x) (hm : X.mg x = some (.ref f)) (hk : PySem.W.keepIn X.K (.ref f) = true) (hb : KB X.K fd ps 0 ks is) (hkl : kops.length = ks.length)
    (hkw : PKf X kws kops) (hall : (backToKw pos (keywordEach kws X.env)).all (·.1.isSome) = true := by rfl) (hks : (backToKw pos (keywordEach kws X.env)).filterMap (·.1) = ks := by rfl)
    (hdb : (x == ("__debug__" : Str)) = false := by decide)
    (hpl : ((backTo pos (starEach [] X.env)).any (·.1) || (backToKw pos (keywordEach kws X.env)).any (·.1.isNone)) = false := by rfl) : PEf X (.Call (.Name x p) [] kws pos) (callRdKF fn is kops) := by
  refine .mk (te := fun σ H Q => taN kops.length (taOf X.K kops) σ H fun zs H2 => spOf X.K fn (permL is zs) H2 Q E0) ⟨fun pins s σ H Q I h => ?_⟩ (simE_callRdK (simA_N (simA_of kops)))
  refine wpAny_Call_Name_kw (ld_glob I hg hm ?_ hdb)
  refine PySem.W.callWith_KW0 (h₀ := X.base) I.ok.mod.kin hk hall ?_ hpl
  refine thn (hkw.run pos pins s σ H _ I h) fun ws s2 ⟨zs, H2, I2, rz, q2⟩ => ⟨I2.kIn, ?_⟩
  rw [hks]
  have := run_fnP (us := []) (vs := []) F hr hb I2 .nil rz rfl (q2.1.trans hkl) (by rw [List.nil_append]; exact q2.2)
  exact this
end
end VS
set_option Elab.async false
set_option linter.all false
set_option maxRecDepth 100000
namespace VS
open PySem PySem.Spec PyProof.Rows L2
/-! ### what is raised: its class by name, its value, the data behind -/
abbrev RX := Env → Option (Str × D × Env)
section
variable (K : PySem.W.Frag) (W : WX)
def PostXE (σ : L2.St) (G H : Hp) (A : Addr → Prop) (n : Str) (d : D) (ρ' : Env) : Prop := ∀ G' H' F' (C dd : Addr) (v : V), Tr G H A G' H' (own F') → REnv K G' H' σ ρ' F' → ClsAt K n C → G' dd = some (.xd [(("value" : Str), v)]) → Rep K G' H' v d [] → W (.ref C) (some dd) σ H'
def RzAt (g : RX) (σ : L2.St) (H : Hp) : Prop := ∃ ρ n d ρ' G F, g ρ = some (n, d, ρ') ∧ REnv K G H σ ρ F ∧ PostXE K W σ G H (own F) n d ρ'
def teX (g : RX) : TE := fun σ H _ => RzAt K W g σ H
def ttX (g : RX) : TT := fun σ H _ => RzAt K W g σ H
def taX (g : RX) : TA := fun σ H _ => RzAt K W g σ H
def tiX (g : RX) : TI := fun σ H _ => RzAt K W g σ H
def tsX (g : RX) : TS := fun _ σ H => RzAt K W g σ H
end
section
variable (X : Cx) (W : WX)
abbrev PEx (e : Expr) (g : RX) : Prop := PE X e (teX X.K W g)
abbrev PTx (e : Expr) (g : RX) : Prop := PT X e (ttX X.K W g)
abbrev PAx (es : List Expr) (g : RX) : Prop := PA X es (taX X.K W g)
abbrev PIx (tg e : Expr) (g : RX) : Prop := PI X tg e (tiX X.K W g)
abbrev PSx (st : Stmt) (g : RX) : Prop := PS X st (tsX X.K W g)
end
def orR (g h : RX) : RX := fun ρ => match g ρ with
  | some q => some q
  | none => h ρ
def thenR (o : Op) (g : RX) : RX := fun ρ => (evOps [o] ρ).bind fun p => g p.2
def thenT (c : FB) (g h : RX) : RX := fun ρ => (c ρ).bind fun p => if p.1 = true then g p.2 else h p.2
def noR : RX := fun _ => none
/-- a statement, and what it may raise -/
def orX (f : FS) (g : RX) : FS := fun ρ => match f ρ with
  | some o => some o
  | none => (g ρ).bind fun q => some (.rz q.1 q.2.1 q.2.2)
section
variable {K : PySem.W.Frag} {W : WX} {σ : L2.St} {H : Hp}
theorem RzAt.or {g h : RX} (r : RzAt K W (orR g h) σ H) : RzAt K W g σ H ∨ RzAt K W h σ H := by
  obtain ⟨ρ, n, d, ρ', G, F, e, r, q⟩ := r
  unfold orR at e
  cases hg : g ρ with
  | some q0 =>
    rw [hg] at e
    exact .inl ⟨ρ, n, d, ρ', G, F, hg.trans e, r, q⟩
  | none =>
    rw [hg] at e
    exact .inr ⟨ρ, n, d, ρ', G, F, e, r, q⟩
theorem RzAt.no {g : Prop} (r : RzAt K W noR σ H) : g := by
  obtain ⟨ρ, n, d, ρ', G, F, e, r, q⟩ := r
  cases e
theorem PostXE.mono {n : Str} {d : D} {ρ' : Env} {G H G1 H1 : Hp} {A A1 : Addr → Prop} (q : PostXE K W σ G H A n d ρ') (t : Tr G H A G1 H1 A1) : PostXE K W σ G1 H1 A1 n d ρ' :=
  fun G' H' F' C dd v t' r' => q G' H' F' C dd v (t.trans t') r'
theorem simA_thenR {ta : TA} {ops : List Op} {g : RX} (s : SimA K ta ops) (r : RzAt K W (fun ρ => (evOps ops ρ).bind fun p => g p.2) σ H) : ta σ H fun _ H1 => RzAt K W g σ H1 := by
  obtain ⟨ρ, n, d, ρ', G, F, e0, r, q⟩ := r
  have e : (evOps ops ρ).bind (fun p => g p.2) = some (n, d, ρ') := e0
  cases he : evOps ops ρ with
  | none => rw [he] at e; cases e
  | some p =>
    obtain ⟨ts, ρ1⟩ := p
    rw [he] at e
    refine s ρ ts ρ1 he σ G H F r _ fun vs G1 H1 F1 M t1 r1 ok n1 => ⟨ρ1, n, d, ρ', G1, F1, e, r1, ?_⟩
    exact q.mono (t1.post fun a h => .inl h)
theorem simO_thenR {te : TE} {o : Op} {g : RX} (s : SimO K te o) (r : RzAt K W (thenR o g) σ H) : te σ H fun _ H1 => RzAt K W g σ H1 := by
  have := simA_thenR (ta := tCons te tNil) (ops := [o]) (g := g) (simA_cons s simA_nil) r
  exact this
theorem simT_thenT {tt : TT} {c : FB} {g h : RX} (s : SimT K tt c) (r : RzAt K W (thenT c g h) σ H) : tt σ H fun b H1 => if b = true then RzAt K W g σ H1 else RzAt K W h σ H1 := by
  obtain ⟨ρ, n, d, ρ', G, F, e, r, q⟩ := r
  unfold thenT at e
  cases he : c ρ with
  | none => rw [he] at e; cases e
  | some p =>
    obtain ⟨b, ρ1⟩ := p
    rw [he] at e
    refine s ρ b ρ1 he σ G H F r _ fun G1 H1 F1 t1 r1 => ?_
    cases b with
    | true => rw [if_pos rfl]; exact ⟨ρ1, n, d, ρ', G1, F1, e, r1, q.mono t1⟩
    | false => rw [if_neg Bool.false_ne_true]; exact ⟨ρ1, n, d, ρ', G1, F1, e, r1, q.mono t1⟩
end
section
variable {X : Cx} {pn : Nat → Bool} {W : WX} {e a b : Expr} {es : List Expr} {pos : Pos} {g h : RX}
theorem rx_or (h1 : PEx X W e g) (h2 : PEx X W e h) : PEx X W e (orR g h) := ⟨fun pins s σ H Q I r => r.or.elim (h1.run pins s σ H Q I) (h2.run pins s σ H Q I)⟩
theorem rxa_or (h1 : PAx X W es g) (h2 : PAx X W es h) : PAx X W es (orR g h) := ⟨fun ps pins s σ H Q I r => r.or.elim (h1.run ps pins s σ H Q I) (h2.run ps pins s σ H Q I)⟩
theorem rx_no : PEx X W e noR := ⟨fun pins s σ H Q I r => r.no⟩
theorem rxt_or (h1 : PTx X W e g) (h2 : PTx X W e h) : PTx X W e (orR g h) := ⟨fun pins s σ H Q I r => r.or.elim (h1.run pins s σ H Q I) (h2.run pins s σ H Q I)⟩
theorem rxs_or {st : Stmt} (h1 : PSx X W st g) (h2 : PSx X W st h) : PSx X W st (orR g h) := ⟨fun pins s σ H Q I r => r.or.elim (h1.run pins s σ H Q I) (h2.run pins s σ H Q I)⟩
/-! arguments -/
theorem rxa_hd (h1 : PEx X W e g) {ops : List Op} (h3 : PAf X es ops) (hs : starEach (e :: es) X.env = (false, eval e X.env) :: starEach es X.env := by rfl) : PAx X W (e :: es) g :=
  ⟨fun ps pins s σ H Q I r => (pa_cons h1 h3 hs).run ps pins s σ H Q I r⟩
theorem rxa_tl {o : Op} (h1 : POf X e o) (h2 : PAx X W es g) (hs : starEach (e :: es) X.env = (false, eval e X.env) :: starEach es X.env := by rfl) : PAx X W (e :: es) (thenR o g) := by
  obtain ⟨te, p1, s1⟩ := h1.ex
  exact ⟨fun ps pins s σ H Q I r => (pa_cons p1 h2 hs).run ps pins s σ H Q I (simO_thenR s1 r)⟩
/-! operations -/
theorem rx_bin1 {op : Operator} {r : R2} {o2 : Op} (ho : OpR X (binaryOp op) r) (h1 : PEx X W a g) (h2 : POf X b o2) : PEx X W (.BinOp a op b pos) g := by
  obtain ⟨tb, p2, s2⟩ := h2.ex
  exact ⟨fun pins s σ H Q I r => (pe_op ho h1 p2).run pins s σ H Q I r⟩
theorem rx_bin2 {op : Operator} {r : R2} {o1 : Op} (ho : OpR X (binaryOp op) r) (h1 : POf X a o1) (h2 : PEx X W b g) : PEx X W (.BinOp a op b pos) (thenR o1 g) := by
  obtain ⟨ta, p1, s1⟩ := h1.ex
  exact ⟨fun pins s σ H Q I r => (pe_op ho p1 h2).run pins s σ H Q I (simO_thenR s1 r)⟩
theorem rx_cmp1 {op : CmpOp} {r : R2} {o2 : Op} (ho : OpR X (compareOp op) r) (h1 : PEx X W a g) (h2 : POf X b o2) (hm : behindInMarks op b = false) : PEx X W (.Compare a [op] [b] pos) g := by
  obtain ⟨tb, p2, s2⟩ := h2.ex
  exact ⟨fun pins s σ H Q I r => (pe_cmpR ho h1 p2 hm).run pins s σ H Q I r⟩
theorem rx_cmp2 {op : CmpOp} {r : R2} {o1 : Op} (ho : OpR X (compareOp op) r) (h1 : POf X a o1) (h2 : PEx X W b g) (hm : behindInMarks op b = false) : PEx X W (.Compare a [op] [b] pos) (thenR o1 g) := by
  obtain ⟨ta, p1, s1⟩ := h1.ex
  exact ⟨fun pins s σ H Q I r => (pe_cmpR ho p1 h2 hm).run pins s σ H Q I (simO_thenR s1 r)⟩
theorem rxt_cmp1 {op : CmpOp} {r : R2} {o2 : Op} (ho : OpR X (compareOp op) r) (h1 : PEx X W a g) (h2 : POf X b o2) (hm : behindInMarks op b = false) : PTx X W (.Compare a [op] [b] pos) g := by
  obtain ⟨tb, p2, s2⟩ := h2.ex
  exact ⟨fun pins s σ H Q I r => (pt_cmpR ho h1 p2 hm).run pins s σ H Q I r⟩
theorem rxt_cmp2 {op : CmpOp} {r : R2} {o1 : Op} (ho : OpR X (compareOp op) r) (h1 : POf X a o1) (h2 : PEx X W b g) (hm : behindInMarks op b = false) : PTx X W (.Compare a [op] [b] pos) (thenR o1 g) := by
  obtain ⟨ta, p1, s1⟩ := h1.ex
  exact ⟨fun pins s σ H Q I r => (pt_cmpR ho p1 h2 hm).run pins s σ H Q I (simO_thenR s1 r)⟩
theorem rx_ix1 {r : R2} {o2 : Op} (ho : IxR X r) (h1 : PEx X W a g) (h2 : POf X b o2) (hs : PlainIx b) : PEx X W (.Subscript a b pos) g := by
  obtain ⟨tb, p2, s2⟩ := h2.ex
  exact ⟨fun pins s σ H Q I r => (pe_ix ho h1 p2 hs).run pins s σ H Q I r⟩
theorem rx_tup {k : Nat} (h : PAx X W es g) : PEx X W (.Tuple es k pos) g := ⟨fun pins s σ H Q I r => (pe_tup h).run pins s σ H Q I r⟩
theorem rx_if {c : Expr} {fc : FB} (hc : PTf X c fc) (h1 : PEx X W a g) (h2 : PEx X W b h) : PEx X W (.IfExp c a b pos) (thenT fc g h) :=
  ⟨fun pins s σ H Q I r => (pe_ifExp hc h1 h2).run pins s σ H Q I (simT_thenT (simT_of' fc) r)⟩
theorem rx_callB {id : String} {x : Str} {p : Pos} {r : List V → Hp → VK → Prop} (hc : CallR X (.builtin id) r) (hg : Gl X x) (hm : X.mg x = none) (hv : bootBuiltins x = some (.builtin id)) (ha : PAx X W (e :: es) g) (hn : x ≠ "__name__" := by decide) (hdb : (x == ("__debug__" : Str)) = false := by decide)
    (he : starEach (e :: es) X.env = (false, eval e X.env) :: starEach es X.env := by rfl) (hpl : (backTo pos (starEach es X.env)).any (·.1) = false := by rfl) : PEx X W (.Call (.Name x p) (e :: es) [] pos) g :=
  ⟨fun pins s σ H Q I r => (pe_callB hc hg hm hv ha hn hdb he hpl).run pins s σ H Q I r⟩
theorem rx_callTy {T : String} {x : Str} {p : Pos} {r : List V → Hp → VK → Prop} (hc : CallR X (.type T) r) (hg : Gl X x) (hm : X.mg x = none) (hv : bootBuiltins x = some (.type T)) (ha : PAx X W (e :: es) g) (hn : x ≠ "__name__" := by decide) (hdb : (x == ("__debug__" : Str)) = false := by decide)
    (he : starEach (e :: es) X.env = (false, eval e X.env) :: starEach es X.env := by rfl) (hpl : (backTo pos (starEach es X.env)).any (·.1) = false := by rfl) : PEx X W (.Call (.Name x p) (e :: es) [] pos) g :=
  ⟨fun pins s σ H Q I r => (pe_callTy hc hg hm hv ha hn hdb he hpl).run pins s σ H Q I r⟩
/-- a def's call whose operands raise -/
theorem rx_callA {k : Nat} {f : Addr} {fd : FuncData} {ps : List Str} {fn : Fn} {x : Str} {p : Pos} (F : FnOk X.prog X.w X.K X.mg X.base CX0 k f fd ps (spOf X.K fn)) (hr : Room k X.A) (hg : Gl X x) (hm : X.mg x = some (.ref f)) (hk : PySem.W.keepIn X.K (.ref f) = true) (hb : Binds X.K fd ps [])
    (ha : PAx X W (e :: es) g) (hdb : (x == ("__debug__" : Str)) = false := by decide) (he : starEach (e :: es) X.env = (false, eval e X.env) :: starEach es X.env := by rfl) (hpl : (backTo pos (starEach es X.env)).any (·.1) = false := by rfl) :
    PEx X W (.Call (.Name x p) (e :: es) [] pos) g := ⟨fun pins s σ H Q I r => (pe_call (E := E0) F hr hg hm hk hb .nil pass0 ha hdb he hpl).run pins s σ H Q I r⟩
/-! tests -/
theorem rxt_tst (h : PEx X W e g) (he : ∀ whole, isTrue e X.env whole = (do let v ← whole; standAt e.pos; holding [v] (truthy v)) := by intro _; rfl) : PTx X W e g := ⟨fun pins s σ H Q I r => (pt_truth h he).run pins s σ H Q I r⟩
theorem rxt_not (h : PTx X W a g) : PTx X W (.UnaryOp .Not a pos) g := ⟨fun pins s σ H Q I r => (pt_not h).run pins s σ H Q I r⟩
/-! statements -/
theorem rxs_expr (h : PEx X W e g) (hs : swapsWith e none pos.line X.env = pure false := by rfl) : PSx X W (.Expr e pos) g := ⟨fun pins s σ H D I r => (ps_expr h hs).run pins s σ H D I r⟩
theorem rxs_ret (h : PEx X W e g) : PSx X W (.Return (some e) pos) g := ⟨fun pins s σ H D I r => (ps_ret h).run pins s σ H D I r⟩
theorem rxs_asg {tg : Expr} {fg : D → Env → Option Env} (h : PEx X W e g) (hg : PGf X pn tg fg) (hs : swapsWithSole [tg] e pos.line X.env = pure false := by rfl) (hw : swappedStores [tg] e X.env = pure none := by rfl)
    (h1 : (assignEach [tg] X.env).map (·.2) = [assign tg X.env] := by rfl) : PSx X W (.Assign [tg] e pos) g := ⟨fun pins s σ H D I r => (ps_asg h hg hs hw h1).run pins s σ H D I r⟩
theorem rxs_set {i : Nat} {x : Str} {pos' : Pos} (hN : X.N.Nodup) (hi : X.N[i]? = some x) (hx : Loc X.env.scope x) (h : PEx X W e g) (hs : swapsWith e (some (.Name x pos')) pos.line X.env = pure false := by rfl) (hf : X.fn x = true ∨ X.env.scope.names.lookup x = some .local := by first | exact .inl rfl | exact .inr rfl | assumption) :
    PSx X W (.Assign [.Name x pos'] e pos) g := ⟨fun pins s σ H D I r => (ps_set hN hi hx h hs hf).run pins s σ H D I r⟩
theorem rxs_if {c : Expr} {A B : List Stmt} {fA fB : FS} (hc : PTx X W c g) (h1 : PSsf X pn W A fA) (h2 : PSsf X pn W B fB) : PSx X W (.If c A B pos) g := ⟨fun pins s σ H D I r => (ps_if hc h1 h2).run pins s σ H D I r⟩
/-- a statement by both its meanings -/
theorem psf_or {st : Stmt} {f : FS} (h1 : PSf X pn W st f) (h2 : PSx X W st g) : PSf X pn W st (orX f g) := by
  refine ⟨fun pins s σ H D I ⟨ρ, o, G, F, ee, r, q⟩ => ?_⟩
  unfold orX at ee
  cases hf : f ρ with
  | some o1 =>
    rw [hf] at ee; cases ee
    exact h1.run pins s σ H D I ⟨ρ, _, G, F, hf, r, q⟩
  | none =>
    rw [hf] at ee
    cases hg : g ρ with
    | none => rw [hg] at ee; cases ee
    | some z =>
      obtain ⟨n, d, ρ'⟩ := z
      rw [hg] at ee; cases ee
      exact h2.run pins s σ H D I ⟨ρ, n, d, ρ', G, F, hg, r, fun G' H' F' C dd v t r' => q σ G' H' F' C dd v t r' Pin.refl⟩
end
end VS
set_option Elab.async false
set_option linter.all false
set_option maxRecDepth 100000
namespace VS
open PySem PySem.Spec PyProof.Rows L2
/-! ### defs that may raise -/
abbrev Rz := List D → Option (Str × D × List (Option D))
def bodyRz (nN np : Nat) (pins : List Bool) (f : FS) : Rz := fun ds =>
  if ds.length = np then match f (ds.map some ++ List.replicate (nN - np) none) with
    | some (.rz n d ρ) => some (n, d, finP pins ρ)
    | _ => none
  else none
theorem bodyRz_cases {nN np : Nat} {pins : List Bool} {f : FS} {ds : List D} {n : Str} {d : D} {os : List (Option D)} (h : bodyRz nN np pins f ds = some (n, d, os)) :
    ds.length = np ∧ ∃ ρ, os = finP pins ρ ∧ f (ds.map some ++ List.replicate (nN - np) none) = some (.rz n d ρ) := by
  unfold bodyRz at h
  by_cases hn : ds.length = np
  · rw [if_pos hn] at h
    cases hf : f (ds.map some ++ List.replicate (nN - np) none) with
    | none => rw [hf] at h; cases h
    | some o =>
      rw [hf] at h
      cases o with
      | rz n' d' ρ => cases h; exact ⟨hn, ρ, rfl, rfl⟩
      | rt d' ρ => cases h
      | nx ρ => cases h
      | bk ρ => cases h
      | ct ρ => cases h
  · rw [if_neg hn] at h; cases h
def spRz (K : PySem.W.Frag) (np : Nat) (rz : Rz) (vs : List V) (H : Hp) (E : XK) : Prop := ∃ G ds L n d os, Same G H ∧ Reps K G H vs ds L ∧ vs.length = np ∧ rz ds = some (n, d, os) ∧
  ∀ (C dd : Addr) (v : V) G' H' P, Tr G H (fun a => a ∈ L) G' H' (fun a => a ∈ P) → ROs K G' H' vs os P → ClsAt K n C → G' dd = some (.xd [(("value" : Str), v)]) → Rep K G' H' v d [] → E (.ref C) (some dd) H'
/-- the promise of a def that may raise -/
def spX (K : PySem.W.Frag) (fn : Fn) (rz : Rz) : Sp := fun vs H Q E => spOf K fn vs H Q E ∨ spRz K fn.np rz vs H E
theorem spX_len {K : PySem.W.Frag} {fn : Fn} {rz : Rz} {vs : List V} {H : Hp} {Q : VK} {E : XK} (h : spX K fn rz vs H Q E) : vs.length = fn.np := by
  rcases h with ⟨_, _, _, _, _, _, _, h, _⟩ | ⟨_, _, _, _, _, _, _, _, h, _⟩
  · exact h
  · exact h
theorem body_simX {K : PySem.W.Frag} {N : List Str} {np : Nat} {pins : List Bool} {f : FS} (hpl : pins.length = np) (hN : np ≤ N.length) {vs : List V} {H : Hp} {Q : VK} {E : XK} (h : spX K (bodyFn N.length np pins f) (bodyRz N.length np pins f) vs H Q E) :
    tsOf K (pnOf pins) (fun cls d _ H => E cls d H) f { nx := fun _ H' => Q .non H', rt := Q } (L2.start N vs) H := by
  rcases h with h | h
  · exact body_sim hpl hN h
  · obtain ⟨G, ds, L, n, d, os, s, hR, hl, hs, q⟩ := h
    have hl' : vs.length = np := hl
    obtain ⟨hn, ρ, rfl, hb⟩ := bodyRz_cases hs
    obtain ⟨F, r, sF⟩ := REnv.start s (N.length - np) hR
    have es : L2.start N vs = vs.map some ++ List.replicate (N.length - np) none := by unfold L2.start; rw [hl']
    rw [← es] at r
    refine ⟨_, _, G, F, hb, r, fun σ' G' H' F' C dd v t r' p hC hx rv => ?_⟩
    have lσ : pins.length ≤ σ'.length := by
      rw [p.1, es, List.length_append, List.length_map, List.length_replicate, hpl]; omega
    obtain ⟨P, ro, sP⟩ := REnv.fin (pins := pins) (vs := vs) r' (by rw [hl', hpl]) lσ (fun j hj => by
      have hjp : pnOf pins j = true := by unfold pnOf; rw [List.getD_eq_getElem?_getD, hj]; rfl
      rw [p.2 j hjp, es]
      have hjl : j < vs.length := by rw [hl', ← hpl]; exact (List.getElem?_eq_some_iff.mp hj).1
      rw [List.getElem?_append_left (by simpa using hjl), List.getElem?_map])
    exact q C dd v G' H' P (t.wk (fun a h => sF a h) fun a h => .inl (sP a h)) ro hC hx rv
section
variable {P : Program} {w : World} {K : PySem.W.Frag} {mg : Str → Option Value} {base : Heap}
theorem fnX_ok {x qual : Str} {st : Stmt} {f : Addr} {fd : FuncData} {N ps : List Str} {k : Nat} {pins : List Bool} {fb : FS} (F : Fun K x qual st f fd) (S : FnScope N ps (defScope st)) (hpl : pins.length = ps.length) (hN : ps.length ≤ N.length)
    (hbody : ∀ (cdv : Value) (A : Around) (outer : List PySem.Env) (s : Shared) (H : Hp) (E : XK), Room k (A.deeper (envOfC qual (defScope st) s.heap.objs.size f cdv)) →
      Takes (cxOf (L2.CX P w) P w K mg base N qual (defScope st) f cdv A outer s H E) (fun cls d _ H => E cls d H) →
      PassesOwn (model P w) (cxOf (L2.CX P w) P w K mg base N qual (defScope st) f cdv A outer s H E).A (cxOf (L2.CX P w) P w K mg base N qual (defScope st) f cdv A outer s H E).env (cxOf (L2.CX P w) P w K mg base N qual (defScope st) f cdv A outer s H E).xe →
      PSsf (cxOf (L2.CX P w) P w K mg base N qual (defScope st) f cdv A outer s H E) (pnOf pins) (fun cls d _ H => E cls d H) (defBody st) fb) :
    FnOk P w K mg base (L2.CX P w) (k + 1) f fd ps (spX K (bodyFn N.length ps.length pins fb) (bodyRz N.length ps.length pins fb)) :=
  F.okX S (fun vs H Q E h => spX_len h) fun cdv A outer s H vs Q E hr h => ⟨_, hbody cdv A outer s H E hr (takes_of rfl rfl rfl rfl) (passes_of rfl), body_simX hpl hN h⟩
/-- where nothing is raised, it is as a def that raises nothing -/
theorem FnOk.quiet {f : Addr} {fd : FuncData} {ps : List Str} {k : Nat} {fn : Fn} {rz : Rz} (F : FnOk P w K mg base (L2.CX P w) k f fd ps (spX K fn rz)) : FnOk P w K mg base CX0 k f fd ps (spOf K fn) := by
  refine ⟨fun vs H Q E h => F.len vs H Q E (.inl h), fun A outer s H args us vs Q E hr he hb hv hs => ?_⟩
  refine codeAny_mono (F.run A outer s H args us vs Q E0 hr he hb hv (.inl hs)) fun r s' hq => ?_
  cases r with
  | error e =>
    obtain ⟨_, _, _, _, _, _, _, _, _, _, _, _, z⟩ := hq
    exact z.elim
  | ok fl => cases fl <;> exact hq
end
/-! ### calls that may raise -/
def rzF (pins : List Bool) (rz : Rz) (ops : List Op) : RX := fun ρ => (evOps ops ρ).bind fun p => (fetchC pins ops p.1 p.2).bind fun c => (rz c.1).bind fun q => some (q.1, q.2.1, putB ops c.1 q.2.2 c.2)
def rzKF (pins : List Bool) (rz : Rz) (is : List Nat) (ops : List Op) : RX := fun ρ => (evOps ops ρ).bind fun p => (fetchC pins (permL is ops) (permL is p.1) p.2).bind fun c => (rz c.1).bind fun q => some (q.1, q.2.1, putB (permL is ops) c.1 q.2.2 c.2)
section
variable {K : PySem.W.Frag} {W : WX}
theorem rz_at {np : Nat} {pins : List Bool} {rz : Rz} {ops : List Op} {vs : List V} {M : List Addr} {ts : List (Option D)} {ds : List D} {ρ1 ρr : Env} {σ : L2.St} {G1 H1 : Hp} {F1 : Nat → List Addr} {n : Str} {d : D} {os : List (Option D)} (hl : ∀ ds r, rz ds = some r → ds.length = np)
    (r1 : REnv K G1 H1 σ ρ1 F1) (ok : OpsOk K G1 H1 σ ops ts vs M) (n1 : ∀ a ∈ M, ¬ own F1 a) (hf : VS.fetchC pins ops ts ρ1 = some (ds, ρr)) (hs : rz ds = some (n, d, os))
    (q : PostXE K W σ G1 H1 (fun a => own F1 a ∨ a ∈ M) n d (putB ops ds os ρr)) : spRz K np rz vs H1 (WE W σ) := by
  obtain ⟨L, Fr, hR, rr, nL, sL, sF⟩ := ok.fetchC r1 n1 hf
  have ap := ok.at'
  have hnp : vs.length = np := hR.length.trans (hl ds _ hs)
  refine ⟨G1, ds, L, n, d, os, r1.sub, hR, hnp, hs, fun C dd v G2 H2 P t2 ro hC hx rv => ?_⟩
  have rr2 := rr.tr t2 (fun a ho hl => nL a hl ho)
  have apF : ∀ a, own Fr a → ¬ (a ∈ P) := fun a ho => by
    obtain ⟨j, hj⟩ := id ho
    exact t2.apart (L := Fr j) (rr.owned j) (fun b hb hl => nL b hl ⟨j, hb⟩) a hj
  obtain ⟨F', r', s⟩ := putB_ok (ds := ds) ap ro rr2 (fun a ha ho => apF a ho ha)
  refine q G2 H2 F' C dd v (t2.wk (fun a ha => ?_) fun a ha => ?_) r' hC hx rv
  · exact sL a ha
  · rcases s a ha with y | y
    · exact .inr (.inl (.inl (sF a y)))
    · exact .inl y
theorem rz_call {ta : TA} {ops : List Op} {fn : Fn} {pins : List Bool} {rz : Rz} {σ : L2.St} {H : Hp} {Q : VK} (h : SimA K ta ops) (hl : ∀ ds r, rz ds = some r → ds.length = fn.np) (r : RzAt K W (rzF pins rz ops) σ H) : tCallSD (spX K fn rz) [] (WE W) ta σ H Q := by
  obtain ⟨ρ, n, d, ρ', G, F, e, r, q⟩ := r
  unfold rzF at e
  cases he : evOps ops ρ with
  | none => rw [he] at e; cases e
  | some p =>
    obtain ⟨ts, ρ1⟩ := p
    rw [he] at e
    have e1 : ((VS.fetchC pins ops ts ρ1).bind fun c => (rz c.1).bind fun q => some (q.1, q.2.1, putB ops c.1 q.2.2 c.2)) = some (n, d, ρ') := e
    cases hf : VS.fetchC pins ops ts ρ1 with
    | none => rw [hf] at e1; cases e1
    | some c =>
      obtain ⟨ds, ρr⟩ := c
      rw [hf] at e1
      have e2 : ((rz ds).bind fun q => some (q.1, q.2.1, putB ops ds q.2.2 ρr)) = some (n, d, ρ') := e1
      cases hs : rz ds with
      | none => rw [hs] at e2; cases e2
      | some pq =>
        obtain ⟨n1, d1, os⟩ := pq
        rw [hs] at e2; cases e2
        refine h ρ ts ρ1 he σ G H F r _ fun vs G1 H1 F1 M t1 r1 ok nn => ?_
        show spX K fn rz (vs ++ []) H1 Q (WE W σ)
        rw [List.append_nil]
        exact .inr (rz_at hl r1 ok nn hf hs (q.mono t1))
theorem rz_callK {ta : TA} {ops : List Op} {fn : Fn} {pins : List Bool} {rz : Rz} {is : List Nat} {σ : L2.St} {H : Hp} {Q : VK} (h : SimA K ta ops) (hp : is.Perm (List.range ops.length)) (hl : ∀ ds r, rz ds = some r → ds.length = fn.np) (r : RzAt K W (rzKF pins rz is ops) σ H) :
    ta σ H fun vs H1 => spX K fn rz (permL is vs) H1 Q (WE W σ) := by
  obtain ⟨ρ, n, d, ρ', G, F, e, r, q⟩ := r
  unfold rzKF at e
  cases he : evOps ops ρ with
  | none => rw [he] at e; cases e
  | some p =>
    obtain ⟨ts, ρ1⟩ := p
    rw [he] at e
    have e1 : ((VS.fetchC pins (permL is ops) (permL is ts) ρ1).bind fun c => (rz c.1).bind fun q => some (q.1, q.2.1, putB (permL is ops) c.1 q.2.2 c.2)) = some (n, d, ρ') := e
    cases hf : VS.fetchC pins (permL is ops) (permL is ts) ρ1 with
    | none => rw [hf] at e1; cases e1
    | some c =>
      obtain ⟨ds, ρr⟩ := c
      rw [hf] at e1
      have e2 : ((rz ds).bind fun q => some (q.1, q.2.1, putB (permL is ops) ds q.2.2 ρr)) = some (n, d, ρ') := e1
      cases hs : rz ds with
      | none => rw [hs] at e2; cases e2
      | some pq =>
        obtain ⟨n1, d1, os⟩ := pq
        rw [hs] at e2; cases e2
        refine h ρ ts ρ1 he σ G H F r _ fun vs G1 H1 F1 M0 t1 r1 ok0 n0 => ?_
        obtain ⟨M, ok, sM⟩ := ok0.perm hp
        exact .inr (rz_at hl r1 ok (fun a ha => n0 a (sM a ha)) hf hs (q.mono (t1.post fun a h => h.imp id (sM a))))
end
theorem bodyRz_len {nN np : Nat} {pins : List Bool} {f : FS} (ds : List D) (r : Str × D × List (Option D)) (h : bodyRz nN np pins f ds = some r) : ds.length = np := (bodyRz_cases (n := r.1) (d := r.2.1) (os := r.2.2) h).1
section
variable {X : Cx} {W : WX} {k : Nat} {f : Addr} {fd : FuncData} {ps ks : List Str} {fn : Fn} {rz : Rz} {x : Str} {p pos : Pos} {e : Expr} {es : List Expr} {ops kops : List Op} {kws : List Keyword}
theorem rx_call (tk : Takes X W) (F : FnOk X.prog X.w X.K X.mg X.base (L2.CX X.prog X.w) k f fd ps (spX X.K fn rz)) (hl : ∀ ds r, rz ds = some r → ds.length = fn.np) (hr : Room k X.A) (hg : Gl X x) (hm : X.mg x = some (.ref f)) (hk : PySem.W.keepIn X.K (.ref f) = true) (hb : Binds X.K fd ps [])
    (ha : PAf X (e :: es) ops) (hdb : (x == ("__debug__" : Str)) = false := by decide) (he : starEach (e :: es) X.env = (false, eval e X.env) :: starEach es X.env := by rfl) (hpl : (backTo pos (starEach es X.env)).any (·.1) = false := by rfl) :
    PEx X W (.Call (.Name x p) (e :: es) [] pos) (rzF fn.pins rz ops) :=
  ⟨fun pins s σ H Q I r => (pe_callSD F hr hg hm hk hb .nil (fun σ => passAt tk σ) ha hdb he hpl).run pins s σ H Q I (rz_call (simA_of _) hl r)⟩
theorem run_fnPX {n : Nat} {is : List Nat} {pins : List (Addr × Obj)} {σ : L2.St} {H : Hp} {s : Shared} {Q : VK} {us ws : List Value} {vs zs : List V} (tk : Takes X W) (F : FnOk X.prog X.w X.K X.mg X.base (L2.CX X.prog X.w) k f fd ps (spX X.K fn rz)) (hr : Room k X.A) (hb : KB X.K fd ps n ks is)
    (I : Inv X pins σ H s) (r : Vals vs us) (rz' : Vals zs ws) (l1 : vs.length = n) (l2 : zs.length = ks.length) (h : spX X.K fn rz (permL is (vs ++ zs)) H Q (WE W σ)) : wpAny (model X.prog X.w) X.A (call (.ref f) us (ks.zip ws)) (EP X pins σ Q) X.xe s := by
  have r2 := permL_vals (r.append rz') is
  refine wpAny_call (codeAny_mono (F.run X.A X.stack s H ⟨us, ks.zip ws⟩ (permL is (us ++ ws)) (permL is (vs ++ zs)) Q (WE W σ) hr I.env0 (hb s us ws I.kIn (r.length.symm.trans l1) (rz'.length.symm.trans l2)) r2 h) fun r s' hq => ?_)
  cases r with
  | error e => exact passAt tk σ pins H s e s' I hq
  | ok fl =>
    cases fl with
    | ret u => exact I.after hq
    | next => exact False.elim hq
    | brk => exact False.elim hq
    | cont => exact False.elim hq
theorem rx_callK {is : List Nat} (tk : Takes X W) (F : FnOk X.prog X.w X.K X.mg X.base (L2.CX X.prog X.w) k f fd ps (spX X.K fn rz)) (hl : ∀ ds r, rz ds = some r → ds.length = fn.np) (hr : Room k X.A) (hg : Gl X x) (hm : X.mg x = some (.ref f)) (hk : PySem.W.keepIn X.K (.ref f) = true) (hb : KB X.K fd ps ops.length ks is) (hp : is.Perm (List.range (ops ++ kops).length)) (hkl : kops.length = ks.length)
    (ha : PAf X (e :: es) ops) (hkw : PKf X kws kops) (hall : (backToKw pos (keywordEach kws X.env)).all (·.1.isSome) = true := by rfl) (hks : (backToKw pos (keywordEach kws X.env)).filterMap (·.1) = ks := by rfl)
    (hdb : (x == ("__debug__" : Str)) = false := by decide) (he : starEach (e :: es) X.env = (false, eval e X.env) :: starEach es X.env := by rfl)
    (hpl : ((backTo pos (starEach (e :: es) X.env)).any (·.1) || (backToKw pos (keywordEach kws X.env)).any (·.1.isNone)) = false := by rfl) : PEx X W (.Call (.Name x p) (e :: es) kws pos) (rzKF fn.pins rz is (ops ++ kops)) := by
  refine ⟨fun pins s σ H Q I h0 => ?_⟩
  have h : taN ops.length (taOf X.K ops) σ H fun vs H1 => taN kops.length (taOf X.K kops) σ H1 fun zs H2 => spX X.K fn rz (permL is (vs ++ zs)) H2 Q (WE W σ) := rz_callK (fn := fn) (simA_app (simA_N (simA_of ops)) (simA_N (simA_of kops))) hp hl h0
  refine wpAny_Call_Name_kw (ld_glob I hg hm ?_ hdb)
  refine PySem.W.callWith_KW (h₀ := X.base) I.ok.mod.kin hk hall (thn (ha.run pos pins s σ H _ I h) fun us s1 ⟨vs, H1, I1, r, q⟩ => ?_) hpl he
  refine thn (hkw.run pos pins s1 σ H1 _ I1 q.2) fun ws s2 ⟨zs, H2, I2, rz, q2⟩ => ⟨I2.kIn, ?_⟩
  rw [hks]
  exact run_fnPX tk F hr hb I2 r rz q.1 (q2.1.trans hkl) q2.2
theorem rx_callK0 {is : List Nat} (tk : Takes X W) (F : FnOk X.prog X.w X.K X.mg X.base (L2.CX X.prog X.w) k f fd ps (spX X.K fn rz)) (hl : ∀ ds r, rz ds = some r → ds.length = fn.np) (hr : Room k X.A) (hg : Gl X x) (hm : X.mg x = some (.ref f)) (hk : PySem.W.keepIn X.K (.ref f) = true) (hb : KB X.K fd ps 0 ks is) (hp : is.Perm (List.range kops.length)) (hkl : kops.length = ks.length)
    (hkw : PKf X kws kops) (hall : (backToKw pos (keywordEach kws X.env)).all (·.1.isSome) = true := by rfl) (hks : (backToKw pos (keywordEach kws X.env)).filterMap (·.1) = ks := by rfl)
    (hdb : (x == ("__debug__" : Str)) = false := by decide)
    (hpl : ((backTo pos (starEach [] X.env)).any (·.1) || (backToKw pos (keywordEach kws X.env)).any (·.1.isNone)) = false := by rfl) : PEx X W (.Call (.Name x p) [] kws pos) (rzKF fn.pins rz is kops) := by
  refine ⟨fun pins s σ H Q I h0 => ?_⟩
  have h : taN kops.length (taOf X.K kops) σ H fun zs H2 => spX X.K fn rz (permL is zs) H2 Q (WE W σ) := rz_callK (fn := fn) (simA_N (simA_of kops)) hp hl h0
  refine wpAny_Call_Name_kw (ld_glob I hg hm ?_ hdb)
  refine PySem.W.callWith_KW0 (h₀ := X.base) I.ok.mod.kin hk hall ?_ hpl
  refine thn (hkw.run pos pins s σ H _ I h) fun ws s2 ⟨zs, H2, I2, rz, q2⟩ => ⟨I2.kIn, ?_⟩
  rw [hks]
  have := run_fnPX (us := []) (vs := []) tk F hr hb I2 .nil rz rfl (q2.1.trans hkl) (by rw [List.nil_append]; exact q2.2)
  exact this
end
end VS
set_option Elab.async false
set_option linter.all false
set_option maxRecDepth 100000
namespace VS
open PySem PySem.Spec PyProof.Rows L2
/-! ### MatError's __init__ -/
def spInit (K : PySem.W.Frag) : Sp := fun vs H Q _ => ∃ (a C : Addr) (v : V), vs = [.ref a, v] ∧ OexC K C ∧ PySem.W.findIn K (.ref C) "value" = some none ∧ H a = some (exo a C none) ∧
  ∀ dx, H dx = none → dx ≠ a → Q .non (upd (upd H dx (exd dx [(("value" : Str), v)])) a (exo a C (some dx)))
theorem init_run {K : PySem.W.Frag} {vs : List V} {H : Hp} {Q : VK} {E : XK} (h : spInit K vs H Q E) :
    tSeq (tDrop (tVeI K (tCons (tVar 0) (tCons (tVar 1) tNil)))) (tOst K "value" (tVar 0) (tVar 1)) { nx := fun _ H' => Q .non H', rt := Q } (L2.start ["self", "value"] vs) H := by
  obtain ⟨a, C, v, rfl, T, hno, ea, q⟩ := h
  refine ⟨_, rfl, _, rfl, a, C, [v], rfl, by show 1 ≤ 1000; decide, T, ea, ?_⟩
  exact ⟨_, rfl, _, rfl, a, C, rfl, T, hno, .inl ⟨ea, fun dx n ne => q dx n ne⟩⟩
theorem init_ok {P : Program} {w : World} {K : PySem.W.Frag} {mg : Str → Option Value} {base : Heap} {x qual : Str} {st : Stmt} {f : Addr} {fd : FuncData} (F : Fun K x qual st f fd) (S : FnScope ["self", "value"] ["self", "value"] (defScope st))
    (hbody : ∀ (cdv : Value) (A : Around) (outer : List PySem.Env) (s : Shared) (H : Hp) (E : XK), PSs (cxOf CX0 P w K mg base ["self", "value"] qual (defScope st) f cdv A outer s H E).nox (defBody st) (tSeq (tDrop (tVeI K (tCons (tVar 0) (tCons (tVar 1) tNil)))) (tOst K "value" (tVar 0) (tVar 1)))) :
    FnOk P w K mg base CX0 1 f fd ["self", "value"] (spInit K) :=
  F.ok S (fun vs H Q E ⟨_, _, _, e, _⟩ => by rw [e]; rfl) fun cdv A outer s H vs Q E _ h => ⟨_, hbody cdv A outer s H E, init_run h⟩
/-! ### raise C(e) -/
def raiseF (n : Str) (f : FE) : FS := fun ρ => (f ρ).bind fun p => if noOwn p.1 = true then some (.rz n p.1 p.2) else none
/-- what the written part says of an own exception class -/
structure ExT (K : PySem.W.Frag) (mg : Str → Option Value) (n : Str) (C : Addr) : Prop where
  at_ : ClsAt K n C
  mg_ : mg n = some (.ref C)
  oex : OexC K C
  ga : PySem.W.findIn K (.ref C) "__getattribute__" = some (some (.builtin "BaseException.__getattribute__"))
  gg : PySem.W.findIn K (.ref C) "__getattr__" = some none
  no : PySem.W.findIn K (.ref C) "value" = some none
  hd : PySem.W.hasDictIn K C = true
  cl : (PySem.W.clsIn K C).isSome = true
  ha : PySem.W.findIn K (.ref C) "__class__" = some (some (.builtin "object.__class__"))
  hn : PySem.W.specialIn K (.builtin "object.__class__") "__get__" = some (some (.builtin "getset_descriptor.__get__"))
  ht : PySem.W.takesIn K (.builtin "object.__class__") = some true
  hm : PySem.W.mroIn K C (.type "object") = some true
section
variable {X : Cx} {pn : Nat → Bool} {W : WX} {e : Expr} {x : Str} {p pos pos2 : Pos} {C fI : Addr} {fdI : FuncData}
theorem raise_sim {f : FE} {σ : L2.St} {H : Hp} {E : Ends} {K : PySem.W.Frag} {n : Str} (T : OexC K C) (hno : PySem.W.findIn K (.ref C) "value" = some none) (hC : ClsAt K n C) (h : tsOf K pn W (raiseF n f) E σ H) :
    tMkO C (spInit K) [] (tCons (teOf K f) tNil) σ H fun cls d H' => W cls d σ H' := by
  obtain ⟨ρ, o, G, F, e, r, q⟩ := h
  unfold raiseF at e
  cases hf : f ρ with
  | none => rw [hf] at e; cases e
  | some p =>
    obtain ⟨d, ρ1⟩ := p
    rw [hf] at e
    have e1 : (if noOwn d = true then some (Out.rz n d ρ1) else none) = some o := e
    by_cases hn : noOwn d = true
    · rw [if_pos hn] at e1; cases e1
      refine ⟨ρ, d, ρ1, G, F, hf, r, fun v G1 H1 F1 L t1 r1 rv n1 => ?_⟩
      refine ⟨by show 1 ≤ 1000; decide, fun a ha => ?_⟩
      have e0 := rv.noL hn
      subst e0
      refine ⟨a, C, v, rfl, T, hno, upd_same, fun dx hdx ne => ?_⟩
      have hdx1 : H1 dx = none := by rw [upd_ne ne] at hdx; exact hdx
      refine ⟨rfl, dx, [(("value" : Str), v)], upd_same, by rw [upd_ne ne, upd_same], hdx1, ?_⟩
      have eH : upd (del (upd (upd (upd H1 a (exo a C none)) dx (exd dx [(("value" : Str), v)])) a (exo a C (some dx))) a) dx (.xd [(("value" : Str), v)]) = upd H1 dx (.xd [(("value" : Str), v)]) := by
        funext b
        by_cases hb : b = dx
        · subst hb; rw [upd_same, upd_same]
        · rw [upd_ne hb, upd_ne hb]
          by_cases hba : b = a
          · subst hba; rw [del_same, ha]
          · rw [del_ne hba, upd_ne hba, upd_ne hb, upd_ne hba]
      rw [eH]
      have tn : Tr G1 H1 (own F1) (upd G1 dx (.xd [(("value" : Str), v)])) (upd H1 dx (.xd [(("value" : Str), v)])) (own F1) := Tr.newG r1.sub hdx1
      have tn0 : Tr G1 H1 (fun _ => False) (upd G1 dx (.xd [(("value" : Str), v)])) (upd H1 dx (.xd [(("value" : Str), v)])) (fun _ => False) := Tr.newG r1.sub hdx1
      exact q σ _ _ F1 C dx v ((t1.post fun a h => .inl h).trans tn) (r1.tr tn0 (fun _ _ z => z)) Pin.refl hC upd_same (rv.tr tn0 (fun _ z => nomatch z))
    · rw [if_neg hn] at e1; cases e1
theorem psf_raise {f : FE} {n : Str} (hc : X.calm = true) (tk : Takes X W) (T : OexC X.K C) (hno : PySem.W.findIn X.K (.ref C) "value" = some none) (hC : ClsAt X.K n C) (iC : PySem.W.findIn X.K (.ref C) "__init__" = some (some (.ref fI))) (tI : PySem.W.typeIn X.K (.ref fI) = some (.type "function"))
    (F1 : FnOk X.prog X.w X.K X.mg X.base CX0 1 fI fdI ["self", "value"] (spInit X.K)) (hr : Room 2 X.A) (hb : Binds X.K fdI ["self", "value"] []) (hg : Gl X x) (hm : X.mg x = some (.ref C)) (ha : PEf X e f)
    (hdb : (x == ("__debug__" : Str)) = false := by decide) (he : starEach (e :: []) X.env = (false, eval e X.env) :: starEach [] X.env := by rfl) (hpl : (backTo pos (starEach [] X.env)).any (·.1) = false := by rfl) :
    PSf X pn W (.Raise (some (.Call (.Name x p) [e] [] pos)) none pos2) (raiseF n f) :=
  ⟨fun pins s σ H D I h => (ps_raise hc tk (pmk_oex T iC tI F1 hr hb .nil pass0 hg hm (pa_cons ha pa_nil he) hdb he hpl)).run pins s σ H D I (raise_sim T hno hC h)⟩
end
/-! ### e.value, isinstance of what was caught -/
def ExN (K : PySem.W.Frag) (mg : Str → Option Value) (ns : List Str) : Prop := ∀ n, n ∈ ns → ∃ C, ExT K mg n C
theorem exN_nil {K : PySem.W.Frag} {mg : Str → Option Value} : ExN K mg [] := fun _ h => nomatch h
theorem exN_cons {K : PySem.W.Frag} {mg : Str → Option Value} {n : Str} {ns : List Str} {C : Addr} (h : ExT K mg n C) (t : ExN K mg ns) : ExN K mg (n :: ns) := fun m hm => by
  rcases List.mem_cons.mp hm with e | e
  · subst e; exact ⟨C, h⟩
  · exact t m e
/-- what is said of the classes with these names -/
def AllC (K : PySem.W.Frag) (ns : List Str) (P : Str → Addr → Prop) : Prop := ∀ n, n ∈ ns → ∀ C, ClsAt K n C → P n C
theorem allC_nil {K : PySem.W.Frag} {P : Str → Addr → Prop} : AllC K [] P := fun _ h => nomatch h
theorem allC_cons {K : PySem.W.Frag} {P : Str → Addr → Prop} {n : Str} {ns : List Str} {C : Addr} (h1 : ClsAt K n C) (h : P n C) (t : AllC K ns P) : AllC K (n :: ns) P := fun m hm D hD => by
  rcases List.mem_cons.mp hm with e | e
  · subst e
    unfold ClsAt at h1 hD
    rw [h1] at hD
    cases hD
    exact h
  · exact t m e D hD
def subB (n c : Str) : Bool := n == c || c == "MatError" || c == "ValueError" || c == "Exception"
def excValD (ns : List Str) : List D → Option D
  | [.exc n d] => if ns.contains n = true then some d else none
  | _ => none
def rExcVal (K : PySem.W.Frag) : V → Hp → VK → Prop := fun x H Q => ∃ (a C dd : Addr) (v : V), x = .ref a ∧ H a = some (ExV a C dd) ∧ H dd = some (.xd [(("value" : Str), v)]) ∧ XfC K C ∧ PySem.W.findIn K (.ref C) "value" = some none ∧ Q v H
theorem ExT.xf {K : PySem.W.Frag} {mg : Str → Option Value} {n : Str} {C : Addr} (T : ExT K mg n C) : XfC K C := ⟨T.ga, T.gg, T.oex.exC, T.hd⟩
theorem ExN.get {K : PySem.W.Frag} {mg : Str → Option Value} {ns : List Str} {n : Str} {C : Addr} (T : ExN K mg ns) (h : ns.contains n = true) (hC : ClsAt K n C) : ExT K mg n C := by
  obtain ⟨D, h⟩ := T n (by simpa using h)
  have := h.at_
  unfold ClsAt at this hC
  rw [hC] at this
  cases this
  exact h
theorem vok_excVal {K : PySem.W.Frag} {mg : Str → Option Value} {ns : List Str} (T : ExN K mg ns) : VOk K (r1L (rExcVal K)) (excValD ns) := by
  intro G H vs ds d s rl e Q q
  unfold excValD at e
  split at e
  · rename_i n d0
    obtain ⟨v, L, rfl, r1⟩ := rl.one
    by_cases hn : ns.contains n = true
    · rw [if_pos hn] at e
      cases e
      cases r1 with
      | exc h1 h2 h3 r =>
        have t := T.get hn h3
        exact ⟨_, _, _, _, rfl, s _ _ h1, s _ _ h2, t.xf, t.no, q _ G H [] ((Tr.refl s).post fun a z => nomatch z) r⟩
    · rw [if_neg hn] at e; cases e
  · cases e
/-- the object of a caught exception -/
theorem exV_at {X : Cx} {pins : List (Addr × Obj)} {σ : L2.St} {H : Hp} {s : Shared} {a C dd : Addr} {fs : List (Str × V)} (I : Inv X pins σ H s) (h1 : H a = some (ExV a C dd)) (h2 : H dd = some (.xd fs)) :
    ∃ oe od mA, PySem.W.InstAt s.heap a oe C (some od) ∧ s.heap.Ns1 dd mA ∧ s.heap.get? dd = some od ∧ (∀ f, RelO (fs.lookup f) (mA f)) := by
  have x : ObjOk X.prog X.w H s.heap a (.ext fun h => ∃ (oe : Obj) (vs : Array Value), h.get? a = some oe ∧ Zc (.ref C) (some dd) oe ∧ oe.data = .fields vs) := I.hok a _ h1
  obtain ⟨⟨oe, vs, ha, hz, hd⟩, _⟩ := x
  have hx : ObjOk X.prog X.w H s.heap dd (.xd fs) := I.hok dd _ h2
  obtain ⟨mA, hns, hr⟩ := hx
  obtain ⟨od, ho, hl⟩ := lookIn_ns hns
  exact ⟨oe, od, mA, ⟨ha, hz.1, by unfold PySem.W.notCls; rw [hd] <;> rfl, by rw [hz.2]; exact ho⟩, hns, ho, hr⟩
theorem pe_exV {X : Cx} {e : Expr} {te : TE} {pos : Pos} (he : PE X e te) (hb : attributeBase e "value" X.env (eval e X.env) = eval e X.env := by rfl) : PE X (.Attribute e "value" pos) (fun σ H Q => te σ H fun x H1 => rExcVal X.K x H1 Q) := by
  refine ⟨fun pins s σ H Q I h => ?_⟩
  refine attr_of hb (thn (he.run pins s σ H _ I h) fun u s1 hh => ?_)
  obtain ⟨x, H1, I1, rx, a, C, dd, v, ex, h1, h2, T, hno, q⟩ := hh
  subst ex
  obtain rfl : u = Value.ref a := rx
  have x : ObjOk X.prog X.w H1 s1.heap a (.ext fun h => ∃ (oe : Obj) (vs : Array Value), h.get? a = some oe ∧ Zc (.ref C) (some dd) oe ∧ oe.data = .fields vs) := I1.hok a _ h1
  obtain ⟨⟨oe, vs, ha, hz, hd⟩, _⟩ := x
  have hx : ObjOk X.prog X.w H1 s1.heap dd (.xd [(("value" : Str), v)]) := I1.hok dd _ h2
  obtain ⟨mA, hns, hr⟩ := hx
  obtain ⟨od, ho, hl⟩ := lookIn_ns hns
  have l : List.lookup ("value" : Str) [(("value" : Str), v)] = some v := by simp [List.lookup]
  obtain ⟨u, hu, ru⟩ := RelO.some_of (v := v) (o := mA "value") (by rw [← l]; exact hr "value")
  have J : PySem.W.InstAt s1.heap a oe C (some od) := ⟨ha, hz.1, by unfold PySem.W.notCls; rw [hd] <;> rfl, by rw [hz.2]; exact ho⟩
  exact HandSPX.exc_get I1.kIn J T.ga T.gg T.exC (PySem.W.findObj_own T.hdC hno rfl (by rw [hl, hu])) (handed_of ru) ⟨v, H1, I1.tok _, ru, q⟩
theorem pf_excVal {X : Cx} {e : Expr} {o : Op} {ns : List Str} {pos : Pos} (T : ExN X.K X.mg ns) (h : POf X e o) (hb : attributeBase e "value" X.env (eval e X.env) = eval e X.env := by rfl) : PEf X (.Attribute e "value" pos) (opF (excValD ns) [o]) := by
  obtain ⟨te, p1, s1⟩ := h.ex
  exact .mk (pe_exV p1 hb) (simE_op (simA_cons s1 simA_nil) (vok_excVal T))
/-- isinstance(x, c), x None or what was caught -/
def isXD (ns : List Str) (c : Str) : List D → Option D
  | [.exc n _] => if ns.contains n = true then some (.bl (subB n c)) else none
  | [.non] => some (.bl false)
  | _ => none
def rIsX (K : PySem.W.Frag) : List V → Hp → VK → Prop := fun xs H Q => ∃ x c cv, xs = [x, c] ∧ ClsV c cv ∧ ((x = .non ∧ PySem.W.kitOne K (.type "NoneType") cv = some false ∧ Q (.bl false) H) ∨
  ∃ (a C dd : Addr) (mg : Str → Option Value) (n : Str) (fs : List (Str × V)) (b : Bool), x = .ref a ∧ H a = some (ExV a C dd) ∧ H dd = some (.xd fs) ∧ ExT K mg n C ∧ PySem.W.kitOne K (.ref C) cv = some b ∧ Q (.bl b) H)
theorem vok_isX {K : PySem.W.Frag} {mg : Str → Option Value} {ns : List Str} {c : Str} {cV : V} {cv : Value} (T : ExN K mg ns) (hc : ClsV cV cv) (h0 : PySem.W.kitOne K (.type "NoneType") cv = some false) (h1 : AllC K ns fun n C => PySem.W.kitOne K (.ref C) cv = some (subB n c)) :
    VOk K (fun vs H Q => match vs with | [x] => rIsX K [x, cV] H Q | _ => False) (isXD ns c) := by
  intro G H vs ds d s rl e Q q
  unfold isXD at e
  split at e
  · rename_i n d0
    obtain ⟨v, L, rfl, r1⟩ := rl.one
    by_cases hn : ns.contains n = true
    · rw [if_pos hn] at e
      cases e
      cases r1 with
      | exc e1 e2 e3 r =>
        exact ⟨_, _, _, rfl, hc, .inr ⟨_, _, _, mg, n, _, _, rfl, s _ _ e1, s _ _ e2, T.get hn e3, h1 n (by simpa using hn) _ e3, fin0 s (.bl _) q⟩⟩
    · rw [if_neg hn] at e; cases e
  · obtain ⟨v, L, rfl, r1⟩ := rl.one
    cases e
    cases r1
    exact ⟨_, _, _, rfl, hc, .inl ⟨rfl, h0, fin0 s (.bl _) q⟩⟩
  · cases e
theorem call_isX {X : Cx} : CallR X (.builtin "isinstance") (rIsX X.K) := by
  intro pins s σ H xs us Q I r h
  obtain ⟨x, c, cv, rfl, k, h⟩ := h
  obtain ⟨u1, u2, rfl, r1, r2⟩ := vals2 r
  have e2 := k.eq r2
  subst e2
  rcases h with ⟨rfl, e, q⟩ | ⟨a, C, dd, mg, n, fs, b, rfl, h1, h2, T, e, q⟩
  · obtain ⟨P, Z, p, hx⟩ := kit_of I r1 (.base .non)
    exact PySem.W.kia_one Z I.kIn p e hx fun tk => ⟨.bl false, H, I.tok tk, rfl, q⟩
  · cases (show u1 = Value.ref a from r1)
    obtain ⟨oe, od, mA, J, _⟩ := exV_at I h1 h2
    exact PySem.W.kia_one (PySem.W.kitx_exc T.cl T.ga T.gg T.oex.exC T.ha T.hn T.ht T.hm) I.kIn J e (fun z => nomatch z) fun tk => ⟨.bl b, H, I.tok tk, rfl, q⟩
theorem pf_isX {X : Cx} {e : Expr} {o : Op} {ns : List Str} {c : Str} {cV : V} {cv : Value} {x : Str} {p p2 pos : Pos} (T : ExN X.K X.mg ns) (hgi : Gl X "isinstance") (hmi : X.mg "isinstance" = none) (h : POf X e o) (hC : PE X (.Name x p2) (tC cV)) (hc : ClsV cV cv) (h0 : PySem.W.kitOne X.K (.type "NoneType") cv = some false) (h1 : AllC X.K ns fun n C => PySem.W.kitOne X.K (.ref C) cv = some (subB n c))
    (hs : starEach [e, Expr.Name x p2] X.env = (false, eval e X.env) :: starEach [Expr.Name x p2] X.env := by rfl) (hs2 : starEach [Expr.Name x p2] X.env = (false, eval (Expr.Name x p2) X.env) :: starEach [] X.env := by rfl) (hpl : (backTo pos (starEach [Expr.Name x p2] X.env)).any (·.1) = false := by rfl) :
    PEf X (.Call (.Name "isinstance" p) [e, .Name x p2] [] pos) (opF (isXD ns c) [o]) := by
  obtain ⟨te, p1, s1⟩ := h.ex
  refine PEf.mk (pe_callB call_isX hgi hmi boot_isinstance (pa_cons p1 (pa_cons hC pa_nil hs2) hs) (by decide) (by decide) hs hpl) ?_
  exact simE_op (ta := tCons te tNil) (r := fun vs H Q => match vs with | [x] => rIsX X.K [x, cV] H Q | _ => False) (simA_cons s1 simA_nil) (vok_isX T hc h0 h1)
end VS
set_option Elab.async false
set_option linter.all false
set_option maxRecDepth 100000
set_option maxHeartbeats 2000000
namespace VS
open PySem PySem.Spec PyProof.Rows L2
/-! ### try: body, except c as n: suite, .. -/
/-- a clause: the class, the slot of its name (if it has one), its suite's reading -/
abbrev HdT := Value × Option Nat × TS
def endsOf (D : Ends) : Option Nat → Ends
  | some i => { nx := fun σ' H' => D.nx (σ'.set i none) H', rt := D.rt, bk := fun σ' H' => D.bk (σ'.set i none) H', ct := fun σ' H' => D.ct (σ'.set i none) H' }
  | none => D
def stOf (σ : L2.St) (a : Addr) : Option Nat → L2.St
  | some i => σ.set i (some (.ref a))
  | none => σ
def wTry (K : PySem.W.Frag) (Wout : WX) (D : Ends) : List HdT → WX
  | [] => Wout
  | (c, i, ts) :: r => fun cls d σ H => ∃ C dd, cls = .ref C ∧ d = some dd ∧ ∃ b, PySem.W.exmOne K cls c = some b ∧ (b = true → ∀ a, H a = none → ts (endsOf D i) (stOf σ a i) (upd H a (ExV a C dd))) ∧ (b = false → wTry K Wout D r cls d σ H)
inductive HdsT (X : Cx) : List ExceptHandler → List HdT → Prop
  | nil : HdsT X [] []
  | as {x n : Str} {c : Value} {i : Nat} {ts : TS} {b₀ : Stmt} {suite : List Stmt} {np pos' : Pos} {hds : List ExceptHandler} {l : List HdT} (hi : X.N[i]? = some n) (hln : X.env.kindOf n = some .local) (hc : Names X x c)
      (hsu : ∀ (a : Addr) (pn : List (Addr × Obj)), PSs (X.suite a pn) (b₀ :: suite) ts) (r : HdsT X hds l) : HdsT X (.ExceptHandler (some (.Name x np)) (some n) (b₀ :: suite) pos' :: hds) ((c, some i, ts) :: l)
  | only {x : Str} {c : Value} {ts : TS} {b₀ : Stmt} {suite : List Stmt} {np pos' : Pos} {hds : List ExceptHandler} {l : List HdT} (hc : Names X x c)
      (hsu : ∀ (a : Addr) (pn : List (Addr × Obj)), PSs (X.suite a pn) (b₀ :: suite) ts) (r : HdsT X hds l) : HdsT X (.ExceptHandler (some (.Name x np)) none (b₀ :: suite) pos' :: hds) ((c, none, ts) :: l)
section
variable {X : Cx} {pins : List (Addr × Obj)} {σ : L2.St} {H : Hp} {sI s s' : Shared} {B : Heap}
theorem exV_ok {P : Program} {w : World} {h : Heap} {a C dd : Addr} {oe : Obj} {vs : Array Value} (e : h.get? a = some oe) (z : Zc (.ref C) (some dd) oe) (d : oe.data = .fields vs) : ObjOk P w H h a (ExV a C dd) :=
  ⟨⟨oe, vs, e, z, d⟩, ⟨oe, e⟩, fun h1 h2 ⟨oe, vs, e, z, d⟩ k => ⟨oe, vs, k _ e, z, d⟩⟩
/-- as Inv.landed, the exception's object tracked from now on -/
theorem Inv_landedX {a : Addr} {o : HO} (I : Inv X pins σ H sI) (nb : ∀ b o, sI.heap.get? b = some o → b ∉ frs X.stack → B.get? b = some o) (st : B.StaysIn s'.heap) (up : sI.heap.UpToSlots s'.heap) (os : s'.os = sI.os) (ag : AllBare s'.gens)
    (na : H a = none) (ns : sI.heap.get? a = none) (ox : ObjOk X.prog X.w (upd H a o) s'.heap a o) : Inv X pins σ (upd H a o) s' := by
  have nf : ∀ b ∈ frs X.stack, ∀ o, sI.heap.get? b = some o → ∃ sl, s'.heap.get? b = some { o with slots := sl } := fun b hb o e => by
    obtain ⟨_, o', e', hd⟩ := I.stack.mem hb
    rw [e] at e'; cases e'
    exact up b o e hd
  have hk := (I.inGround nb).kept st
  have J := I.call (ch := []) (h' := s'.heap) (g' := s'.gens) (t' := s'.toks) (d' := s'.drawn) (H' := upd H a o)
    ⟨fun b o e _ hb _ => st b o (nb b o e hb), fun b o e _ hb _ => nf b hb o e, fun b u e n _ => by
        have : b ≠ a := fun z => by rw [z, ns] at e; cases e
        rw [upd_ne this]; exact n, fun b o e _ => by
      by_cases hb : b ∈ frs X.stack
      · obtain ⟨sl, q⟩ := nf b hb o e
        exact ⟨_, q⟩
      · exact ⟨o, st b o (nb b o e hb)⟩, fun b xs e => by rw [upd_ne (ne_of_none e na)]; exact e, fun b o u e => by rw [upd_ne (ne_of_none e na)]; exact e, fun b ps e => ⟨#[], by rw [upd_ne (ne_of_none e na), e]; simp⟩⟩
    (fun b u e => by
      by_cases hb : b = a
      · subst hb; rw [upd_same] at e; cases e; exact ox
      · rw [upd_ne hb] at e
        exact (hk b u e).stay (fun c v _ q => q) (fun c q => by rw [upd_ne (ne_of_none q na)]; exact q) fun c xs q => by rw [upd_ne (ne_of_none q na)]; exact q) ag (fun _ z => nomatch z)
  obtain ⟨a1, a2, a3, a4, a5⟩ := s'
  have e5 : a5 = sI.os := os
  subst e5
  exact J
theorem Inv_suiteX {a : Addr} (I : Inv X pins σ H s) : Inv (X.suite a (X.pn ++ pins)) [] σ H s :=
  ⟨I.ok.suite _ _, I.os, I.bare, I.base, I.loc, I.cell, I.free, I.freeC, fun p hp => I.pin p (by rw [List.append_nil] at hp; exact hp), I.hok, I.len⟩
theorem Inv_unsuiteX {a : Addr} {pn' : List (Addr × Obj)} (I : Inv (X.suite a (X.pn ++ pins)) pn' σ H s) (ok : X.Ok) : Inv X pins σ H s :=
  ⟨ok, I.os, I.bare, I.base, I.loc, I.cell, I.free, I.freeC, fun p hp => I.pin p (List.mem_append_left _ hp), I.hok, I.len⟩
end
section
variable {X : Cx} {body : List Stmt} {h₀ : ExceptHandler} {hds : List ExceptHandler} {l : List HdT} {pos : Pos} {tb : WX → TS} {Wout : WX}
theorem ps_try (hs : X.stack = X.env :: X.outer) (hf : X.env.frame = some X.env.locals) (hN : X.N.Nodup) (tk : Takes X Wout)
    (hb : ∀ (W : WX) (pn : List (Addr × Obj)) (xe : Value → Shared → Prop), Takes (X.tr pn xe) W → PassesOwn (model X.prog X.w) X.A X.env xe → PSs (X.tr pn xe) body (tb W))
    (hh : HdsT X (h₀ :: hds) l) : PS X (.Try body (h₀ :: hds) [] [] pos) (fun D σ H => tb (wTry X.K Wout D l) D σ H) := by
  refine ⟨fun pins s σ H D I h => ?_⟩
  have ok := I.ok
  have hfr : X.A.frames = some (X.env :: X.outer) := by rw [ok.frames, hs]
  refine wpAny_Try_except ?_
  refine wpAny_mono ((hb (wTry X.K Wout D l) (X.pn ++ pins) (fun e s₁ => wpAny (model X.prog X.w) X.A (noteFrame e X.env) (fun _ s₂ => wpAny (model X.prog X.w) X.A (setFlight e none) (fun _ s₃ =>
    wpAny (model X.prog X.w) X.A (handleBy e X.env (h₀ :: hds)) (SP X pins D) X.xe s₃) X.xe s₂) X.xe s₁) (fun u s' xx => ?_) PassesOwn.looking).run [] s σ H D (I.toTry _) h) (fun f s1 hsp => ?_) (fun e s1 he => he)
  · -- the catch
    obtain ⟨a, B, sI, pins', σ', H', cls, d, rfl, J', nb, up, sky, na, os, ag, w⟩ := xx
    have J : Inv X pins σ' H' sI := J'.ofTry ok
    have sky' : Sky B (X.env :: X.outer) a (Zc cls d) X.env.locals s'.heap := by rw [← hs]; exact sky
    show wpAny (model X.prog X.w) X.A (noteFrame (.ref a) X.env) _ _ _
    refine Sky.land Zc.steady hfr hf sky' fun h3 fl3 up3 => ?_
    have J3 : Inv X pins σ' H' { s' with heap := h3 } := J.landed nb fl3.1 (up.trans up3) os ag
    obtain ⟨oe3, vs3, he3, hz3, hd3⟩ := fl3.there
    have notFr : ∀ {h : Heap} {o : Obj} {vs : Array Value}, h.FunFrames B (X.env :: X.outer) → h.get? a = some o → o.data = .fields vs → a ∉ frs (X.env :: X.outer) := fun {h o vs} ff e dd hm => by
      obtain ⟨_, o', e', hnf⟩ := ff.mem hm
      rw [e] at e'; cases e'
      exact hnf _ dd
    have nfr := notFr fl3.2.2.1 he3 hd3
    have nL : a ≠ X.env.locals := fun z => nfr (List.mem_filterMap.mpr ⟨X.env, List.mem_cons_self, by rw [hf, z]⟩)
    have nF : a ∉ X.fs := fun hm => by
      obtain ⟨e, he, q⟩ := List.mem_filterMap.mp hm
      exact nfr (List.mem_filterMap.mpr ⟨e, List.mem_cons_of_mem _ he, q⟩)
    have nsI : sI.heap.get? a = none := by
      cases e : sI.heap.get? a with
      | none => rfl
      | some o =>
        have := nb a o e (by rw [hs]; exact nfr)
        rw [fl3.2.1] at this; cases this
    have S3 := J3.suite he3 hd3 na nL nF
    have go : ∀ {hds' : List ExceptHandler} {l' : List HdT}, HdsT X hds' l' → wTry X.K Wout D l' cls d σ' H' →
        wpAny (model X.prog X.w) X.A (handleBy (.ref a) X.env hds') (SP X pins D) X.xe { s' with heap := h3 } := by
      intro hds' l' hk
      induction hk with
      | nil =>
        intro w
        refine wpAny_handleBy_nil ?_
        obtain ⟨k1, k2, k3, oe, vs, T, oT, ts', he, hz, hd, h1, hr⟩ := id fl3
        unfold PySem.passOn
        refine wpAny_bind (wpAny_field he hd h1 ?_)
        rw [if_neg (show ¬ ((Value.ref T == Value.none) = true) from by simp)]
        have fin : wpAny (model X.prog X.w) X.A (setFlight (.ref a) X.env.frame) (fun _ s4 => wpAny (model X.prog X.w) X.A (throw (.ref a) : Sem Flow) (SP X pins D) X.xe s4) X.xe { s' with heap := h3 } := by
          rw [hf]
          refine HandSPX.setFlight_upZ fl3 fun h4 hh4 up4 => wpAny_throw (tk _ _ ?_)
          exact ⟨a, B, sI, pins, σ', H', cls, d, rfl, J, nb, (up.trans up3).trans up4, .inr (.inr (by rw [hs]; exact hh4)), na, os, ag, w⟩
        first
          | exact wpAny_bind (wpAny_pure (wpAny_bind fin))
          | exact wpAny_bind fin
      | @as x n c i ts b₀ suite np pos' hds2 l2 hi hln hc hsu r ih =>
        intro w
        obtain ⟨C, dd, eC, ed, b, hb1, hyes, hno⟩ := w
        refine wpAny_handleBy_cons (codeAny_handlers_test ?_) (by intro q; cases q)
        have LT : PySem.W.Looks (model X.prog X.w) h3 (typeOf (.ref a)) cls := fun A Q E s k q => wpAny_typeOf_ref (k _ _ he3) (by rw [hz3.1]; exact q)
        have LM := PySem.W.exm_one (M := model X.prog X.w) (J3.kIn) LT hb1
        have test : ∀ {Q : Value → Shared → Prop} {E : Value → Shared → Prop}, Q c { s' with heap := h3 } → wpAny (model X.prog X.w) (X.A.mark (some (.ref a))) (eval (.Name x np) X.env) Q E { s' with heap := h3 } := fun {Q E} q => by
          obtain ⟨hg, hdbg, hm | ⟨hm, hv, hnn⟩⟩ := hc
          · exact ld_glob (X := X.suite a ((a, oe3) :: (X.pn ++ pins))) S3 hg hm q hdbg
          · exact ld_blt (X := X.suite a ((a, oe3) :: (X.pn ++ pins))) S3 hg hm hv q hnn hdbg
        refine test (LM.here ?_)
        cases b with
        | true =>
          refine codeAny_handlers_suite_as ?_
          refine HandSPX.lands_againZ fl3 fun h4 fl4 up4 => ?_
          obtain ⟨oe4, vs4, he4, hz4, hd4⟩ := fl4.there
          have J4 : Inv X pins σ' (upd H' a (ExV a C dd)) { s' with heap := h4 } := Inv_landedX J nb fl4.1 ((up.trans up3).trans up4) os ag na nsI (exV_ok he4 (by rw [← eC, ← ed]; exact hz4) hd4)
          have S4 := Inv_suiteX (a := a) J4
          refine store_ok (X := X.suite a (X.pn ++ pins)) (v := .ref a) S4 hN hi (.inl hln) rfl (fun s5 S5 => ?_) (.inr hln)
          refine wpAny_mono ((hsu a (X.pn ++ pins)).run [] s5 _ _ _ S5 (hyes rfl a na)) (fun f s6 hsp => ?_) (fun _ _ z => False.elim z)
          have end_ : ∀ {σ6 : L2.St} {H6 : Hp} {Q : Shared → Prop}, Inv (X.suite a (X.pn ++ pins)) [] σ6 H6 s6 → (∀ s7, Inv X pins (σ6.set i none) H6 s7 → Q s7) →
              wpAny (model X.prog X.w) X.A (do bindName X.env n .none; unbindBehindTheSuite X.env n pos') (fun _ s7 => Q s7) X.xe s6 := fun {σ6 H6 Q} S6 hq => gone_ok (Inv_unsuiteX S6 ok) hN hi hln hq
          cases f with
          | next =>
            obtain ⟨σ6, H6, S6, q6⟩ := hsp
            exact end_ S6 fun s7 J7 => ⟨_, _, J7, q6⟩
          | brk =>
            obtain ⟨σ6, H6, S6, q6⟩ := hsp
            exact end_ S6 fun s7 J7 => ⟨_, _, J7, q6⟩
          | cont =>
            obtain ⟨σ6, H6, S6, q6⟩ := hsp
            exact end_ S6 fun s7 J7 => ⟨_, _, J7, q6⟩
          | ret u =>
            obtain ⟨v6, σ6, H6, S6, r6, q6⟩ := hsp
            exact end_ S6 fun s7 J7 => ⟨_, _, _, J7, r6, q6⟩
        | false =>
          show wpAny _ X.A (handleBy (.ref a) X.env hds2) _ _ _
          exact ih (hno rfl)
      | @only x c ts b₀ suite np pos' hds2 l2 hc hsu r ih =>
        intro w
        obtain ⟨C, dd, eC, ed, b, hb1, hyes, hno⟩ := w
        refine wpAny_handleBy_cons (codeAny_handlers_test ?_) (by intro q; cases q)
        have LT : PySem.W.Looks (model X.prog X.w) h3 (typeOf (.ref a)) cls := fun A Q E s k q => wpAny_typeOf_ref (k _ _ he3) (by rw [hz3.1]; exact q)
        have LM := PySem.W.exm_one (M := model X.prog X.w) (J3.kIn) LT hb1
        have test : ∀ {Q : Value → Shared → Prop} {E : Value → Shared → Prop}, Q c { s' with heap := h3 } → wpAny (model X.prog X.w) (X.A.mark (some (.ref a))) (eval (.Name x np) X.env) Q E { s' with heap := h3 } := fun {Q E} q => by
          obtain ⟨hg, hdbg, hm | ⟨hm, hv, hnn⟩⟩ := hc
          · exact ld_glob (X := X.suite a ((a, oe3) :: (X.pn ++ pins))) S3 hg hm q hdbg
          · exact ld_blt (X := X.suite a ((a, oe3) :: (X.pn ++ pins))) S3 hg hm hv q hnn hdbg
        refine test (LM.here ?_)
        cases b with
        | true =>
          refine codeAny_handlers_suite ?_
          refine HandSPX.lands_againZ fl3 fun h4 fl4 up4 => ?_
          obtain ⟨oe4, vs4, he4, hz4, hd4⟩ := fl4.there
          have J4 : Inv X pins σ' (upd H' a (ExV a C dd)) { s' with heap := h4 } := Inv_landedX J nb fl4.1 ((up.trans up3).trans up4) os ag na nsI (exV_ok he4 (by rw [← eC, ← ed]; exact hz4) hd4)
          have S4 := Inv_suiteX (a := a) J4
          refine wpAny_mono ((hsu a (X.pn ++ pins)).run [] _ _ _ _ S4 (hyes rfl a na)) (fun f s6 hsp => ?_) (fun _ _ z => False.elim z)
          cases f with
          | next =>
            obtain ⟨σ6, H6, S6, q6⟩ := hsp
            exact ⟨_, _, Inv_unsuiteX S6 ok, q6⟩
          | brk =>
            obtain ⟨σ6, H6, S6, q6⟩ := hsp
            exact ⟨_, _, Inv_unsuiteX S6 ok, q6⟩
          | cont =>
            obtain ⟨σ6, H6, S6, q6⟩ := hsp
            exact ⟨_, _, Inv_unsuiteX S6 ok, q6⟩
          | ret u =>
            obtain ⟨v6, σ6, H6, S6, r6, q6⟩ := hsp
            exact ⟨_, _, _, Inv_unsuiteX S6 ok, r6, q6⟩
        | false =>
          show wpAny _ X.A (handleBy (.ref a) X.env hds2) _ _ _
          exact ih (hno rfl)
    exact go hh w
  · cases f with
    | next =>
      obtain ⟨σ', H', J', q⟩ := hsp
      exact wpAny_execs_nil ⟨σ', H', J'.ofTry ok, q⟩
    | brk =>
      obtain ⟨σ', H', J', q⟩ := hsp
      exact ⟨σ', H', J'.ofTry ok, q⟩
    | cont =>
      obtain ⟨σ', H', J', q⟩ := hsp
      exact ⟨σ', H', J'.ofTry ok, q⟩
    | ret u =>
      obtain ⟨v, σ', H', J', r, q⟩ := hsp
      exact ⟨v, σ', H', J'.ofTry ok, r, q⟩
end
end VS
set_option Elab.async false
set_option linter.all false
set_option maxRecDepth 100000
namespace VS
open PySem PySem.Spec PyProof.Rows L2
/-! ### try by its data: a clause: its class's name, the slot of its name, its suite -/
abbrev HdF := Str × Option Nat × FS
def clrO (i : Option Nat) : Out → Option Out
  | .nx ρ => some (.nx (match i with | some i => ρ.set i none | none => ρ))
  | .bk ρ => some (.bk (match i with | some i => ρ.set i none | none => ρ))
  | .ct ρ => some (.ct (match i with | some i => ρ.set i none | none => ρ))
  | .rt d ρ => some (.rt d ρ)
  | .rz _ _ _ => none
def putE (ρ : Env) (n : Str) (d : D) : Option Nat → Env
  | some i => ρ.set i (some (.exc n d))
  | none => ρ
def goHd (ns : List Str) (n : Str) (d : D) (ρ : Env) : List HdF → Option Out
  | [] => some (.rz n d ρ)
  | (c, i, f) :: r => if ns.contains n = true then (if subB n c = true then (f (putE ρ n d i)).bind (clrO i) else goHd ns n d ρ r) else none
def tryF (ns : List Str) (body : FS) (hs : List HdF) : FS := fun ρ => (body ρ).bind fun o => match o with
  | .rz n d ρ1 => goHd ns n d ρ1 hs
  | o => some o
def tryT (tb : WX → TS) (K : PySem.W.Frag) (Wout : WX) (l : List HdT) : TS := fun D σ H => tb (wTry K Wout D l) D σ H
section
variable {K : PySem.W.Frag} {pn : Nat → Bool} {W : WX}
inductive HdS (K : PySem.W.Frag) (pn : Nat → Bool) (ns : List Str) : List HdT → List HdF → Prop
  | nil : HdS K pn ns [] []
  | cons {c : Str} {cv : Value} {i : Option Nat} {ts : TS} {f : FS} {l : List HdT} {hs : List HdF} (hi : ∀ j, i = some j → pn j = false) (hx : AllC K ns fun n C => PySem.W.exmOne K (.ref C) cv = some (subB n c)) (h : SimS K pn noW ts f) (r : HdS K pn ns l hs) : HdS K pn ns ((cv, i, ts) :: l) ((c, i, f) :: hs)
theorem goHd_sim {ns : List Str} {n : Str} {d : D} {o : Out} {E : Ends} {σ : L2.St} {C dd : Addr} {v : V} : ∀ {l : List HdT} {hs : List HdF} {ρ : Env} {G H : Hp} {F : Nat → List Addr}, HdS K pn ns l hs → goHd ns n d ρ hs = some o → REnv K G H σ ρ F → ClsAt K n C → G dd = some (.xd [(("value" : Str), v)]) → Rep K G H v d [] → Post K pn W σ G H (own F) E o → wTry K W E l (.ref C) (some dd) σ H
  | _, _, ρ, G, H, F, .nil, e, r, hC, hx, rv, q => by
    unfold goHd at e; cases e
    exact q σ G H F C dd v (Tr.refl r.sub) r Pin.refl hC hx rv
  | _, _, ρ, G, H, F, .cons (c := c) (cv := cv) (i := i) (ts := ts) (f := f) hi hxm hs rs, e, r, hC, hx, rv, q => by
    unfold goHd at e
    by_cases hn : ns.contains n = true
    · rw [if_pos hn] at e
      refine ⟨C, dd, rfl, rfl, subB n c, hxm n (by simpa using hn) C hC, fun hb a ha => ?_, fun hb => ?_⟩
      · rw [if_pos hb] at e
        have t0 : Tr G H (own F) (upd G a (ExV a C dd)) (upd H a (ExV a C dd)) (own F) := Tr.newG r.sub ha
        have t00 : Tr G H (fun _ => False) (upd G a (ExV a C dd)) (upd H a (ExV a C dd)) (fun _ => False) := Tr.newG r.sub ha
        have r0 := r.tr t00 (fun _ _ z => z)
        have gne : dd ≠ a := fun z => by rw [z] at hx; rw [r.sub.free ha] at hx; cases hx
        have rE : Rep K (upd G a (ExV a C dd)) (upd H a (ExV a C dd)) (.ref a) (.exc n d) [] := .exc upd_same (by rw [upd_ne gne]; exact hx) hC (rv.tr t00 (fun _ _ z => z))
        cases i with
        | none =>
          have e1 : (f ρ).bind (clrO none) = some o := e
          cases hf : f ρ with
          | none => rw [hf] at e1; cases e1
          | some o1 =>
            rw [hf] at e1
            have e2 : clrO none o1 = some o := e1
            refine hs ρ o1 hf σ _ _ F r0 E ?_
            have q0 := q.mono t0 Pin.refl
            cases o1 with
            | nx ρ1 => cases e2; exact q0
            | bk ρ1 => cases e2; exact q0
            | ct ρ1 => cases e2; exact q0
            | rt d1 ρ1 => cases e2; exact q0
            | rz n1 d1 ρ1 => cases e2
        | some i =>
          have e1 : (f (ρ.set i (some (.exc n d)))).bind (clrO (some i)) = some o := e
          obtain ⟨F1, r1, o1⟩ := r0.put' i rE (fun a z => nomatch z)
          have t1 : Tr G H (own F) (upd G a (ExV a C dd)) (upd H a (ExV a C dd)) (own F1) := t0.post fun a h => (o1 a h).elim id fun z => nomatch z
          have p1 : Pin pn σ (σ.set i (some (.ref a))) := Pin.set (hi i rfl)
          cases hf : f (ρ.set i (some (.exc n d))) with
          | none => rw [hf] at e1; cases e1
          | some o2 =>
            rw [hf] at e1
            have e2 : clrO (some i) o2 = some o := e1
            refine hs _ o2 hf _ _ _ F1 r1 _ ?_
            have q0 := q.mono t1 p1
            have drop : ∀ {σ' : L2.St} {G' H' : Hp} {ρ' : Env} {F' : Nat → List Addr} {A : Addr → Prop} {G0 H0 : Hp}, REnv K G' H' σ' ρ' F' → Tr G0 H0 A G' H' (own F') → ∃ F2, REnv K G' H' (σ'.set i none) (ρ'.set i none) F2 ∧ Tr G0 H0 A G' H' (own F2) := fun r' t' => ⟨_, r'.drop2 i, t'.post fun a h => (own_set h).elim id fun z => nomatch z⟩
            cases o2 with
            | nx ρ1 =>
              cases e2
              intro σ' G' H' F' t' r' p'
              obtain ⟨F2, r2, t2⟩ := drop r' t'
              exact q0 _ G' H' F2 t2 r2 (p'.trans (Pin.set (hi i rfl)))
            | bk ρ1 =>
              cases e2
              intro σ' G' H' F' t' r' p'
              obtain ⟨F2, r2, t2⟩ := drop r' t'
              exact q0 _ G' H' F2 t2 r2 (p'.trans (Pin.set (hi i rfl)))
            | ct ρ1 =>
              cases e2
              intro σ' G' H' F' t' r' p'
              obtain ⟨F2, r2, t2⟩ := drop r' t'
              exact q0 _ G' H' F2 t2 r2 (p'.trans (Pin.set (hi i rfl)))
            | rt d1 ρ1 => cases e2; exact q0
            | rz n1 d1 ρ1 => cases e2
      · rw [if_neg (by rw [hb]; exact Bool.false_ne_true)] at e
        exact goHd_sim rs e r hC hx rv q
    · rw [if_neg hn] at e; cases e
/-- the body's reading, by its data, whatever is wished -/
theorem try_sim {ns : List Str} {fb : FS} {l : List HdT} {hs : List HdF} (hh : HdS K pn ns l hs) : SimS K pn W (tryT (fun W => tsOf K pn W fb) K W l) (tryF ns fb hs) := by
  intro ρ o e σ G H F r E q
  unfold tryF at e
  cases hb : fb ρ with
  | none => rw [hb] at e; cases e
  | some o1 =>
    rw [hb] at e
    refine ⟨ρ, o1, G, F, hb, r, ?_⟩
    cases o1 with
    | nx ρ1 => cases e; exact q
    | bk ρ1 => cases e; exact q
    | ct ρ1 => cases e; exact q
    | rt d1 ρ1 => cases e; exact q
    | rz n d ρ1 =>
      have e1 : goHd ns n d ρ1 hs = some o := e
      exact fun σ' G' H' F' C dd v t' r' p' hC hx rv => goHd_sim hh e1 r' hC hx rv (q.mono t' p')
end
/-- the clauses by their text -/
inductive HdP (X : Cx) (pn : Nat → Bool) (ns : List Str) : List ExceptHandler → List HdF → Prop
  | nil : HdP X pn ns [] []
  | as {x n c : Str} {cv : Value} {i : Nat} {f : FS} {b₀ : Stmt} {suite : List Stmt} {np pos' : Pos} {hds : List ExceptHandler} {hs : List HdF} (hi : X.N[i]? = some n) (hln : X.env.kindOf n = some .local) (hp : pn i = false) (hc : Names X x cv) (hx : AllC X.K ns fun n C => PySem.W.exmOne X.K (.ref C) cv = some (subB n c))
      (hsu : ∀ (a : Addr) (pn' : List (Addr × Obj)), PSsf (X.suite a pn') pn noW (b₀ :: suite) f) (r : HdP X pn ns hds hs) : HdP X pn ns (.ExceptHandler (some (.Name x np)) (some n) (b₀ :: suite) pos' :: hds) ((c, some i, f) :: hs)
  | only {x c : Str} {cv : Value} {f : FS} {b₀ : Stmt} {suite : List Stmt} {np pos' : Pos} {hds : List ExceptHandler} {hs : List HdF} (hc : Names X x cv) (hx : AllC X.K ns fun n C => PySem.W.exmOne X.K (.ref C) cv = some (subB n c))
      (hsu : ∀ (a : Addr) (pn' : List (Addr × Obj)), PSsf (X.suite a pn') pn noW (b₀ :: suite) f) (r : HdP X pn ns hds hs) : HdP X pn ns (.ExceptHandler (some (.Name x np)) none (b₀ :: suite) pos' :: hds) ((c, none, f) :: hs)
theorem HdP.go {X : Cx} {pn : Nat → Bool} {ns : List Str} : ∀ {hds : List ExceptHandler} {hs : List HdF}, HdP X pn ns hds hs → ∃ l, HdsT X hds l ∧ HdS X.K pn ns l hs
  | _, _, .nil => ⟨[], .nil, .nil⟩
  | _, _, .as hi hln hp hc hx hsu r => by
    obtain ⟨l, a, b⟩ := r.go
    exact ⟨_, .as hi hln hc hsu a, .cons (fun j e => by cases e; exact hp) hx (simS_of _) b⟩
  | _, _, .only hc hx hsu r => by
    obtain ⟨l, a, b⟩ := r.go
    exact ⟨_, .only hc hsu a, .cons (fun j e => by cases e) hx (simS_of _) b⟩
theorem psf_try {X : Cx} {pn : Nat → Bool} {W : WX} {ns : List Str} {body : List Stmt} {h₀ : ExceptHandler} {hds : List ExceptHandler} {hs : List HdF} {fb : FS} {pos : Pos} (h1 : X.stack = X.env :: X.outer) (h2 : X.env.frame = some X.env.locals) (hN : X.N.Nodup) (tk : Takes X W)
    (hb : ∀ (W : WX) (pn' : List (Addr × Obj)) (xe : Value → Shared → Prop), Takes (X.tr pn' xe) W → PassesOwn (model X.prog X.w) X.A X.env xe → PSsf (X.tr pn' xe) pn W body fb)
    (hh : HdP X pn ns (h₀ :: hds) hs) : PSf X pn W (.Try body (h₀ :: hds) [] [] pos) (tryF ns fb hs) := by
  obtain ⟨l, a, b⟩ := hh.go
  exact PSf.mk (te := tryT (fun W => tsOf X.K pn W fb) X.K W l) (ps_try (tb := fun W => tsOf X.K pn W fb) h1 h2 hN tk hb a) (try_sim b)
end VS
set_option Elab.async false
set_option linter.all false
set_option maxRecDepth 100000
namespace VS
open PySem PySem.Spec PyProof.Rows L2
section
variable {X : Cx} {pn : Nat → Bool} {W : WX} {e a b : Expr} {es : List Expr} {pos : Pos} {g h : RX}
theorem psf_neverB {st : List Stmt} : PSsf X pn W st neverF := ⟨fun pins s σ H D I ⟨ρ, o, G, F, e, _⟩ => nomatch e⟩
theorem rx_seq {tg : Expr} (h : PEx X W e g) : PIx X W tg e g := ⟨fun pins s σ H R I r => (pi_seq h).run pins s σ H R I r⟩
theorem rxs_for {tg iter : Expr} {body : List Stmt} {fg : D → Env → Option Env} {f : FS} (hp : PassesOwn (model X.prog X.w) X.A X.env X.xe) (hc : X.calm = true) (hi : PIx X W tg iter g) (hg : PGf X pn tg fg) (hb : PSsf X pn W body f)
    (hs : ∀ x, foldedSetIterable iter X.env x = pure x := by intro _; rfl) : PSx X W (.For tg iter body [] pos) g := ⟨fun pins s σ H D I r => (ps_for hp hc hi hg hb hs).run pins s σ H D I r⟩
end
/-! ### isinstance of what was caught, by a tuple of classes -/
def tCs : List V → TA
  | [] => tNil
  | v :: r => tCons (tC v) (tCs r)
theorem pacs_nil {X : Cx} : PA X [] (tCs []) := pa_nil
theorem pacs_cons {X : Cx} {e : Expr} {es : List Expr} {v : V} {vs : List V} (h : PE X e (tC v)) (t : PA X es (tCs vs)) (hs : starEach (e :: es) X.env = (false, eval e X.env) :: starEach es X.env := by rfl) : PA X (e :: es) (tCs (v :: vs)) := pa_cons h t hs
theorem tCs_run : ∀ (vs : List V) (σ : L2.St) (H : Hp) (Q : List V → Hp → Prop), Q vs H → tCs vs σ H Q
  | [], σ, H, Q, q => q
  | v :: vs, σ, H, Q, q => tCs_run vs σ H _ q
theorem allC_any {K : PySem.W.Frag} {ns : List Str} : AllC K ns fun n C => PySem.W.kitAny K (.ref C) [] = some (([] : List Str).any (subB n)) := fun _ _ _ _ => kitAny_nil
theorem allC_anyC {K : PySem.W.Frag} {ns : List Str} {c : Str} {cv : Value} {cs : List Str} {us : List Value} (h1 : AllC K ns fun n C => PySem.W.kitOne K (.ref C) cv = some (subB n c)) (t : AllC K ns fun n C => PySem.W.kitAny K (.ref C) us = some (cs.any (subB n))) :
    AllC K ns fun n C => PySem.W.kitAny K (.ref C) (cv :: us) = some ((c :: cs).any (subB n)) := fun n hn C hC => by
  refine kitAny_cons (h1 n hn C hC) (fun hb => ?_) (fun hb => ?_)
  · rw [t n hn C hC, List.any_cons, hb, Bool.false_or]
  · rw [List.any_cons, hb, Bool.true_or]
theorem non_anyC {K : PySem.W.Frag} {cv : Value} {us : List Value} (h1 : PySem.W.kitOne K (.type "NoneType") cv = some false) (t : PySem.W.kitAny K (.type "NoneType") us = some false) : PySem.W.kitAny K (.type "NoneType") (cv :: us) = some false :=
  kitAny_cons h1 (fun _ => t) (fun z => nomatch z)
def isXTD (ns : List Str) (cs : List Str) : List D → Option D
  | [.exc n _] => if ns.contains n = true then some (.bl (cs.any (subB n))) else none
  | [.non] => some (.bl false)
  | _ => none
def rIsXT (K : PySem.W.Frag) : List V → Hp → VK → Prop := fun xs H Q => ∃ (x : V) (tp : Addr) (cs : List V) (us : List Value), xs = [x, .ref tp] ∧ H tp = some (.tup cs) ∧ Paired ClsV cs us ∧ ((x = .non ∧ PySem.W.kitAny K (.type "NoneType") us = some false ∧ Q (.bl false) H) ∨
  ∃ (a C dd : Addr) (mg : Str → Option Value) (n : Str) (fs : List (Str × V)) (b : Bool), x = .ref a ∧ H a = some (ExV a C dd) ∧ H dd = some (.xd fs) ∧ ExT K mg n C ∧ PySem.W.kitAny K (.ref C) us = some b ∧ Q (.bl b) H)
theorem vok_isXT {K : PySem.W.Frag} {mg : Str → Option Value} {ns : List Str} {cs : List Str} {cVs : List V} {us : List Value} (T : ExN K mg ns) (hz : cVs.length ≤ sizeLine) (hc : Paired ClsV cVs us) (h0 : PySem.W.kitAny K (.type "NoneType") us = some false) (h1 : AllC K ns fun n C => PySem.W.kitAny K (.ref C) us = some (cs.any (subB n))) :
    VOk K (fun vs H Q => match vs with | [x] => cVs.length ≤ sizeLine ∧ ∀ p, H p = none → rIsXT K [x, .ref p] (upd H p (.tup cVs)) Q | _ => False) (isXTD ns cs) := by
  intro G H vs ds d s rl e Q q
  unfold isXTD at e
  split at e
  · rename_i n d0
    obtain ⟨v, L, rfl, r1⟩ := rl.one
    by_cases hn : ns.contains n = true
    · rw [if_pos hn] at e
      cases e
      cases r1 with
      | exc e1 e2 e3 r =>
        refine ⟨hz, fun p hp => ?_⟩
        have t1 := Tr.newG (A := fun _ => False) (o := .tup cVs) s hp
        exact ⟨_, p, _, _, rfl, upd_same, hc, .inr ⟨_, _, _, mg, n, _, _, rfl, by rw [upd_ne (ne_of_none (s _ _ e1) hp)]; exact s _ _ e1, by rw [upd_ne (ne_of_none (s _ _ e2) hp)]; exact s _ _ e2, T.get hn e3, h1 n (by simpa using hn) _ e3, q _ _ _ [] (t1.post fun a z => (by cases z)) (.bl _)⟩⟩
    · rw [if_neg hn] at e; cases e
  · obtain ⟨v, L, rfl, r1⟩ := rl.one
    cases e
    cases r1
    refine ⟨hz, fun p hp => ?_⟩
    have t1 := Tr.newG (A := fun _ => False) (o := .tup cVs) s hp
    exact ⟨_, p, _, _, rfl, upd_same, hc, .inl ⟨rfl, h0, q _ _ _ [] (t1.post fun a z => (by cases z)) (.bl _)⟩⟩
  · cases e
theorem call_isXT {X : Cx} : CallR X (.builtin "isinstance") (rIsXT X.K) := by
  intro pins s σ H xs us Q I r h
  obtain ⟨x, tp, cs, ws, rfl, hT, k, h⟩ := h
  obtain ⟨u1, u2, rfl, r1, r2⟩ := vals2 r
  cases (show u2 = Value.ref tp from r2)
  obtain ⟨_, its, rv, o, o1, o2, n, o3⟩ := (show ObjOk X.prog X.w H s.heap tp (.tup cs) from I.hok tp _ hT)
  have e3 := ClsV.all k rv
  subst e3
  obtain ⟨oc, od, dt, sl⟩ := o
  simp only at o2 o3
  subst o2 o3
  rcases h with ⟨rfl, e, q⟩ | ⟨a, C, dd, mg, n, fs, b, rfl, h1, h2, T, e, q⟩
  · obtain ⟨P, Z, p, hx⟩ := kit_of I r1 (.base .non)
    exact PySem.W.kia_tup Z I.kIn p o1 e hx fun tk => ⟨.bl false, H, I.tok tk, rfl, q⟩
  · cases (show u1 = Value.ref a from r1)
    obtain ⟨oe, od, mA, J, _⟩ := exV_at I h1 h2
    exact PySem.W.kia_tup (PySem.W.kitx_exc T.cl T.ga T.gg T.oex.exC T.ha T.hn T.ht T.hm) I.kIn J o1 e (fun z => nomatch z) fun tk => ⟨.bl b, H, I.tok tk, rfl, q⟩
theorem pf_isXT {X : Cx} {e : Expr} {o : Op} {ns cs : List Str} {cVs : List V} {us : List Value} {es : List Expr} {k : Nat} {p p4 pos : Pos} (T : ExN X.K X.mg ns) (hgi : Gl X "isinstance") (hmi : X.mg "isinstance" = none) (h : POf X e o) (hC : PA X es (tCs cVs)) (hz : cVs.length ≤ sizeLine) (hc : Paired ClsV cVs us) (h0 : PySem.W.kitAny X.K (.type "NoneType") us = some false) (h1 : AllC X.K ns fun n C => PySem.W.kitAny X.K (.ref C) us = some (cs.any (subB n)))
    (hs : starEach [e, Expr.Tuple es k p4] X.env = (false, eval e X.env) :: starEach [Expr.Tuple es k p4] X.env := by rfl) (hs2 : starEach [Expr.Tuple es k p4] X.env = (false, eval (Expr.Tuple es k p4) X.env) :: starEach [] X.env := by rfl) (hpl : (backTo pos (starEach [Expr.Tuple es k p4] X.env)).any (·.1) = false := by rfl) :
    PEf X (.Call (.Name "isinstance" p) [e, .Tuple es k p4] [] pos) (opF (isXTD ns cs) [o]) := by
  obtain ⟨te, p1, s1⟩ := h.ex
  refine PEf.mk (pe_callB call_isXT hgi hmi boot_isinstance (pa_cons p1 (pa_cons (pe_tup hC) pa_nil hs2) hs) (by decide) (by decide) hs hpl) ?_
  have hh := simE_op (ta := tCons te tNil) (r := fun vs H Q => match vs with | [x] => cVs.length ≤ sizeLine ∧ ∀ p, H p = none → rIsXT X.K [x, .ref p] (upd H p (.tup cVs)) Q | _ => False) (simA_cons s1 simA_nil) (vok_isXT T hz hc h0 h1)
  intro ρ d ρ' ee σ G H F r Q q
  have h2 := s1
  have hr := hh ρ d ρ' ee σ G H F r Q q
  have mono : ∀ {te : TE} {o : Op}, SimO X.K te o → True := fun _ => trivial
  show tCons te (tCons (tTup (tCs cVs)) tNil) σ H fun vs H1 => rIsXT X.K vs H1 Q
  have e2 : (tCons te (tCons (tTup (tCs cVs)) tNil) σ H fun vs H1 => rIsXT X.K vs H1 Q) = te σ H fun x H1 => tCs cVs σ H1 fun xs H2 => xs.length ≤ sizeLine ∧ ∀ p, H2 p = none → rIsXT X.K [x, .ref p] (upd H2 p (.tup xs)) Q := rfl
  have e3 : ∀ (vs : List V) (σ : L2.St) (H : Hp) (Q : List V → Hp → Prop), tCs vs σ H Q = Q vs H := by
    intro vs
    induction vs with
    | nil => intro σ H Q; rfl
    | cons v vs ih => intro σ H Q; exact ih σ H fun r H1 => Q (v :: r) H1
  rw [e2]
  have e4 : (fun (x : V) H1 => tCs cVs σ H1 fun xs H2 => xs.length ≤ sizeLine ∧ ∀ p, H2 p = none → rIsXT X.K [x, .ref p] (upd H2 p (.tup xs)) Q) = fun x H1 => cVs.length ≤ sizeLine ∧ ∀ p, H1 p = none → rIsXT X.K [x, .ref p] (upd H1 p (.tup cVs)) Q := by
    funext x H1; exact e3 _ _ _ _
  rw [e4]
  exact hr
end VS
set_option Elab.async false
set_option linter.all false
set_option maxRecDepth 100000
namespace VS
open PySem PySem.Spec PyProof.Rows L2
/-! ### e.index(x), e any list -/
def isLq : Option (D × Env) → Bool
  | some (.lst _ _, _) => true
  | _ => false
def methTF (f : FE) (g : List D → Option D) (ops : List Op) : FE := fun ρ => if isLq (f ρ) = true then opF g (.t f :: ops) ρ else none
theorem simE_methT {K : PySem.W.Frag} {to : TE} {f : FE} {ta : TA} {ops : List Op} {r : V → List V → Hp → VK → Prop} {g : List D → Option D} (ho : SimE K to f) (h : SimA K ta ops) (hv : VOk K (consV r) g) : SimE K (tBM K "list" r to ta) (methTF f g ops) := by
  intro ρ d ρ' e σ G H F rr Q q
  unfold methTF at e
  by_cases hl : isLq (f ρ) = true
  · rw [if_pos hl] at e
    have hs : SimE K (fun σ H Q => to σ H fun x H1 => tyV K "list" x H1 ∧ Q x H1) (fun ρ => if isLq (f ρ) = true then f ρ else none) := by
      intro ρ d ρ' e σ G H F r Q q
      have e' : (if isLq (f ρ) = true then f ρ else none) = some (d, ρ') := e
      by_cases hl : isLq (f ρ) = true
      · rw [if_pos hl] at e'
        refine ho ρ d ρ' e' σ G H F r _ fun v G1 H1 F1 L t1 r1 rv n1 => ⟨?_, q v G1 H1 F1 L t1 r1 rv n1⟩
        rw [e'] at hl
        cases d with
        | lst o xs =>
          obtain ⟨a, vs, M, rfl, h5, _⟩ := rv.lstInv r1.sub
          exact .inl ⟨rfl, vs, SqL.of h5⟩
        | _ => cases hl
      · rw [if_neg hl] at e'; cases e'
    have e2 : opF g (.t (fun ρ => if isLq (f ρ) = true then f ρ else none) :: ops) ρ = some (d, ρ') := by
      rw [← e]
      unfold opF evOps
      show (((if isLq (f ρ) = true then f ρ else none).bind _).bind _) = _
      rw [if_pos hl]
      cases f ρ with
      | none => rfl
      | some q0 =>
        show ((evOps ops q0.2).bind _).bind _ = ((evOps ops q0.2).bind _).bind _
        cases evOps ops q0.2 <;> rfl
    exact simE_op (simA_cons (o := .t (fun ρ => if isLq (f ρ) = true then f ρ else none)) hs h) hv ρ d ρ' e2 σ G H F rr Q q
  · rw [if_neg hl] at e; cases e
section
variable {X : Cx} {W : WX} {o e : Expr} {es : List Expr} {f : FE} {g : RX} {ops : List Op} {apos cpos : Pos}
theorem pf_indexT (hu : X.A.units + 65 < cLine) (ho : PEf X o f) (ha : PAf X (e :: es) ops) (hbase : attributeBase o "index" X.env (eval o X.env) = eval o X.env := by rfl)
    (hfew : ((backTo cpos (starEach (e :: es) X.env)).all (fun x => !x.1) && (backToKw cpos (keywordEach [] X.env)).all (fun x => x.1.isSome)
      && decide ((e :: es).length + ([] : List Keyword).length + (if ([] : List Keyword).isEmpty then 0 else 1) < 30)) = true := by rfl)
    (hline : (apos.endLine == cpos.line) = true := by rfl) (hs : starEach (e :: es) X.env = (false, eval e X.env) :: starEach es X.env := by rfl) (hplain : (backTo cpos (starEach es X.env)).any (·.1) = false := by rfl) :
    PEf X (.Call (.Attribute o "index" apos) (e :: es) [] cpos) (methTF f indexD ops) :=
  .mk (pe_bm PySem.F.plainAttrs_list PySem.F.slot_list_index PySem.F.type_list_index (mt_indexD hu) ho ha hbase hfew hline hs hplain) (simE_methT (simE_of f) (simA_of ops) vok_index)
/-- what the list's making raises -/
theorem rx_indexT (hu : X.A.units + 65 < cLine) (ho : PEx X W o g) (ha : PAf X (e :: es) ops) (hbase : attributeBase o "index" X.env (eval o X.env) = eval o X.env := by rfl)
    (hfew : ((backTo cpos (starEach (e :: es) X.env)).all (fun x => !x.1) && (backToKw cpos (keywordEach [] X.env)).all (fun x => x.1.isSome)
      && decide ((e :: es).length + ([] : List Keyword).length + (if ([] : List Keyword).isEmpty then 0 else 1) < 30)) = true := by rfl)
    (hline : (apos.endLine == cpos.line) = true := by rfl) (hs : starEach (e :: es) X.env = (false, eval e X.env) :: starEach es X.env := by rfl) (hplain : (backTo cpos (starEach es X.env)).any (·.1) = false := by rfl) :
    PEx X W (.Call (.Attribute o "index" apos) (e :: es) [] cpos) g :=
  ⟨fun pins s σ H Q I r => (pe_bm PySem.F.plainAttrs_list PySem.F.slot_list_index PySem.F.type_list_index (mt_indexD hu) ho ha hbase hfew hline hs hplain).run pins s σ H Q I r⟩
end
end VS
set_option Elab.async false
set_option linter.all false
namespace VS
open PySem PySem.Spec PyProof.Rows L2
/-! ### sorted(xs), also of one thing or none -/
def rSortedN (K : PySem.W.Frag) : List V → Hp → VK → Prop := fun vs H Q => rSortedM K vs H Q ∨ ∃ (a : Addr) (ys : List V), vs = [V.ref a] ∧ SqL K H a ys ∧ ys.length ≤ 1 ∧ ∀ p, H p = none → Q (.ref p) (upd H p (.lst ys))
theorem vals_len : ∀ {ys : List V} {its : List Value}, Vals ys its → ys.length = its.length
  | _, _, .nil => rfl
  | _, _, .cons _ t => by simp [vals_len t]
theorem perm_short {α : Type} {out its : List α} (h : out.Perm its) (hl : its.length ≤ 1) : out = its := by
  match its, hl with
  | [], _ => exact List.perm_nil.mp h
  | [x], _ => exact List.perm_singleton.mp h
theorem cr_sortedN {X : Cx} (hu : X.A.units + 65 < cLine) : CallR X (.builtin "sorted") (rSortedN X.K) := by
  intro pins s σ H vs us Q I r h
  rcases h with h | ⟨a, ys, rfl, hs, hl1, q⟩
  · exact cr_sortedM hu _ _ _ _ _ _ _ I r h
  · obtain ⟨its, rv, hl, hz⟩ := I.list hs
    have hle := vals_len rv
    rw [Vals.ref1 r]
    refine _root_.Srt.sorted_any hl.isList (by omega) (fun h2 => absurd h2 (by omega)) fun out hp => ?_
    obtain rfl := perm_short hp (by omega)
    obtain ⟨ep, he'⟩ := PyProof.Rows.sortedAll_at s.heap out out.toArray
    exact ⟨.ref _, upd H (s.heap.objs.size + 1) (.lst ys), I.laid (t' := s.toks) (fun _ _ => PyProof.Rows.sortedAll_old) (Nat.le_succ _) ⟨hz, out, ep, rv, he'⟩, rfl, q _ (I.hok.fresh (Nat.le_succ _))⟩
def sortedND : List D → Option D
  | [.lst o xs] => if xs.length ≤ 1 then (if noOwns xs = true then some (.lst true xs) else none) else sortedMD [.lst o xs]
  | _ => none
theorem vok_sortedN {K : PySem.W.Frag} : VOk K (rSortedN K) sortedND := by
  intro G H vs ds d s rl e Q q
  unfold sortedND at e
  split at e
  · rename_i o xs
    split at e
    · rename_i hz
      split at e
      · rename_i hn
        cases e
        obtain ⟨v, L, rfl, r1⟩ := rl.one
        obtain ⟨a, us, L1, rfl, h1, h2, _⟩ := r1.lstInv s
        have h0 := h2.to0 hn
        obtain ⟨M, m1, m2, m3⟩ := reps_zip h0
        have hlen : us.length ≤ 1 := by
          rw [← m1, List.length_map]
          rw [← m2, List.length_map] at hz
          exact hz
        refine .inr ⟨a, us, rfl, SqL.of h1, hlen, fun p hp => ?_⟩
        obtain ⟨t, rr⟩ := new_lst s hp h0
        exact q _ _ _ _ t rr
      · cases e
    · exact .inl (vok_sortedM _ _ _ _ _ s rl e Q q)
  · cases e
theorem sortedND_m {o : Bool} {xs : List D} {d : D} (h : 1 < xs.length) (e : sortedMD [.lst o xs] = some d) : sortedND [.lst o xs] = some d := by
  show (if xs.length ≤ 1 then (if noOwns xs = true then some (D.lst true xs) else none) else sortedMD [.lst o xs]) = _
  rw [if_neg (by omega)]
  exact e
theorem sortedND_s {o : Bool} {xs : List D} (h : xs.length ≤ 1) (e : noOwns xs = true) : sortedND [.lst o xs] = some (.lst true xs) := by
  show (if xs.length ≤ 1 then (if noOwns xs = true then some (D.lst true xs) else none) else sortedMD [.lst o xs]) = _
  rw [if_pos h, if_pos e]
end VS
set_option Elab.async false
set_option linter.all false
set_option maxRecDepth 100000
namespace VS
open PySem PySem.Spec PyProof.Rows L2
/-! ### a dict of whole numbers, in a slot -/
def valI (kvs : List (Int × Int)) (k : Int) : Option Int := (kvs.find? fun p => decide (p.1 = k)).map (·.2)
def putI (kvs : List (Int × Int)) (k v : Int) : List (Int × Int) := if (kvs.any fun p => decide (p.1 = k)) = true then kvs.map (fun p => if p.1 = k then (p.1, v) else p) else kvs ++ [(k, v)]
def dropI (kvs : List (Int × Int)) (k : Int) : List (Int × Int) := kvs.filter fun p => decide (p.1 ≠ k)
theorem valK (k : Int) : ∀ kvs, valV (kvK kvs) (.inl k : Key) = (valI kvs k).map V.int
  | [] => rfl
  | p :: r => by
    have ih := valK k r
    unfold valI kvK at *
    rw [List.map_cons]
    by_cases h : p.1 = k
    · rw [valV_pos (by simp [h]), List.find?_cons_of_pos (by simp [h])]; rfl
    · rw [valV_neg (by simpa using h), List.find?_cons_of_neg (by simp [h]), ih]
theorem anyK (k : Int) : ∀ kvs, ((kvK kvs).any fun kv => decide (kv.1 = (.inl k : Key))) = (kvs.any fun p => decide (p.1 = k))
  | [] => rfl
  | p :: r => by
    have ih := anyK k r
    unfold kvK at *
    rw [List.map_cons, List.any_cons, List.any_cons, ih]
    congr 1
    simp
theorem putKK (k v : Int) (kvs : List (Int × Int)) : putK (kvK kvs) (.inl k : Key) (.int v) = kvK (putI kvs k v) := by
  unfold putK putI
  rw [anyK]
  by_cases h : (kvs.any fun p => decide (p.1 = k)) = true
  · rw [if_pos h, if_pos h]
    unfold kvK
    rw [List.map_map, List.map_map]
    refine List.map_congr_left fun p _ => ?_
    by_cases hp : p.1 = k
    · simp [hp]
    · simp [hp]
  · rw [if_neg h, if_neg h]
    unfold kvK
    rw [List.map_append]; rfl
theorem dropKK (k : Int) (kvs : List (Int × Int)) : dropK (kvK kvs) (.inl k : Key) = kvK (dropI kvs k) := by
  unfold dropK dropI kvK
  rw [List.filter_map]
  congr 1
  refine List.filter_congr fun p _ => ?_
  simp
theorem kvK_len (kvs : List (Int × Int)) : (kvK kvs).length = kvs.length := List.length_map ..
section
variable {K : PySem.W.Frag} {pn : Nat → Bool}
theorem Rep.dkAt {G H : Hp} {v : V} {o : Bool} {kvs : List (Int × Int)} {L : List Addr} (s : Same G H) (r : Rep K G H v (.dct o kvs) L) : ∃ a, v = .ref a ∧ H a = some (.dK (kvK kvs)) := by
  cases r with
  | dctS h => exact ⟨_, rfl, s _ _ h⟩
  | dctO _ h => exact ⟨_, rfl, h⟩
/-- {} -/
def dctF : FE := fun ρ => some (.dct true [], ρ)
theorem simE_dct : SimE K tDNewK dctF := by
  intro ρ d ρ' e σ G H F r Q q
  cases e
  intro p hp
  have t := Tr.newO (A := fun _ => False) (o := .dK []) r.sub hp
  have r2 := r.tr t (fun a _ z => z)
  refine q (.ref p) G _ F [p] (t.wk (fun a z => z.elim) fun a z => ?_) r2 (.dctO (r.sub.free hp) upd_same) fun a ha ⟨j, hj⟩ => ?_
  · rcases z with z | z
    · exact .inr (.inl z)
    · exact .inl (.inr (List.mem_singleton.mp z))
  · obtain rfl := List.mem_singleton.mp ha
    obtain ⟨_, o, e, _⟩ := r.owned j a hj
    rw [hp] at e; cases e
/-- d[k] -/
def dgetD : List D → Option D
  | [.dct _ kvs, .int k] => (valI kvs k).map D.int
  | _ => none
theorem vok_dget : VOk K (r2L fun x y H Q => ∃ a v, x = .ref a ∧ DGet H a y (some v) ∧ Q v H) dgetD := by
  intro G H vs ds d s rl e Q q
  unfold dgetD at e
  split at e
  · rename_i o kvs k
    cases hv : valI kvs k with
    | none => rw [hv] at e; cases e
    | some v =>
      rw [hv] at e; cases e
      obtain ⟨x, y, L, M, rfl, h1, h2⟩ := rl.two
      cases h2
      obtain ⟨a, rfl, ha⟩ := h1.dkAt s
      refine ⟨a, .int v, rfl, ?_, q _ G H [] ((Tr.refl s).post fun _ z => nomatch z) (.int v)⟩
      have g := DGet.k (k := (.inl k : Key)) ha
      rw [valK, hv] at g
      exact g
  · cases e
/-- d[k] = v -/
def rSetDK : V → V → V → Hp → (Hp → Prop) → Prop := fun o i v H Q => ∃ p kvs k, o = .ref p ∧ i = kV k ∧ H p = some (.dK kvs) ∧ kvs.length < sizeLine ∧ Q (upd H p (.dK (putK kvs k v)))
def dputAt (ρ : Env) (k : Nat) (d : D) (ds : List D) : Option Env := match d, ds, getS ρ k with
  | .int v, [.int i], some (.dct true kvs) => if kvs.length < smallL then some (ρ.set k (some (.dct true (putI kvs i v)))) else none
  | _, _, _ => none
def tgPut (k : Nat) (oi : Op) : D → Env → Option Env := fun d ρ => (getS ρ k).bind fun _ => (evOps [oi] ρ).bind fun p => (fetch [oi] p.1 p.2).bind fun ds => dputAt p.2 k d ds
theorem dputAt_inv {ρ ρ' : Env} {k : Nat} {d : D} {ds : List D} (e : dputAt ρ k d ds = some ρ') : ∃ v i kvs, d = .int v ∧ ds = [.int i] ∧ getS ρ k = some (.dct true kvs) ∧ kvs.length < smallL ∧ ρ' = ρ.set k (some (.dct true (putI kvs i v))) := by
  unfold dputAt at e
  split at e
  · rename_i v i kvs h
    split at e
    · rename_i hl
      cases e
      exact ⟨v, i, kvs, rfl, rfl, h, hl, rfl⟩
    · cases e
  · cases e
theorem own_put {G H : Hp} {σ : L2.St} {ρ : Env} {F : Nat → List Addr} {k : Nat} {w : V} {kvs kvs' : List (Int × Int)} (r1 : REnv K G H σ ρ F) (h1 : getS ρ k = some (.dct true kvs)) (hw : σ[k]? = some (some w)) :
    ∃ a, w = .ref a ∧ H a = some (.dK (kvK kvs)) ∧ ∃ F2, Tr G H (own F) G (upd H a (.dK (kvK kvs'))) (own F2) ∧ REnv K G (upd H a (.dK (kvK kvs'))) σ (ρ.set k (some (.dct true kvs'))) F2 ∧ ∀ b, own F2 b → own F b := by
  obtain ⟨w', hw', hrep⟩ := r1.at_ k _ h1
  rw [hw] at hw'; cases hw'
  generalize hFk : F k = Fk at hrep
  cases hrep with
  | dctO hG hH =>
    rename_i a
    refine ⟨a, rfl, hH, ?_⟩
    have hka : a ∈ F k := by rw [hFk]; exact List.mem_cons_self
    have tw : Tr G H (fun b => b = a) G (upd H a (.dK (kvK kvs'))) (fun b => b = a) := Tr.write r1.sub hG rfl ⟨_, hH⟩
    have rd := (r1.drop k).tr tw fun b ⟨jj, hjj⟩ z => by
      subst z
      by_cases hji : jj = k
      · subst hji; rw [fset_same] at hjj; cases hjj
      · rw [fset_ne hji] at hjj; exact r1.dis jj k hji _ hjj hka
    have hnew : Rep K G (upd H a (.dK (kvK kvs'))) (.ref a) (.dct true kvs') [a] := .dctO hG upd_same
    have rp := rd.re (i := k) (by rw [List.length_set]; exact r1.lt h1) hw hnew (fun b hb jj hjk hbj => by
      rw [fset_ne hjk] at hbj
      obtain rfl := List.mem_singleton.mp hb
      exact r1.dis jj k hjk _ hbj hka)
    rw [List.set_set] at rp
    have sub2 : ∀ b, own (fset (fset F k []) k [a]) b → own F b := fun b ⟨jj, hjj⟩ => by
      by_cases hji : jj = k
      · subst hji
        rw [fset_same] at hjj
        obtain rfl := List.mem_singleton.mp hjj
        exact ⟨jj, hka⟩
      · rw [fset_ne hji, fset_ne hji] at hjj; exact ⟨jj, hjj⟩
    exact ⟨_, tw.wk (fun b z => ⟨k, z ▸ hka⟩) (fun b hb => .inr (.inl (sub2 b hb))), rp, sub2⟩
theorem one_arg {ti : TE} {oi : Op} (hi : SimO K ti oi) {ρ ρ1 : Env} {ts : List (Option D)} (he : evOps [oi] ρ = some (ts, ρ1)) {σ : L2.St} {G H : Hp} {F : Nat → List Addr} (r : REnv K G H σ ρ F) {R : V → Hp → Prop}
    (h : ∀ x G1 H1 F1 M, Tr G H (own F) G1 H1 (fun a => own F1 a ∨ a ∈ M) → REnv K G1 H1 σ ρ1 F1 → OpsOk K G1 H1 σ [oi] ts [x] M → (∀ a ∈ M, ¬ own F1 a) → R x H1) : ti σ H R := by
  have key := simA_cons (ta := tNil) (ops := []) hi simA_nil ρ ts ρ1 he σ G H F r (fun vs H1 => ∀ x, vs = [x] → R x H1) fun vs G1 H1 F1 M t1 r1 ok n1 x ev => by
    subst ev
    exact h x G1 H1 F1 M t1 r1 ok n1
  have k2 : ti σ H fun x H1 => ∀ y, [x] = [y] → R y H1 := key
  have m : (fun (x : V) H1 => ∀ y, [x] = [y] → R y H1) = R := by
    funext x H1
    exact propext ⟨fun h => h x rfl, fun h y e => by cases e; exact h⟩
  rw [m] at k2
  exact k2
theorem simG_put {k : Nat} {ti : TE} {oi : Op} (hi : SimO K ti oi) : SimG K pn (gSub (tVar k) ti rSetDK) (tgPut k oi) := by
  intro d ρ ρ' e v σ G H F L r hv nn Q q
  unfold tgPut at e
  cases h0 : getS ρ k with
  | none => rw [h0] at e; cases e
  | some d0 =>
    rw [h0] at e
    obtain ⟨w, hw, hr0⟩ := r.at_ k d0 h0
    have e0 : (evOps [oi] ρ).bind (fun p => (fetch [oi] p.1 p.2).bind fun ds => dputAt p.2 k d ds) = some ρ' := e
    cases he : evOps [oi] ρ with
    | none => rw [he] at e0; cases e0
    | some p =>
      obtain ⟨ts, ρ1⟩ := p
      rw [he] at e0
      have e1 : (fetch [oi] ts ρ1).bind (fun ds => dputAt ρ1 k d ds) = some ρ' := e0
      cases hf : fetch [oi] ts ρ1 with
      | none => rw [hf] at e1; cases e1
      | some ds =>
        rw [hf] at e1
        obtain ⟨vi, ix, kvs, rfl, rfl, h1, hl, rfl⟩ := dputAt_inv (show dputAt ρ1 k d ds = some ρ' from e1)
        refine ⟨w, hw, one_arg hi he r fun x G1 H1 F1 M t1 r1 ok n1 => ?_⟩
        have rl := ok.get r1 hf
        obtain ⟨x', L', ev, rx⟩ := rl.one
        cases ev
        cases rx
        cases hv
        obtain ⟨a, rfl, hH, F2, t2, r2, s2⟩ := own_put (kvs' := putI kvs ix vi) r1 h1 hw
        refine ⟨a, kvK kvs, .inl ix, rfl, rfl, hH, by rw [kvK_len]; exact Nat.lt_of_lt_of_le hl (by decide), ?_⟩
        rw [putKK]
        have t1' : Tr G H (fun a => own F a ∨ a ∈ ([] : List Addr)) G1 H1 (own F1) := t1.wk (fun a h => .inl h) fun a h => .inl (.inl h)
        exact q σ G1 _ F2 (t1'.trans t2) r2 Pin.refl
/-- d.pop(k) -/
def dpopAt (ρ : Env) (k : Nat) (ds : List D) : Option (D × Env) := match ds, getS ρ k with
  | [.int i], some (.dct true kvs) => (valI kvs i).bind fun v => some (.int v, ρ.set k (some (.dct true (dropI kvs i))))
  | _, _ => none
def dpopF (k : Nat) (oi : Op) : FE := fun ρ => match getS ρ k with
  | some (.dct true _) => (evOps [oi] ρ).bind fun p => (fetch [oi] p.1 p.2).bind fun ds => dpopAt p.2 k ds
  | _ => none
theorem dpopAt_inv {ρ ρ' : Env} {k : Nat} {d : D} {ds : List D} (e : dpopAt ρ k ds = some (d, ρ')) : ∃ v i kvs, d = .int v ∧ ds = [.int i] ∧ getS ρ k = some (.dct true kvs) ∧ valI kvs i = some v ∧ ρ' = ρ.set k (some (.dct true (dropI kvs i))) := by
  unfold dpopAt at e
  split at e
  · rename_i i kvs h
    cases hv : valI kvs i with
    | none => rw [hv] at e; cases e
    | some v => rw [hv] at e; cases e; exact ⟨v, i, kvs, rfl, rfl, h, hv, rfl⟩
  · cases e
theorem simE_dpop {k : Nat} {ti : TE} {oi : Op} (hi : SimO K ti oi) : SimE K (tDPop1 (tVar k) ti) (dpopF k oi) := by
  intro ρ d ρ' e σ G H F r Q q
  unfold dpopF at e
  split at e
  · rename_i kv0 h0
    obtain ⟨w, hw, hr0⟩ := r.at_ k _ h0
    obtain ⟨a0, rfl, ha0⟩ := hr0.dkAt r.sub
    cases he : evOps [oi] ρ with
    | none => rw [he] at e; cases e
    | some p =>
      obtain ⟨ts, ρ1⟩ := p
      rw [he] at e
      have e1 : (fetch [oi] ts ρ1).bind (fun ds => dpopAt ρ1 k ds) = some (d, ρ') := e
      cases hf : fetch [oi] ts ρ1 with
      | none => rw [hf] at e1; cases e1
      | some ds =>
        rw [hf] at e1
        obtain ⟨vi, ix, kvs, rfl, rfl, h1, hl, rfl⟩ := dpopAt_inv (show dpopAt ρ1 k ds = some (d, ρ') from e1)
        refine ⟨_, hw, a0, rfl, .inl ⟨_, .inl ha0⟩, one_arg hi he r fun x G1 H1 F1 M t1 r1 ok n1 => ?_⟩
        have rl := ok.get r1 hf
        obtain ⟨x', L', ev, rx⟩ := rl.one
        cases ev
        cases rx
        obtain ⟨a, ea, hH, F2, t2, r2, s2⟩ := own_put (kvs' := dropI kvs ix) r1 h1 hw
        cases ea
        refine ⟨kvK kvs, .inl ix, .int vi, hH, rfl, by rw [valK, hl]; rfl, ?_⟩
        rw [dropKK]
        exact q (.int vi) G1 _ F2 [] ((t1.post fun a h => .inl h).trans (t2.wk (fun b z => z) fun b z => .inl (z.elim id fun y => nomatch y))) r2 (.int vi) fun b z => nomatch z
  · cases e
/-- d.get(k, x) -/
def dget2At (ρ : Env) (k : Nat) (ds : List D) : Option (D × Env) := match ds, getS ρ k with
  | [.int i, .int z], some (.dct _ kvs) => some (.int ((valI kvs i).getD z), ρ)
  | _, _ => none
def dget2F (k : Nat) (o1 o2 : Op) : FE := fun ρ => match getS ρ k with
  | some (.dct _ _) => (evOps [o1, o2] ρ).bind fun p => (fetch [o1, o2] p.1 p.2).bind fun ds => dget2At p.2 k ds
  | _ => none
theorem dget2At_inv {ρ ρ' : Env} {k : Nat} {d : D} {ds : List D} (e : dget2At ρ k ds = some (d, ρ')) : ∃ z i o kvs, ds = [.int i, .int z] ∧ getS ρ k = some (.dct o kvs) ∧ d = .int ((valI kvs i).getD z) ∧ ρ' = ρ := by
  unfold dget2At at e
  split at e
  · rename_i i z o kvs h
    cases e; exact ⟨z, i, o, kvs, rfl, h, rfl, rfl⟩
  · cases e
theorem two_args {t1 t2 : TE} {o1 o2 : Op} (h1 : SimO K t1 o1) (h2 : SimO K t2 o2) {ρ ρ1 : Env} {ts : List (Option D)} (he : evOps [o1, o2] ρ = some (ts, ρ1)) {σ : L2.St} {G H : Hp} {F : Nat → List Addr} (r : REnv K G H σ ρ F) {R : V → V → Hp → Prop}
    (h : ∀ x y G1 H1 F1 M, Tr G H (own F) G1 H1 (fun a => own F1 a ∨ a ∈ M) → REnv K G1 H1 σ ρ1 F1 → OpsOk K G1 H1 σ [o1, o2] ts [x, y] M → (∀ a ∈ M, ¬ own F1 a) → R x y H1) : t1 σ H fun x H1 => t2 σ H1 fun y H2 => R x y H2 := by
  have key := simA_cons h1 (simA_cons (ta := tNil) (ops := []) h2 simA_nil) ρ ts ρ1 he σ G H F r (fun vs H1 => ∀ x y, vs = [x, y] → R x y H1) fun vs G1 H1 F1 M t1 r1 ok n1 x y ev => by
    subst ev
    exact h x y G1 H1 F1 M t1 r1 ok n1
  have k2 : t1 σ H fun x H1 => t2 σ H1 fun y H2 => ∀ x' y', [x, y] = [x', y'] → R x' y' H2 := key
  have m : (fun (x : V) H1 => t2 σ H1 fun y H2 => ∀ x' y', [x, y] = [x', y'] → R x' y' H2) = fun x H1 => t2 σ H1 fun y H2 => R x y H2 := by
    funext x H1
    congr 1
    funext y H2
    exact propext ⟨fun h => h x y rfl, fun h x' y' e => by cases e; exact h⟩
  rw [m] at k2
  exact k2
theorem simE_dget2 {k : Nat} {t1 t2 : TE} {o1 o2 : Op} (h1 : SimO K t1 o1) (h2 : SimO K t2 o2) : SimE K (tDGet2 (tVar k) t1 t2) (dget2F k o1 o2) := by
  intro ρ d ρ' e σ G H F r Q q
  unfold dget2F at e
  split at e
  · rename_i o0 kv0 h0
    obtain ⟨w, hw, hr0⟩ := r.at_ k _ h0
    obtain ⟨a0, rfl, ha0⟩ := hr0.dkAt r.sub
    cases he : evOps [o1, o2] ρ with
    | none => rw [he] at e; cases e
    | some p =>
      obtain ⟨ts, ρ1⟩ := p
      rw [he] at e
      have e1 : (fetch [o1, o2] ts ρ1).bind (fun ds => dget2At ρ1 k ds) = some (d, ρ') := e
      cases hf : fetch [o1, o2] ts ρ1 with
      | none => rw [hf] at e1; cases e1
      | some ds =>
        rw [hf] at e1
        obtain ⟨z, ix, o, kvs, rfl, h3, rfl, rfl⟩ := dget2At_inv (show dget2At ρ1 k ds = some (d, ρ') from e1)
        refine ⟨_, hw, a0, rfl, .inl ⟨_, .inl ha0⟩, two_args h1 h2 he r fun x y G1 H1 F1 M t1 r1 ok n1 => ?_⟩
        have rl := ok.get r1 hf
        obtain ⟨x', y', L', M', ev, rx, ry⟩ := rl.two
        cases ev
        cases rx
        cases ry
        obtain ⟨w', hw', hr1⟩ := r1.at_ k _ h3
        rw [hw] at hw'; cases hw'
        obtain ⟨a, ea, ha⟩ := hr1.dkAt r1.sub
        cases ea
        have g := DGet.k (k := (.inl ix : Key)) ha
        rw [valK] at g
        refine ⟨_, g, ?_⟩
        have ev : ((valI kvs ix).map V.int).getD (.int z) = .int ((valI kvs ix).getD z) := by cases valI kvs ix <;> rfl
        rw [ev]
        exact q _ G1 H1 F1 [] (t1.post fun a h => h.elim .inl fun y => nomatch y) r1 (.int _) fun b z => nomatch z
  · cases e
end
section
variable {X : Cx} {pn : Nat → Bool} {a b e f : Expr} {apos cpos pos : Pos}
theorem set_dK (hu : X.A.units + 1 < cLine) : PSet X rSetDK := by
  intro pins s σ H o i v ov iv u Q I ro ri rv h
  obtain ⟨p, kvs, k, rfl, rfl, hp, hl, q⟩ := h
  obtain rfl : ov = Value.ref p := ro
  exact d_setItem hu I (DPut.k hp hl) ri rv fun s4 I4 => ⟨_, I4, q⟩
theorem pf_dct : PEf X (.Dict [] [] pos) dctF := .mk pe_dnewK simE_dct
theorem pf_dget {o1 o2 : Op} (hu : X.A.units + 65 < cLine) (h1 : POf X a o1) (h2 : POf X b o2) (hs : NoSl b) : PEf X (.Subscript a b pos) (opF dgetD [o1, o2]) := by
  obtain ⟨ta, p1, s1⟩ := h1.ex
  obtain ⟨tb, p2, s2⟩ := h2.ex
  exact .mk (pe_dget (by omega) p1 p2 hs) (simE_op (simA_cons s1 (simA_cons s2 simA_nil)) vok_dget)
theorem pgf_put {k : Nat} {o i : Expr} {oi : Op} (hu : X.A.units + 65 < cLine) (ho : PE X o (tVar k)) (hi : POf X i oi) (ha : ∀ v, assign (.Subscript o i pos) X.env v = (do
      let ov ← holding [v] (eval o X.env)
      let iv ← holding [v, ov] (eval i X.env)
      standAt pos
      holding [v, ov, iv] (setItem ov iv v)
      release [v, ov, iv] []) := by intro _; rfl) : PGf X pn (.Subscript o i pos) (tgPut k oi) := by
  obtain ⟨te, p1, s1⟩ := hi.ex
  exact .mk (pg_sub ho p1 (set_dK (by omega)) ha) (simG_put s1)
theorem pf_dpop {k : Nat} {o : Expr} {oi : Op} (ho : PE X o (tVar k)) (hi : POf X e oi) (m : M1 X o "pop" apos e cpos) : PEf X (.Call (.Attribute o "pop" apos) [e] [] cpos) (dpopF k oi) := by
  obtain ⟨te, p1, s1⟩ := hi.ex
  exact .mk (pe_dpop1 ho p1 m) (simE_dpop s1)
theorem pf_dget2 {k : Nat} {o : Expr} {o1 o2 : Op} (hu : X.A.units + 65 < cLine) (ho : PE X o (tVar k)) (h1 : POf X e o1) (h2 : POf X f o2) (m : M2 X o "get" apos e f cpos) : PEf X (.Call (.Attribute o "get" apos) [e, f] [] cpos) (dget2F k o1 o2) := by
  obtain ⟨ta, p1, s1⟩ := h1.ex
  obtain ⟨tb, p2, s2⟩ := h2.ex
  exact .mk (pe_dget2 (by omega) ho p1 p2 m) (simE_dget2 s1 s2)
end
end VS
set_option Elab.async false
set_option linter.all false
set_option maxRecDepth 100000
namespace VS
open PySem PySem.Spec PyProof.Rows L2
/-! ### (a, b, ..) = a tuple, or a list that is read -/
def tgU (n : Nat) (gs : List D → Env → Option Env) : D → Env → Option Env := fun d ρ => match d with
  | .tup xs => if xs.length = n then gs xs ρ else none
  | .lst false xs => if xs.length = n then gs xs ρ else none
  | _ => none
def gU (K : PySem.W.Frag) (n : Nat) (t : TGs) : TG := fun v σ H Q => gTup K n t v σ H Q ∨ gUnl K n t v σ H Q
section
variable {K : PySem.W.Frag} {pn : Nat → Bool}
theorem simG_U {n : Nat} {gs : TGs} {fs : List D → Env → Option Env} (h : SimGs K pn gs fs) : SimG K pn (gU K n gs) (tgU n fs) := by
  intro d ρ ρ' e v σ G H F L r hv nn Q q
  cases d with
  | tup xs =>
    cases hv with
    | tup hs hr =>
      rename_i a vs
      have e1 : (if xs.length = n then fs xs ρ else none) = some ρ' := e
      by_cases hn : xs.length = n
      · rw [if_pos hn] at e1
        exact .inl ⟨a, vs, rfl, Same.seqT r.sub hs, by rw [hr.length]; exact hn, h xs ρ ρ' e1 vs σ G H F L r hr nn Q q⟩
      · rw [if_neg hn] at e1; cases e1
  | lst o xs =>
    cases o with
    | true => cases e
    | false =>
      cases hv with
      | lstS hs hr eL =>
        rename_i a vs
        have e1 : (if xs.length = n then fs xs ρ else none) = some ρ' := e
        by_cases hn : xs.length = n
        · rw [if_pos hn] at e1
          exact .inr ⟨a, vs, rfl, SqL.of (r.sub _ _ hs), by rw [hr.length]; exact hn, h xs ρ ρ' e1 vs σ G H F L r hr nn Q q⟩
        · rw [if_neg hn] at e1; cases e1
  | _ => cases e
end
section
variable {X : Cx} {pn : Nat → Bool} {es : List Expr} {k n : Nat} {pos : Pos}
theorem pg_U {t : TGs} (hc : X.calm = true) (h : PGs X es t) (hn : (assignEach es X.env).length = n) (hst : (assignEach es X.env).findIdx? (·.1) = none) : PG X (.Tuple es k pos) (gU X.K n t) :=
  ⟨fun pins s σ H v u Q I r hw => hw.elim ((pg_tup (pos := pos) (k := k) hc h hn hst).run pins s σ H v u Q I r) ((pg_unl (pos := pos) (k := k) hc h hn hst).run pins s σ H v u Q I r)⟩
theorem pgf_U {gs : List D → Env → Option Env} (hc : X.calm = true) (h : PGsf X pn es gs) (hn : (assignEach es X.env).length = n := by rfl) (hst : (assignEach es X.env).findIdx? (·.1) = none := by rfl) : PGf X pn (.Tuple es k pos) (tgU n gs) := .mk (pg_U hc h hn hst) (simG_U (simGs_of gs))
end
end VS
set_option Elab.async false
set_option linter.all false
set_option maxRecDepth 100000
namespace VS
open PySem PySem.Spec PyProof.Rows L2 RZ
/-! ### gcd -/
def gcdD : List D → Option D
  | [.int a, .int b] => some (.int ((Nat.gcd a.natAbs b.natAbs : Nat) : Int))
  | _ => none
theorem vok_gcd {K : PySem.W.Frag} : VOk K rGcd gcdD := by
  intro G H vs ds d s rl e Q q
  unfold gcdD at e
  split at e
  · obtain ⟨v, u, L, M, rfl, r1, r2⟩ := rl.two
    cases e; cases r1; cases r2
    exact ⟨_, _, rfl, fin0 s (.int _) q⟩
  · cases e
section
variable {X : Cx} {p pos : Pos} {e : Expr} {es : List Expr} {o : Op} {ops : List Op} {x : Str}
theorem pf_gcd (hg : Gl X x) (hm : X.mg x = some (.builtin "math.gcd")) (ha : PAf X (e :: es) (o :: ops)) (hdb : (x == ("__debug__" : Str)) = false := by decide)
    (he : starEach (e :: es) X.env = (false, eval e X.env) :: starEach es X.env := by rfl) (hpl : (backTo pos (starEach es X.env)).any (·.1) = false := by rfl) : PEf X (.Call (.Name x p) (e :: es) [] pos) (opF gcdD (o :: ops)) :=
  .mk (pe_callBfun cr_gcd hg hm ha hdb he hpl) (simE_op (simA_of _) vok_gcd)
end
/-! ### e.count(x), whole numbers -/
def cntD : List D → Option D
  | [.lst _ xs, .int k] => (intsOf xs).bind fun ns => some (.int (ns.count k : Nat))
  | _ => none
theorem vok_cnt {K : PySem.W.Frag} : VOk K (consV (rCntI K)) cntD := by
  intro G H vs ds d s rl e Q q
  unfold cntD at e
  split at e
  · rename_i o xs k
    obtain ⟨v, u, L, M, rfl, r1, r2⟩ := rl.two
    obtain ⟨ns, e1, e2⟩ := Option.bind_eq_some_iff.mp e
    cases e2
    obtain ⟨a, ws, L1, rfl, h1, h2, _⟩ := r1.lstInv s
    obtain ⟨rfl, _⟩ := h2.ints e1
    cases r2
    exact ⟨a, ns, k, rfl, rfl, SqL.of h1, fin0 s (.int _) q⟩
  · cases e
section
variable {X : Cx} {W : WX} {o e : Expr} {es : List Expr} {f : FE} {g : RX} {ops : List Op} {apos cpos : Pos}
theorem pf_countT (ho : PEf X o f) (ha : PAf X (e :: es) ops) (hbase : attributeBase o "count" X.env (eval o X.env) = eval o X.env := by rfl)
    (hfew : ((backTo cpos (starEach (e :: es) X.env)).all (fun x => !x.1) && (backToKw cpos (keywordEach [] X.env)).all (fun x => x.1.isSome)
      && decide ((e :: es).length + ([] : List Keyword).length + (if ([] : List Keyword).isEmpty then 0 else 1) < 30)) = true := by rfl)
    (hline : (apos.endLine == cpos.line) = true := by rfl) (hs : starEach (e :: es) X.env = (false, eval e X.env) :: starEach es X.env := by rfl) (hplain : (backTo cpos (starEach es X.env)).any (·.1) = false := by rfl) :
    PEf X (.Call (.Attribute o "count" apos) (e :: es) [] cpos) (methTF f cntD ops) :=
  .mk (pe_bm PySem.F.plainAttrs_list PySem.F.slot_list_count PySem.F.type_list_count mt_lcount ho ha hbase hfew hline hs hplain) (simE_methT (simE_of f) (simA_of ops) vok_cnt)
/-- what the list's making raises -/
theorem rx_countT (ho : PEx X W o g) (ha : PAf X (e :: es) ops) (hbase : attributeBase o "count" X.env (eval o X.env) = eval o X.env := by rfl)
    (hfew : ((backTo cpos (starEach (e :: es) X.env)).all (fun x => !x.1) && (backToKw cpos (keywordEach [] X.env)).all (fun x => x.1.isSome)
      && decide ((e :: es).length + ([] : List Keyword).length + (if ([] : List Keyword).isEmpty then 0 else 1) < 30)) = true := by rfl)
    (hline : (apos.endLine == cpos.line) = true := by rfl) (hs : starEach (e :: es) X.env = (false, eval e X.env) :: starEach es X.env := by rfl) (hplain : (backTo cpos (starEach es X.env)).any (·.1) = false := by rfl) :
    PEx X W (.Call (.Attribute o "count" apos) (e :: es) [] cpos) g :=
  ⟨fun pins s σ H Q I r => (pe_bm PySem.F.plainAttrs_list PySem.F.slot_list_count PySem.F.type_list_count mt_lcount ho ha hbase hfew hline hs hplain).run pins s σ H Q I r⟩
end
end VS
set_option Elab.async false
set_option linter.all false
set_option maxRecDepth 100000
namespace VS
open PySem PySem.Spec PyProof.Rows L2 RZ
theorem boot_ValueError : bootBuiltins "ValueError" = some (.type "ValueError") := by decide +kernel
end VS
set_option Elab.async false
set_option linter.all false
set_option maxRecDepth 100000
namespace VS
open PySem PySem.Spec PyProof.Rows L2 RZ
/-! ### the words' values, step by step: what simp may use; each «and then» has a name, so that simp stays out of it -/
theorem nrfl {α : Sort _} {a b : α} (h : a = b) : a = b := h
def bd {α β : Type} (o : Option α) (f : α → Option β) : Option β := o.bind f
@[simp] theorem bd_some {α β : Type} (x : α) (f : α → Option β) : bd (some x) f = f x := nrfl rfl
@[simp] theorem bd_none {α β : Type} (f : α → Option β) : bd none f = none := nrfl rfl
def ift {α β : Type} (b : Bool) (x y : α → β) (a : α) : β := if b = true then x a else y a
@[simp] theorem ift_t {α β : Type} (x y : α → β) (a : α) : ift true x y a = x a := nrfl rfl
@[simp] theorem ift_f {α β : Type} (x y : α → β) (a : α) : ift false x y a = y a := nrfl rfl
def gb {α : Type} (b : Bool) (x : Option α) : Option α := if b = true then x else none
@[simp] theorem gb_t {α : Type} (x : Option α) : gb true x = x := nrfl rfl
@[simp] theorem gb_f {α : Type} (x : Option α) : gb false x = none := nrfl rfl
theorem gb_of {α : Type} {b : Bool} {x : Option α} (h : b = true) : gb b x = x := by rw [h]; rfl
theorem gb_ite {α : Type} {p : Prop} [Decidable p] (x : Option α) : (if p then x else none) = gb (decide p) x := by
  unfold gb
  by_cases h : p <;> simp [h]
def outK (g : FS) : Out → Option Out
  | .nx ρ => g ρ
  | o => some o
@[simp] theorem outK_nx (g : FS) (ρ : Env) : outK g (.nx ρ) = g ρ := nrfl rfl
@[simp] theorem outK_rt (g : FS) (d : D) (ρ : Env) : outK g (.rt d ρ) = some (.rt d ρ) := nrfl rfl
@[simp] theorem outK_bk (g : FS) (ρ : Env) : outK g (.bk ρ) = some (.bk ρ) := nrfl rfl
@[simp] theorem outK_ct (g : FS) (ρ : Env) : outK g (.ct ρ) = some (.ct ρ) := nrfl rfl
def blK : D × Env → Option (Bool × Env)
  | (.bl b, ρ) => some (b, ρ)
  | _ => none
@[simp] theorem blK_e (b : Bool) (ρ : Env) : blK (.bl b, ρ) = some (b, ρ) := rfl
def nxK  : Env → Option Out := fun ρ => some (.nx ρ)
@[simp] theorem nxK_e  (ρ : Env) : nxK  ρ = some (.nx ρ) := nrfl rfl
def asgK (g : D → Env → Option Env) : D × Env → Option Out := fun (d, ρ) => bd (g d ρ) nxK
@[simp] theorem asgK_e (g : D → Env → Option Env) (d : D) (ρ : Env) : asgK g (d, ρ) = bd (g d ρ) nxK := nrfl rfl
def dropK  : D × Env → Option Out := fun (d, ρ) => some (.nx ρ)
@[simp] theorem dropK_e  (d : D) (ρ : Env) : dropK  (d, ρ) = some (.nx ρ) := nrfl rfl
def retK  : D × Env → Option Out := fun (d, ρ) => some (.rt d ρ)
@[simp] theorem retK_e  (d : D) (ρ : Env) : retK  (d, ρ) = some (.rt d ρ) := nrfl rfl
def ifK (f : FS) (g : FS) : Bool × Env → Option Out := fun (b, ρ) => ift b f g ρ
@[simp] theorem ifK_e (f : FS) (g : FS) (b : Bool) (ρ : Env) : ifK f g (b, ρ) = ift b f g ρ := nrfl rfl
def notK  : Bool × Env → Option (Bool × Env) := fun (b, ρ) => some (!b, ρ)
@[simp] theorem notK_e  (b : Bool) (ρ : Env) : notK  (b, ρ) = some (!b, ρ) := nrfl rfl
def boK (b0 : Bool) : Env → Option (Bool × Env) := fun ρ => some (b0, ρ)
@[simp] theorem boK_e (b0 : Bool) (ρ : Env) : boK b0 ρ = some (b0, ρ) := nrfl rfl
def bvK (b0 : Bool) : Env → Option (D × Env) := fun ρ => some (D.bl b0, ρ)
@[simp] theorem bvK_e (b0 : Bool) (ρ : Env) : bvK b0 ρ = some (D.bl b0, ρ) := nrfl rfl
def andK (g : FB) : Bool × Env → Option (Bool × Env) := fun (b, ρ) => ift b g (boK false) ρ
@[simp] theorem andK_e (g : FB) (b : Bool) (ρ : Env) : andK g (b, ρ) = ift b g (boK false) ρ := nrfl rfl
def orK (g : FB) : Bool × Env → Option (Bool × Env) := fun (b, ρ) => ift b (boK true) g ρ
@[simp] theorem orK_e (g : FB) (b : Bool) (ρ : Env) : orK g (b, ρ) = ift b (boK true) g ρ := nrfl rfl
def bEK  : Bool × Env → Option (D × Env) := fun (b, ρ) => some (D.bl b, ρ)
@[simp] theorem bEK_e  (b : Bool) (ρ : Env) : bEK  (b, ρ) = some (D.bl b, ρ) := nrfl rfl
def ifEK (f : FE) (g : FE) : Bool × Env → Option (D × Env) := fun (b, ρ) => ift b f g ρ
@[simp] theorem ifEK_e (f : FE) (g : FE) (b : Bool) (ρ : Env) : ifEK f g (b, ρ) = ift b f g ρ := nrfl rfl
def andVK (g : FE) : Bool × Env → Option (D × Env) := fun (b, ρ) => ift b g (bvK false) ρ
@[simp] theorem andVK_e (g : FE) (b : Bool) (ρ : Env) : andVK g (b, ρ) = ift b g (bvK false) ρ := nrfl rfl
def orVK (g : FE) : Bool × Env → Option (D × Env) := fun (b, ρ) => ift b (bvK true) g ρ
@[simp] theorem orVK_e (g : FE) (b : Bool) (ρ : Env) : orVK g (b, ρ) = ift b (bvK true) g ρ := nrfl rfl
def notVK  : Bool × Env → Option (D × Env) := fun (b, ρ) => some (D.bl (!b), ρ)
@[simp] theorem notVK_e  (b : Bool) (ρ : Env) : notVK  (b, ρ) = some (D.bl (!b), ρ) := nrfl rfl
def pairK (ρ : Env) : D → Option (D × Env) := fun d => some (d, ρ)
@[simp] theorem pairK_e (ρ : Env) (d : D) : pairK ρ d = some (d, ρ) := nrfl rfl
def setK (ρ : Env) (i : Nat) : D → Option (D × Env) := fun d => some (d, ρ.set i none)
@[simp] theorem setK_e (ρ : Env) (i : Nat) (d : D) : setK ρ i d = some (d, ρ.set i none) := nrfl rfl
def frzK (i : Nat) (d : D) : Env → Option (D × Env) := fun ρ => some (freeze d, ρ.set i (some (freeze d)))
@[simp] theorem frzK_e (i : Nat) (d : D) (ρ : Env) : frzK i d ρ = some (freeze d, ρ.set i (some (freeze d))) := nrfl rfl
def keepK (d : D) : Env → Option (D × Env) := fun ρ => some (d, ρ)
@[simp] theorem keepK_e (d : D) (ρ : Env) : keepK d ρ = some (d, ρ) := nrfl rfl
def varK (ρ : Env) (i : Nat) : D → Option (D × Env) := fun d => ift (noOwn d) (keepK d) (frzK i d) ρ
@[simp] theorem varK_e (ρ : Env) (i : Nat) (d : D) : varK ρ i d = ift (noOwn d) (keepK d) (frzK i d) ρ := nrfl rfl
def evbK2  : List (Option D) × Env → Option (List (Option D) × Env) := fun (ts, ρ) => some (none :: ts, ρ)
@[simp] theorem evbK2_e  (ts : List (Option D)) (ρ : Env) : evbK2  (ts, ρ) = some (none :: ts, ρ) := nrfl rfl
def evtK2 (d : D) : List (Option D) × Env → Option (List (Option D) × Env) := fun (ts, ρ) => some (some d :: ts, ρ)
@[simp] theorem evtK2_e (d : D) (ts : List (Option D)) (ρ : Env) : evtK2 d (ts, ρ) = some (some d :: ts, ρ) := nrfl rfl
theorem evx : True := trivial
def evbK (r : List Op) (ρ : Env) : D → Option (List (Option D) × Env) := fun _ => bd (evOps r ρ) evbK2
@[simp] theorem evbK_e (r : List Op) (ρ : Env) (d : D) : evbK r ρ d = bd (evOps r ρ) evbK2 := nrfl rfl
def evtK (r : List Op) : D × Env → Option (List (Option D) × Env) := fun (d, ρ) => bd (evOps r ρ) (evtK2 d)
@[simp] theorem evtK_e (r : List Op) (d : D) (ρ : Env) : evtK r (d, ρ) = bd (evOps r ρ) (evtK2 d) := nrfl rfl
def consK (d : D) : List D → Option (List D) := fun ds => some (d :: ds)
@[simp] theorem consK_e (d : D) (ds : List D) : consK d ds = some (d :: ds) := nrfl rfl
def febK (r : List Op) (ts : List (Option D)) (ρ : Env) : D → Option (List D) := fun d => bd (fetch r ts ρ) (consK d)
@[simp] theorem febK_e (r : List Op) (ts : List (Option D)) (ρ : Env) (d : D) : febK r ts ρ d = bd (fetch r ts ρ) (consK d) := nrfl rfl
def tabK (r : List Op) (ts : List (Option D)) (ρ : Env) : D → Option (List D) := fun d => gb (noOwn d) (bd (takeN r ts ρ) (consK d))
@[simp] theorem tabK_e (r : List Op) (ts : List (Option D)) (ρ : Env) (d : D) : tabK r ts ρ d = gb (noOwn d) (bd (takeN r ts ρ) (consK d)) := nrfl rfl
def opK2 (g : List D → Option D) (ρ : Env) : List D → Option (D × Env) := fun ds => bd (g ds) (pairK ρ)
@[simp] theorem opK2_e (g : List D → Option D) (ρ : Env) (ds : List D) : opK2 g ρ ds = bd (g ds) (pairK ρ) := nrfl rfl
def opK (g : List D → Option D) (ops : List Op) : List (Option D) × Env → Option (D × Env) := fun (ts, ρ) => bd (fetch ops ts ρ) (opK2 g ρ)
@[simp] theorem opK_e (g : List D → Option D) (ops : List Op) (ts : List (Option D)) (ρ : Env) : opK g ops (ts, ρ) = bd (fetch ops ts ρ) (opK2 g ρ) := nrfl rfl
def tupK2 (ρ : Env) : List D → Option (D × Env) := fun ds => gb (decide (ds.length ≤ smallL)) (some (D.tup ds, ρ))
@[simp] theorem tupK2_e (ρ : Env) (ds : List D) : tupK2 ρ ds = gb (decide (ds.length ≤ smallL)) (some (D.tup ds, ρ)) := nrfl rfl
def tupK (ops : List Op) : List (Option D) × Env → Option (D × Env) := fun (ts, ρ) => bd (takeN ops ts ρ) (tupK2 ρ)
@[simp] theorem tupK_e (ops : List Op) (ts : List (Option D)) (ρ : Env) : tupK ops (ts, ρ) = bd (takeN ops ts ρ) (tupK2 ρ) := nrfl rfl
def lstK2 (ρ : Env) : List D → Option (D × Env) := fun ds => gb (decide (ds.length ≤ smallL)) (some (D.lst true ds, ρ))
@[simp] theorem lstK2_e (ρ : Env) (ds : List D) : lstK2 ρ ds = gb (decide (ds.length ≤ smallL)) (some (D.lst true ds, ρ)) := nrfl rfl
def lstK (ops : List Op) : List (Option D) × Env → Option (D × Env) := fun (ts, ρ) => bd (takeN ops ts ρ) (lstK2 ρ)
@[simp] theorem lstK_e (ops : List Op) (ts : List (Option D)) (ρ : Env) : lstK ops (ts, ρ) = bd (takeN ops ts ρ) (lstK2 ρ) := nrfl rfl
def parK2 (is : List Nat) (ρ : Env) : List D → Option Out := fun ds => gb (decide (ds.length = is.length)) (some (.nx (setAll is ds ρ)))
@[simp] theorem parK2_e (is : List Nat) (ρ : Env) (ds : List D) : parK2 is ρ ds = gb (decide (ds.length = is.length)) (some (.nx (setAll is ds ρ))) := nrfl rfl
def parK (is : List Nat) (ops : List Op) : List (Option D) × Env → Option Out := fun (ts, ρ) => bd (takeN ops ts ρ) (parK2 is ρ)
@[simp] theorem parK_e (is : List Nat) (ops : List Op) (ts : List (Option D)) (ρ : Env) : parK is ops (ts, ρ) = bd (takeN ops ts ρ) (parK2 is ρ) := nrfl rfl
def tgcK (gs : List D → Env → Option Env) (r : List D) : Env → Option Env := fun ρ => gs r ρ
@[simp] theorem tgcK_e (gs : List D → Env → Option Env) (r : List D) (ρ : Env) : tgcK gs r ρ = gs r ρ := nrfl rfl
def sub3K (k : Nat) (d0 : D) (ρ : Env) : List D → Option Env := fun ds => subPut ρ k d0 ds (getS ρ k)
@[simp] theorem sub3K_e (k : Nat) (d0 : D) (ρ : Env) (ds : List D) : sub3K k d0 ρ ds = subPut ρ k d0 ds (getS ρ k) := nrfl rfl
def sub2K (k : Nat) (oi : Op) (d0 : D) : List (Option D) × Env → Option Env := fun (ts, ρ) => bd (fetch [oi] ts ρ) (sub3K k d0 ρ)
@[simp] theorem sub2K_e (k : Nat) (oi : Op) (d0 : D) (ts : List (Option D)) (ρ : Env) : sub2K k oi d0 (ts, ρ) = bd (fetch [oi] ts ρ) (sub3K k d0 ρ) := nrfl rfl
def sub1K (k : Nat) (oi : Op) (d0 : D) (ρ : Env) : D → Option Env := fun _ => bd (evOps [oi] ρ) (sub2K k oi d0)
@[simp] theorem sub1K_e (k : Nat) (oi : Op) (d0 : D) (ρ : Env) (d : D) : sub1K k oi d0 ρ d = bd (evOps [oi] ρ) (sub2K k oi d0) := nrfl rfl
def putAt (ρ : Env) (k : Nat) (d : D) (xs : List D) : Nat → Option Env := fun j => some (ρ.set k (some (.lst true (xs.set j d))))
@[simp] theorem putAt_e (ρ : Env) (k : Nat) (d : D) (xs : List D) (j : Nat) : putAt ρ k d xs j = some (ρ.set k (some (.lst true (xs.set j d)))) := nrfl rfl
def truK2 (ρ : Env) : Bool → Option (Bool × Env) := fun b => some (b, ρ)
@[simp] theorem truK2_e (ρ : Env) (b : Bool) : truK2 ρ b = some (b, ρ) := nrfl rfl
def truK1 (ρ : Env) : List D → Option (Bool × Env)
  | [d] => bd (truD d) (truK2 ρ)
  | _ => none
@[simp] theorem truK1_e (ρ : Env) (d : D) : truK1 ρ [d] = bd (truD d) (truK2 ρ) := nrfl rfl
def truK (o : Op) : List (Option D) × Env → Option (Bool × Env) := fun p => bd (fetch [o] p.1 p.2) (truK1 p.2)
@[simp] theorem truK_e (o : Op) (ts : List (Option D)) (ρ : Env) : truK o (ts, ρ) = bd (fetch [o] ts ρ) (truK1 ρ) := nrfl rfl
def mutK2 (i : Nat) (ρ : Env) : D × List D → Option (D × Env) := fun q => some (q.1, ρ.set i (some (.lst true q.2)))
@[simp] theorem mutK2_e (i : Nat) (ρ : Env) (d : D) (xs : List D) : mutK2 i ρ (d, xs) = some (d, ρ.set i (some (.lst true xs))) := nrfl rfl
def mutK (g : List D → List D → Option (D × List D)) (i : Nat) (ρ : Env) (ds : List D) : Option D → Option (D × Env)
  | some (.lst true xs) => bd (g xs ds) (mutK2 i ρ)
  | _ => none
@[simp] theorem mutK_e (g : List D → List D → Option (D × List D)) (i : Nat) (ρ : Env) (ds xs : List D) : mutK g i ρ ds (some (.lst true xs)) = bd (g xs ds) (mutK2 i ρ) := nrfl rfl
def isO : Option D → Bool
  | some (.lst true _) => true
  | _ => false
@[simp] theorem isO_e (xs : List D) : isO (some (.lst true xs)) = true := rfl
def mutK1 (g : List D → List D → Option (D × List D)) (i : Nat) (ρ : Env) : List D → Option (D × Env) := fun ds => mutK g i ρ ds (getS ρ i)
@[simp] theorem mutK1_e (g : List D → List D → Option (D × List D)) (i : Nat) (ρ : Env) (ds : List D) : mutK1 g i ρ ds = mutK g i ρ ds (getS ρ i) := nrfl rfl
def mutK0 (g : List D → List D → Option (D × List D)) (i : Nat) (ops : List Op) : List (Option D) × Env → Option (D × Env) := fun (ts, ρ) => bd (takeN ops ts ρ) (mutK1 g i ρ)
@[simp] theorem mutK0_e (g : List D → List D → Option (D × List D)) (i : Nat) (ops : List Op) (ts : List (Option D)) (ρ : Env) : mutK0 g i ops (ts, ρ) = bd (takeN ops ts ρ) (mutK1 g i ρ) := nrfl rfl
def augK3 (i : Nat) (ρ : Env) : D → Option Out := fun d => some (.nx (ρ.set i (some d)))
@[simp] theorem augK3_e (i : Nat) (ρ : Env) (d : D) : augK3 i ρ d = some (.nx (ρ.set i (some d))) := nrfl rfl
def augK2 (i : Nat) (g : List D → Option D) (d0 : D) (ρ : Env) : List D → Option Out := fun ds => bd (g (d0 :: ds)) (augK3 i ρ)
@[simp] theorem augK2_e (i : Nat) (g : List D → Option D) (d0 : D) (ρ : Env) (ds : List D) : augK2 i g d0 ρ ds = bd (g (d0 :: ds)) (augK3 i ρ) := nrfl rfl
def augK1 (i : Nat) (g : List D → Option D) (o : Op) (d0 : D) : List (Option D) × Env → Option Out := fun (ts, ρ) => bd (fetch [o] ts ρ) (augK2 i g d0 ρ)
@[simp] theorem augK1_e (i : Nat) (g : List D → Option D) (o : Op) (d0 : D) (ts : List (Option D)) (ρ : Env) : augK1 i g o d0 (ts, ρ) = bd (fetch [o] ts ρ) (augK2 i g d0 ρ) := nrfl rfl
def augK (i : Nat) (g : List D → Option D) (o : Op) (ρ : Env) : D → Option Out := fun d => gb (noOwn d) (bd (evOps [o] ρ) (augK1 i g o d))
@[simp] theorem augK_e (i : Nat) (g : List D → Option D) (o : Op) (ρ : Env) (d : D) : augK i g o ρ d = gb (noOwn d) (bd (evOps [o] ρ) (augK1 i g o d)) := nrfl rfl
def fcK (d0 : D) : List D × Env → Option (List D × Env) := fun (ds, ρ) => some (d0 :: ds, ρ)
@[simp] theorem fcK_e (d0 : D) (ds : List D) (ρ : Env) : fcK d0 (ds, ρ) = some (d0 :: ds, ρ) := nrfl rfl
def fcB (ps : List Bool) (r : List Op) (ts : List (Option D)) : Env → Option (List D × Env) := fetchC ps r ts
@[simp] theorem fcB_e (ps : List Bool) (r : List Op) (ts : List (Option D)) (ρ : Env) : fcB ps r ts ρ = fetchC ps r ts ρ := nrfl rfl
def fcN (ps : List Bool) (i : Nat) (r : List Op) (ts : List (Option D)) : Env → Option (List D × Env) := fun ρ => fetchC ps r ts (ρ.set i none)
@[simp] theorem fcN_e (ps : List Bool) (i : Nat) (r : List Op) (ts : List (Option D)) (ρ : Env) : fcN ps i r ts ρ = fetchC ps r ts (ρ.set i none) := nrfl rfl
def fcb1 (ps : List Bool) (r : List Op) (ts : List (Option D)) (d : D) : Env → Option (List D × Env) := fun ρ => bd (fcB ps r ts ρ) (fcK d)
@[simp] theorem fcb1_e (ps : List Bool) (r : List Op) (ts : List (Option D)) (d : D) (ρ : Env) : fcb1 ps r ts d ρ = bd (fetchC ps r ts ρ) (fcK d) := nrfl rfl
def fcb2 (p : Bool) (ps : List Bool) (i : Nat) (r : List Op) (ts : List (Option D)) (d : D) : Env → Option (List D × Env) := fun ρ => gb p (bd (fcN ps i r ts ρ) (fcK d))
@[simp] theorem fcb2_e (p : Bool) (ps : List Bool) (i : Nat) (r : List Op) (ts : List (Option D)) (d : D) (ρ : Env) : fcb2 p ps i r ts d ρ = gb p (bd (fetchC ps r ts (ρ.set i none)) (fcK d)) := rfl
def fcbK (p : Bool) (ps : List Bool) (i : Nat) (r : List Op) (ts : List (Option D)) (ρ : Env) : D → Option (List D × Env) := fun d => ift (noOwn d) (fcb1 ps r ts d) (fcb2 p ps i r ts d) ρ
@[simp] theorem fcbK_e (p : Bool) (ps : List Bool) (i : Nat) (r : List Op) (ts : List (Option D)) (ρ : Env) (d : D) : fcbK p ps i r ts ρ d = ift (noOwn d) (fcb1 ps r ts d) (fcb2 p ps i r ts d) ρ := nrfl rfl
def caK2 (ops : List Op) (ds : List D) (ρ : Env) : D × List (Option D) → Option (D × Env) := fun (d, os) => some (d, putB ops ds os ρ)
@[simp] theorem caK2_e (ops : List Op) (ds : List D) (ρ : Env) (d : D) (os : List (Option D)) : caK2 ops ds ρ (d, os) = some (d, putB ops ds os ρ) := nrfl rfl
def caK1 (fn : Fn) (ops : List Op) : List D × Env → Option (D × Env) := fun (ds, ρ) => bd (fn.sem ds) (caK2 ops ds ρ)
@[simp] theorem caK1_e (fn : Fn) (ops : List Op) (ds : List D) (ρ : Env) : caK1 fn ops (ds, ρ) = bd (fn.sem ds) (caK2 ops ds ρ) := nrfl rfl
def caK (fn : Fn) (ops : List Op) : List (Option D) × Env → Option (D × Env) := fun (ts, ρ) => bd (fetchC fn.pins ops ts ρ) (caK1 fn ops)
@[simp] theorem caK_e (fn : Fn) (ops : List Op) (ts : List (Option D)) (ρ : Env) : caK fn ops (ts, ρ) = bd (fetchC fn.pins ops ts ρ) (caK1 fn ops) := nrfl rfl
def ckK (fn : Fn) (is : List Nat) (ops : List Op) : List (Option D) × Env → Option (D × Env) := fun (ts, ρ) => bd (fetchC fn.pins (permL is ops) (permL is ts) ρ) (caK1 fn (permL is ops))
@[simp] theorem ckK_e (fn : Fn) (is : List Nat) (ops : List Op) (ts : List (Option D)) (ρ : Env) : ckK fn is ops (ts, ρ) = bd (fetchC fn.pins (permL is ops) (permL is ts) ρ) (caK1 fn (permL is ops)) := nrfl rfl
@[simp] theorem seqF_e (f g : FS) (ρ : Env) : seqF f g ρ = bd (f ρ) (outK g) := by
  unfold seqF bd
  congr 1
@[simp] theorem asgF_e (f : FE) (g : D → Env → Option Env) (ρ : Env) : asgF f g ρ = bd (f ρ) (asgK g) := nrfl rfl
@[simp] theorem dropF_e (f : FE) (ρ : Env) : dropF f ρ = bd (f ρ) dropK := nrfl rfl
@[simp] theorem retF_e (f : FE) (ρ : Env) : retF f ρ = bd (f ρ) retK := nrfl rfl
@[simp] theorem retN_e (ρ : Env) : retN ρ = some (.rt .non ρ) := nrfl rfl
@[simp] theorem passF_e (ρ : Env) : passF ρ = some (.nx ρ) := nrfl rfl
@[simp] theorem brkF_e (ρ : Env) : brkF ρ = some (.bk ρ) := nrfl rfl
@[simp] theorem cntF_e (ρ : Env) : cntF ρ = some (.ct ρ) := nrfl rfl
@[simp] theorem neverF_e (ρ : Env) : neverF ρ = none := nrfl rfl
@[simp] theorem ifF_e (c : FB) (f g : FS) (ρ : Env) : ifF c f g ρ = bd (c ρ) (ifK f g) := nrfl rfl
@[simp] theorem tgN_e (i : Nat) (d : D) (ρ : Env) : tgN i d ρ = some (ρ.set i (some d)) := nrfl rfl
@[simp] theorem tgNil_e (ρ : Env) : tgNil [] ρ = some ρ := nrfl rfl
@[simp] theorem tgCons_e (g : D → Env → Option Env) (gs : List D → Env → Option Env) (d : D) (r : List D) (ρ : Env) : tgCons g gs (d :: r) ρ = bd (g d ρ) (tgcK gs r) := nrfl rfl
@[simp] theorem tgT_e (n : Nat) (gs : List D → Env → Option Env) (xs : List D) (ρ : Env) : tgT n gs (.tup xs) ρ = gb (decide (xs.length = n)) (gs xs ρ) := gb_ite _
@[simp] theorem tgSub_e (k : Nat) (oi : Op) (d : D) (ρ : Env) : tgSub k oi d ρ = bd (getS ρ k) (sub1K k oi d ρ) := nrfl rfl
@[simp] theorem subPut_e (ρ : Env) (k : Nat) (d : D) (i : Int) (xs : List D) : subPut ρ k d [.int i] (some (.lst true xs)) = bd (ixN xs.length i) (putAt ρ k d xs) := nrfl rfl
@[simp] theorem tstF_e (o : Op) (ρ : Env) : tstF o ρ = bd (evOps [o] ρ) (truK o) := by
  unfold tstF bd
  congr 1
@[simp] theorem notF_e (f : FB) (ρ : Env) : notF f ρ = bd (f ρ) notK := nrfl rfl
@[simp] theorem andF_e (f g : FB) (ρ : Env) : andF f g ρ = bd (f ρ) (andK g) := nrfl rfl
@[simp] theorem orF_e (f g : FB) (ρ : Env) : orF f g ρ = bd (f ρ) (orK g) := nrfl rfl
@[simp] theorem yesF_e (ρ : Env) : yesF ρ = some (true, ρ) := nrfl rfl
@[simp] theorem bT_e (f : FE) (ρ : Env) : bT f ρ = bd (f ρ) blK := by
  unfold bT bd
  congr 1
  funext p
  obtain ⟨d, ρ⟩ := p
  cases d <;> rfl
@[simp] theorem bE_e (f : FB) (ρ : Env) : bE f ρ = bd (f ρ) bEK := nrfl rfl
@[simp] theorem ifE_e (c : FB) (f g : FE) (ρ : Env) : ifE c f g ρ = bd (c ρ) (ifEK f g) := nrfl rfl
def thenK {α β γ : Type} (f : α → Option β) (g : β → Option γ) : α → Option γ := fun a => bd (f a) g
@[simp] theorem thenK_e {α β γ : Type} (f : α → Option β) (g : β → Option γ) (a : α) : thenK f g a = bd (f a) g := nrfl rfl
@[simp] theorem andV_e (f g : FE) (ρ : Env) : andV f g ρ = bd (f ρ) (thenK blK (andVK g)) := by
  unfold andV bd
  congr 1
  funext p
  obtain ⟨d, ρ⟩ := p
  cases d <;> first | rfl | (rename_i b; cases b <;> rfl)
@[simp] theorem orV_e (f g : FE) (ρ : Env) : orV f g ρ = bd (f ρ) (thenK blK (orVK g)) := by
  unfold orV bd
  congr 1
  funext p
  obtain ⟨d, ρ⟩ := p
  cases d <;> first | rfl | (rename_i b; cases b <;> rfl)
@[simp] theorem notV_e (f : FE) (ρ : Env) : notV f ρ = bd (f ρ) (thenK blK notVK) := by
  unfold notV bd
  congr 1
  funext p
  obtain ⟨d, ρ⟩ := p
  cases d <;> rfl
@[simp] theorem litF_e (d : D) (ρ : Env) : litF d ρ = some (d, ρ) := nrfl rfl
@[simp] theorem varF_e (i : Nat) (ρ : Env) : varF i ρ = bd (getS ρ i) (varK ρ i) := nrfl rfl
@[simp] theorem movF_e (i : Nat) (ρ : Env) : movF i ρ = bd (getS ρ i) (setK ρ i) := nrfl rfl
@[simp] theorem getS_z (a : Option D) (ρ : Env) : getS (a :: ρ) 0 = a := by
  cases a <;> rfl
@[simp] theorem getS_s (a : Option D) (ρ : Env) (n : Nat) : getS (a :: ρ) (n + 1) = getS ρ n := nrfl rfl
@[simp] theorem evOps_nil (ρ : Env) : evOps [] ρ = some ([], ρ) := nrfl rfl
@[simp] theorem evOps_b (i : Nat) (r : List Op) (ρ : Env) : evOps (.b i :: r) ρ = bd (getS ρ i) (evbK r ρ) := nrfl rfl
@[simp] theorem evOps_t (f : FE) (r : List Op) (ρ : Env) : evOps (.t f :: r) ρ = bd (f ρ) (evtK r) := nrfl rfl
@[simp] theorem fetch_nil (ts : List (Option D)) (ρ : Env) : fetch [] ts ρ = some [] := nrfl rfl
@[simp] theorem fetch_b (i : Nat) (r : List Op) (t : Option D) (ts : List (Option D)) (ρ : Env) : fetch (.b i :: r) (t :: ts) ρ = bd (getS ρ i) (febK r ts ρ) := nrfl rfl
@[simp] theorem fetch_t (f : FE) (r : List Op) (d : D) (ts : List (Option D)) (ρ : Env) : fetch (.t f :: r) (some d :: ts) ρ = bd (fetch r ts ρ) (consK d) := nrfl rfl
@[simp] theorem takeN_nil (ts : List (Option D)) (ρ : Env) : takeN [] ts ρ = some [] := nrfl rfl
@[simp] theorem takeN_b (i : Nat) (r : List Op) (t : Option D) (ts : List (Option D)) (ρ : Env) : takeN (.b i :: r) (t :: ts) ρ = bd (getS ρ i) (tabK r ts ρ) := nrfl rfl
@[simp] theorem takeN_t (f : FE) (r : List Op) (d : D) (ts : List (Option D)) (ρ : Env) : takeN (.t f :: r) (some d :: ts) ρ = bd (takeN r ts ρ) (consK d) := nrfl rfl
@[simp] theorem opF_e (g : List D → Option D) (ops : List Op) (ρ : Env) : opF g ops ρ = bd (evOps ops ρ) (opK g ops) := nrfl rfl
@[simp] theorem tupF_e (ops : List Op) (ρ : Env) : tupF ops ρ = bd (evOps ops ρ) (tupK ops) := by
  unfold tupF tupK tupK2 bd; congr 1; funext p; congr 1; funext ds; exact gb_ite _
@[simp] theorem lstF_e (ops : List Op) (ρ : Env) : lstF ops ρ = bd (evOps ops ρ) (lstK ops) := by
  unfold lstF lstK lstK2 bd; congr 1; funext p; congr 1; funext ds; exact gb_ite _
@[simp] theorem parF_e (is : List Nat) (ops : List Op) (ρ : Env) : parF is ops ρ = bd (evOps ops ρ) (parK is ops) := by
  unfold parF parK parK2 bd; congr 1; funext p; congr 1; funext ds; exact gb_ite _
@[simp] theorem setAll_c (i : Nat) (is : List Nat) (d : D) (ds : List D) (ρ : Env) : setAll (i :: is) (d :: ds) ρ = setAll is ds (ρ.set i (some d)) := nrfl rfl
@[simp] theorem setAll_n (ρ : Env) : setAll [] [] ρ = ρ := nrfl rfl
@[simp] theorem mutF_e (i : Nat) (g : List D → List D → Option (D × List D)) (ops : List Op) (ρ : Env) : mutF i g ops ρ = gb (isO (getS ρ i)) (bd (evOps ops ρ) (mutK0 g i ops)) := by
  unfold mutF
  cases h : getS ρ i with
  | none => rfl
  | some d =>
    cases d with
    | lst o xs =>
      cases o with
      | false => rfl
      | true =>
        simp only [isO_e, gb_t]
        unfold mutK0 bd
        congr 1
    | _ => rfl
@[simp] theorem augF_e (i : Nat) (g : List D → Option D) (o : Op) (ρ : Env) : augF i g o ρ = bd (getS ρ i) (augK i g o ρ) := by
  unfold augF bd; congr 1
/-! calls -/
@[simp] theorem fetchC_nil (ρ : Env) : fetchC [] [] [] ρ = some ([], ρ) := nrfl rfl
@[simp] theorem fetchC_b (p : Bool) (ps : List Bool) (i : Nat) (r : List Op) (t : Option D) (ts : List (Option D)) (ρ : Env) : fetchC (p :: ps) (.b i :: r) (t :: ts) ρ = bd (getS ρ i) (fcbK p ps i r ts ρ) := by
  cases t <;> rfl
@[simp] theorem fetchC_t (p : Bool) (ps : List Bool) (f : FE) (r : List Op) (d : D) (ts : List (Option D)) (ρ : Env) : fetchC (p :: ps) (.t f :: r) (some d :: ts) ρ = bd (fetchC ps r ts ρ) (fcK d) := nrfl rfl
@[simp] theorem putB_n (ds : List D) (os : List (Option D)) (ρ : Env) : putB [] ds os ρ = ρ := nrfl rfl
@[simp] theorem putB_b (i : Nat) (r : List Op) (d : D) (ds : List D) (o : Option D) (os : List (Option D)) (ρ : Env) : putB (.b i :: r) (d :: ds) (o :: os) ρ = putB r ds os (cond (noOwn d) ρ (ρ.set i o)) := by
  show (if noOwn d = true then _ else _) = _
  cases noOwn d <;> rfl
@[simp] theorem putB_t (f : FE) (r : List Op) (d : D) (ds : List D) (o : Option D) (os : List (Option D)) (ρ : Env) : putB (.t f :: r) (d :: ds) (o :: os) ρ = putB r ds os ρ := nrfl rfl
@[simp] theorem callF_e (fn : Fn) (ops : List Op) (ρ : Env) : callF fn ops ρ = bd (evOps ops ρ) (caK fn ops) := nrfl rfl
@[simp] theorem callKF_e (fn : Fn) (is : List Nat) (ops : List Op) (ρ : Env) : callKF fn is ops ρ = bd (evOps ops ρ) (ckK fn is ops) := nrfl rfl
@[simp] theorem permL_n {α : Type} (xs : List α) : permL [] xs = [] := nrfl rfl
@[simp] theorem permL_c {α : Type} (i : Nat) (is : List Nat) (xs : List α) : permL (i :: is) xs = (xs[i]?).toList ++ permL is xs := by
  unfold permL
  cases h : xs[i]? <;> simp [List.filterMap_cons, h]
def finK (pins : List Bool) : Out → Option (D × List (Option D))
  | .rt d ρ => some (d, finP pins ρ)
  | .nx ρ => some (.non, finP pins ρ)
  | _ => none
@[simp] theorem finK_rt (pins : List Bool) (d : D) (ρ : Env) : finK pins (.rt d ρ) = some (d, finP pins ρ) := nrfl rfl
@[simp] theorem finK_nx (pins : List Bool) (ρ : Env) : finK pins (.nx ρ) = some (.non, finP pins ρ) := nrfl rfl
@[simp] theorem finP_n (ρ : Env) : finP [] ρ = [] := by cases ρ <;> rfl
@[simp] theorem finP_t (ps : List Bool) (o : Option D) (ρ : Env) : finP (true :: ps) (o :: ρ) = o :: finP ps ρ := nrfl rfl
@[simp] theorem finP_f (ps : List Bool) (o : Option D) (ρ : Env) : finP (false :: ps) (o :: ρ) = none :: finP ps ρ := nrfl rfl
theorem bodyFn_sem (nN np : Nat) (pins : List Bool) (f : FS) (ds : List D) : (bodyFn nN np pins f).sem ds = gb (decide (ds.length = np)) (bd (f (ds.map some ++ List.replicate (nN - np) none)) (finK pins)) := by
  show bodySem nN np pins f ds = _
  unfold bodySem
  by_cases h : ds.length = np
  · rw [if_pos h]; simp only [h, decide_true, gb_t]
    cases e : f (ds.map some ++ List.replicate (nN - np) none) with
    | none => rfl
    | some o => cases o <;> rfl
  · rw [if_neg h]; simp [h]
@[simp] theorem bodyFn_pins (nN np : Nat) (pins : List Bool) (f : FS) : (bodyFn nN np pins f).pins = pins := nrfl rfl
end VS
set_option Elab.async false
set_option linter.all false
set_option maxRecDepth 100000
namespace VS
open PySem PySem.Spec PyProof.Rows L2 RZ
/-! ### the operations' values -/
@[simp] theorem noOwn_non : noOwn .non = true := by simp [noOwn]
@[simp] theorem noOwn_bl (b : Bool) : noOwn (.bl b) = true := by simp [noOwn]
@[simp] theorem noOwn_int (i : Int) : noOwn (.int i) = true := by simp [noOwn]
@[simp] theorem noOwn_str (i : Str) : noOwn (.str i) = true := by simp [noOwn]
@[simp] theorem noOwn_ty (i : String) : noOwn (.ty i) = true := by simp [noOwn]
@[simp] theorem noOwn_scr (i : List Int) : noOwn (.scr i) = true := by simp [noOwn]
@[simp] theorem noOwn_tup (xs : List D) : noOwn (.tup xs) = noOwns xs := by simp [noOwn]
@[simp] theorem noOwn_lst (o : Bool) (xs : List D) : noOwn (.lst o xs) = (!o && noOwns xs) := by simp [noOwn]
@[simp] theorem noOwns_nil : noOwns [] = true := by simp [noOwns]
@[simp] theorem noOwns_cons (x : D) (xs : List D) : noOwns (x :: xs) = (noOwn x && noOwns xs) := by simp [noOwns]
theorem noOwns_all : ∀ {xs : List D}, (∀ x ∈ xs, noOwn x = true) → noOwns xs = true
  | [], _ => by simp
  | x :: xs, h => by simp [h x (by simp), noOwns_all (xs := xs) fun y hy => h y (by simp [hy])]
theorem noOwns_mem : ∀ {xs : List D}, noOwns xs = true → ∀ x ∈ xs, noOwn x = true
  | x :: xs, h, y, hy => by
    simp only [noOwns_cons, Bool.and_eq_true] at h
    rcases List.mem_cons.mp hy with rfl | hy
    · exact h.1
    · exact noOwns_mem h.2 y hy
theorem noOwns_map {α : Type} {f : α → D} (h : ∀ x, noOwn (f x) = true) (xs : List α) : noOwns (xs.map f) = true := noOwns_all fun x hx => by
  obtain ⟨a, _, rfl⟩ := List.mem_map.mp hx
  exact h a
@[simp] theorem noOwns_ints (xs : List Int) : noOwns (xs.map D.int) = true := noOwns_map (fun _ => by simp) xs
theorem noOwns_append (xs ys : List D) : noOwns (xs ++ ys) = (noOwns xs && noOwns ys) := by
  induction xs with
  | nil => simp
  | cons x xs ih => simp [ih, Bool.and_assoc]
mutual
theorem freeze_of {d : D} (h : noOwn d = true) : freeze d = d := by
  cases d with
  | tup xs => simp only [noOwn_tup] at h; simp only [freeze, freezes_of h]
  | lst o xs =>
    simp only [noOwn_lst, Bool.and_eq_true, Bool.not_eq_true'] at h
    simp only [freeze, freezes_of h.2, h.1]
  | dct o kvs => cases o with
    | false => simp only [freeze]
    | true => cases h
  | _ => simp only [freeze]
theorem freezes_of {xs : List D} (h : noOwns xs = true) : freezes xs = xs := by
  cases xs with
  | nil => simp only [freezes]
  | cons x xs =>
    simp only [noOwns_cons, Bool.and_eq_true] at h
    simp only [freezes, freeze_of h.1, freezes_of h.2]
end
@[simp] theorem freeze_lst (o : Bool) (xs : List D) : freeze (.lst o xs) = .lst false (freezes xs) := by simp only [freeze]
@[simp] theorem freezes_ints (xs : List Int) : freezes (xs.map D.int) = xs.map D.int := freezes_of (noOwns_ints xs)
theorem freezes_map {α : Type} {f : α → D} (h : ∀ x, noOwn (f x) = true) (xs : List α) : freezes (xs.map f) = xs.map f := freezes_of (noOwns_map h xs)
@[simp] theorem freezes_nil : freezes [] = [] := by simp only [freezes]
@[simp] theorem freezes_cons (x : D) (xs : List D) : freezes (x :: xs) = freeze x :: freezes xs := by simp only [freezes]
@[simp] theorem addD_i (a b : Int) : addD [.int a, .int b] = some (.int (a + b)) := nrfl rfl
theorem addD_l {o o' : Bool} {xs ys : List D} (h1 : noOwns xs = true) (h2 : noOwns ys = true) (h3 : xs.length + ys.length ≤ 100000) : addD [.lst o xs, .lst o' ys] = some (.lst true (xs ++ ys)) := by
  show (if noOwns xs = true ∧ noOwns ys = true ∧ xs.length + ys.length ≤ smallL then _ else _) = _
  rw [if_pos ⟨h1, h2, h3⟩]
theorem addD_t {xs ys : List D} (h1 : noOwns xs = true) (h2 : noOwns ys = true) (h3 : xs.length + ys.length ≤ 100000) : addD [.tup xs, .tup ys] = some (.tup (xs ++ ys)) := by
  show (if noOwns xs = true ∧ noOwns ys = true ∧ xs.length + ys.length ≤ smallL then _ else _) = _
  rw [if_pos ⟨h1, h2, h3⟩]
@[simp] theorem subD_i (a b : Int) : subD [.int a, .int b] = some (.int (a - b)) := nrfl rfl
@[simp] theorem mulD_i (a b : Int) : mulD [.int a, .int b] = gb (mulOk a b) (some (.int (a * b))) := gb_ite (p := mulOk a b = true) _ |>.trans (by simp)
theorem mulOk_l {a b : Int} (h1 : -18446744073709551616 < a) (h2 : a < 18446744073709551616) : mulOk a b = true := by
  unfold mulOk; simp [h1, h2]
theorem mulOk_r {a b : Int} (h1 : -18446744073709551616 < b) (h2 : b < 18446744073709551616) : mulOk a b = true := by
  unfold mulOk; simp [h1, h2]
theorem mulD_n {o : Bool} {xs : List D} {k : Int} (h1 : noOwns xs = true) (h2 : -1000000 ≤ k) (h3 : k ≤ 1000000) (h4 : xs.length * k.toNat ≤ 100000) : mulD [.lst o xs, .int k] = some (.lst true (List.replicate k.toNat xs).flatten) := by
  show (if _ then _ else _) = _
  rw [if_pos ⟨h1, h2, h3, h4⟩]
@[simp] theorem fdivD_i (a b : Int) : fdivD [.int a, .int b] = gb (fdivOk b) (some (.int (a.fdiv b))) := gb_ite (p := fdivOk b = true) _ |>.trans (by simp)
theorem fdivOk_s {b : Int} (h1 : b ≠ 0) (h2 : -1073741824 < b) (h3 : b < 1073741824) : fdivOk b = true := by
  unfold fdivOk
  have : b ≠ 0 ∧ b.natAbs < 1073741824 := ⟨h1, by omega⟩
  simp [this]
@[simp] theorem modD_i (a b : Int) : modD [.int a, .int b] = gb (decide (b ≠ 0)) (some (.int (a.fmod b))) := gb_ite (p := b ≠ 0) _
@[simp] theorem powD_i (a b : Int) : powD [.int a, .int b] = gb (powOk a b) (some (.int (a ^ b.toNat))) := gb_ite (p := powOk a b = true) _ |>.trans (by simp)
@[simp] theorem negD_i (a : Int) : negD [.int a] = some (.int (-a)) := nrfl rfl
@[simp] theorem ltD_i (a b : Int) : ltD [.int a, .int b] = some (.bl (decide (a < b))) := nrfl rfl
@[simp] theorem leD_i (a b : Int) : leD [.int a, .int b] = some (.bl (decide (a ≤ b))) := nrfl rfl
@[simp] theorem gtD_i (a b : Int) : gtD [.int a, .int b] = some (.bl (decide (b < a))) := nrfl rfl
@[simp] theorem geD_i (a b : Int) : geD [.int a, .int b] = some (.bl (decide (b ≤ a))) := nrfl rfl
@[simp] theorem iaddD_i (a b : Int) : iaddD [.int a, .int b] = some (.int (a + b)) := nrfl rfl
@[simp] theorem isubD_i (a b : Int) : isubD [.int a, .int b] = some (.int (a - b)) := nrfl rfl
@[simp] theorem lenD_l (o : Bool) (xs : List D) : lenD [.lst o xs] = some (.int xs.length) := nrfl rfl
@[simp] theorem lenD_t (xs : List D) : lenD [.tup xs] = some (.int xs.length) := nrfl rfl
@[simp] theorem lenD_s (ns : List Int) : lenD [.scr ns] = some (.int ns.length) := nrfl rfl
@[simp] theorem intD_i (a : Int) : intD [.int a] = some (.int a) := nrfl rfl
@[simp] theorem intD_b (b : Bool) : intD [.bl b] = some (.int (if b then 1 else 0)) := nrfl rfl
@[simp] theorem max2D_i (a b : Int) : max2D [.int a, .int b] = some (.int (if b > a then b else a)) := nrfl rfl
@[simp] theorem min2D_i (a b : Int) : min2D [.int a, .int b] = some (.int (if b < a then b else a)) := nrfl rfl
@[simp] theorem absD_i (a : Int) : absD [.int a] = some (.int (if a < 0 then -a else a)) := nrfl rfl
theorem listD_l {o : Bool} {xs : List D} (h : noOwns xs = true) : listD [.lst o xs] = some (.lst true xs) := if_pos h
theorem listD_t {xs : List D} (h : noOwns xs = true) : listD [.tup xs] = some (.lst true xs) := if_pos h
theorem tupleD_l {o : Bool} {xs : List D} (h : noOwns xs = true) : tupleD [.lst o xs] = some (.tup xs) := if_pos h
theorem tupleD_t {xs : List D} (h : noOwns xs = true) : tupleD [.tup xs] = some (.tup xs) := if_pos h
@[simp] theorem isNonD_e (x : D) : isNonD [x, .non] = some (.bl (isNon x)) := by cases x <;> rfl
@[simp] theorem notNonD_e (x : D) : notNonD [x, .non] = some (.bl (!isNon x)) := by cases x <;> rfl
@[simp] theorem isNon_non : isNon .non = true := nrfl rfl
@[simp] theorem isNon_int (i : Int) : isNon (.int i) = false := nrfl rfl
@[simp] theorem isNon_bl (i : Bool) : isNon (.bl i) = false := nrfl rfl
@[simp] theorem isNon_str (i : Str) : isNon (.str i) = false := nrfl rfl
@[simp] theorem isNon_tup (i : List D) : isNon (.tup i) = false := nrfl rfl
@[simp] theorem isNon_lst (o : Bool) (i : List D) : isNon (.lst o i) = false := nrfl rfl
@[simp] theorem truD_bl (b : Bool) : truD (.bl b) = some b := nrfl rfl
@[simp] theorem truD_int (i : Int) : truD (.int i) = some (i != 0) := nrfl rfl
@[simp] theorem truD_non : truD .non = some false := nrfl rfl
@[simp] theorem truD_tup (xs : List D) : truD (.tup xs) = some (!xs.isEmpty) := nrfl rfl
@[simp] theorem truD_lst (o : Bool) (xs : List D) : truD (.lst o xs) = some (!xs.isEmpty) := nrfl rfl
/-! places in a list -/
theorem ixN_nn {n : Nat} {i : Int} (h : 0 ≤ i) (h2 : i < n) : ixN n i = some i.toNat := by unfold ixN; rw [if_pos h, if_pos h2]
theorem ixN_neg {n : Nat} {i : Int} (h : i < 0) (h2 : -(n : Int) ≤ i) : ixN n i = some (i + n).toNat := by unfold ixN; rw [if_neg (by omega), if_pos h2]
theorem ixN_nat {n k : Nat} (h2 : k < n) : ixN n (k : Int) = some k := by rw [ixN_nn (by omega) (by omega)]; simp
theorem atI_nn {α : Type} {xs : List α} {i : Int} (h : 0 ≤ i) (h2 : i < xs.length) : atI xs i = some (xs[i.toNat]'(by omega)) := by
  unfold atI
  rw [ixN_nn h h2]
  simp only [Option.bind_some]
  exact List.getElem?_eq_getElem _
theorem atI_nat {α : Type} {xs : List α} {k : Nat} {x : α} (h : xs[k]? = some x) : atI xs (k : Int) = some x := by
  unfold atI
  rw [ixN_nat (List.getElem?_eq_some_iff.mp h).1]
  exact h
theorem atI_neg {α : Type} {xs : List α} {i : Int} {x : α} (h : i < 0) (h2 : -(xs.length : Int) ≤ i) (e : xs[(i + xs.length).toNat]? = some x) : atI xs i = some x := by
  unfold atI
  rw [ixN_neg h h2]
  exact e
theorem atI_map {α β : Type} (f : α → β) (xs : List α) (i : Int) : atI (xs.map f) i = (atI xs i).map f := by
  unfold atI
  rw [List.length_map]
  cases ixN xs.length i with
  | none => rfl
  | some j => simp
@[simp] theorem atI_0 {α : Type} (x : α) (xs : List α) : atI (x :: xs) 0 = some x := atI_nat (k := 0) rfl
@[simp] theorem atI_1 {α : Type} (x y : α) (xs : List α) : atI (x :: y :: xs) 1 = some y := atI_nat (k := 1) rfl
@[simp] theorem atI_2 {α : Type} (x y z : α) (xs : List α) : atI (x :: y :: z :: xs) 2 = some z := atI_nat (k := 2) rfl
@[simp] theorem ixN_0 (n : Nat) : ixN (n + 1) 0 = some 0 := ixN_nat (k := 0) (by omega)
@[simp] theorem ixN_1 (n : Nat) : ixN (n + 1 + 1) 1 = some 1 := ixN_nat (k := 1) (by omega)
@[simp] theorem ixN_2 (n : Nat) : ixN (n + 1 + 1 + 1) 2 = some 2 := ixN_nat (k := 2) (by omega)
def ownK : D → Option D := fun d => gb (noOwn d) (some d)
@[simp] theorem ownK_e (d : D) : ownK d = gb (noOwn d) (some d) := nrfl rfl
theorem ownK_of : (fun d : D => if noOwn d = true then some d else none) = ownK := by
  funext d; exact (gb_ite (p := noOwn d = true) _).trans (by simp)
@[simp] theorem ixD_l (o : Bool) (xs : List D) (i : Int) : ixD [.lst o xs, .int i] = bd (atI xs i) ownK := by
  show (atI xs i).bind _ = _; rw [ownK_of]; rfl
@[simp] theorem ixD_t (xs : List D) (i : Int) : ixD [.tup xs, .int i] = bd (atI xs i) ownK := by
  show (atI xs i).bind _ = _; rw [ownK_of]; rfl
def intK : Int → Option D := fun d => some (.int d)
@[simp] theorem intK_e (d : Int) : intK d = some (.int d) := nrfl rfl
@[simp] theorem ixD_s (xs : List Int) (i : Int) : ixD [.scr xs, .int i] = bd (atI xs i) intK := nrfl rfl
/-! equality -/
@[simp] theorem eqOk_int (i : Int) : eqOk (.int i) = true := nrfl rfl
@[simp] theorem eqOk_bl (i : Bool) : eqOk (.bl i) = true := nrfl rfl
@[simp] theorem eqOk_non : eqOk .non = true := nrfl rfl
@[simp] theorem eqD_e (x y : D) : eqD [x, y] = gb (eqOk x && eqOk y) (some (.bl (deq x y))) := by
  show (if _ then _ else _) = _
  rw [gb_ite]; simp
@[simp] theorem neD_e (x y : D) : neD [x, y] = gb (eqOk x && eqOk y) (some (.bl (!deq x y))) := by
  show (if _ then _ else _) = _
  rw [gb_ite]; simp
@[simp] theorem deq_int (i j : Int) : deq (.int i) (.int j) = decide (i = j) := by
  unfold deq pyD PyData.eqv
  by_cases h : i = j <;> simp [h]
@[simp] theorem deq_bl (i j : Bool) : deq (.bl i) (.bl j) = (i == j) := by
  unfold deq pyD PyData.eqv; rfl
/-! the lists' methods -/
theorem appD_e {xs : List D} (d : D) (h : xs.length < 100000) : appD xs [d] = some (.non, xs ++ [d]) := if_pos h
theorem popD_e (xs : List D) (d : D) : popD (xs ++ [d]) [] = some (d, xs) := by
  unfold popD
  simp [List.eraseIdx_append_of_length_le]
theorem popAtD_e {xs : List D} {i : Int} {d : D} (h : 0 ≤ i) (h1 : i < 1000000000) (h2 : xs[i.toNat]? = some d) : popAtD xs [.int i] = some (d, xs.eraseIdx i.toNat) := by
  have hl := (List.getElem?_eq_some_iff.mp h2).1
  show (if _ then _ else _) = _
  rw [if_pos ⟨by omega, h1⟩, ixN_nn h (by omega)]
  simp [h2]
/-! ranges -/
theorem rng1D_e {j : Int} (h1 : -4611686018427387904 ≤ j) (h2 : j < 4611686018427387904) : rng1D [.int j] = some (intsTo 0 j.toNat) := if_pos ⟨h1, h2⟩
theorem rng2D_e {i j : Int} (h1 : -4611686018427387904 ≤ i) (h2 : i < 4611686018427387904) (h3 : -4611686018427387904 ≤ j) (h4 : j < 4611686018427387904) : rng2D [.int i, .int j] = some (intsTo i (j - i).toNat) := if_pos ⟨h1, h2, h3, h4⟩
theorem rng3D_e {i j : Int} (h1 : -4611686018427387904 ≤ i) (h2 : i < 4611686018427387904) (h3 : -4611686018427387904 ≤ j) (h4 : j < 4611686018427387904) : rng3D [.int i, .int j, .int (-1)] = some (intsBy i (-1) (i - j).toNat) := if_pos ⟨rfl, h1, h2, h3, h4⟩
def lrgK : List D → Option D := fun xs => gb (decide (xs.length ≤ smallL)) (some (.lst true xs))
theorem lrgK_e {xs : List D} (h : xs.length ≤ 100000) : lrgK xs = some (.lst true xs) := by
  unfold lrgK; rw [gb_of]; exact decide_eq_true h
@[simp] theorem lrgD_e (rd : List D → Option (List D)) (ds : List D) : lrgD rd ds = bd (rd ds) lrgK := by
  unfold lrgD bd lrgK; congr 1; funext xs; exact gb_ite _
theorem intsTo_map (n : Nat) : intsTo 0 n = (List.range n).map fun i => D.int (i : Nat) := by
  unfold intsTo; simp
theorem len_intsTo (i : Int) (n : Nat) : (intsTo i n).length = n := by unfold intsTo; simp
theorem len_intsBy (i c : Int) (n : Nat) : (intsBy i c n).length = n := by unfold intsBy; simp
theorem noOwns_intsTo (i : Int) (n : Nat) : noOwns (intsTo i n) = true := noOwns_map (fun _ => by simp) _
theorem noOwns_intsBy (i c : Int) (n : Nat) : noOwns (intsBy i c n) = true := noOwns_map (fun _ => by simp) _
/-! what is gone through -/
@[simp] theorem seqD_l (o : Bool) (xs : List D) : seqD (.lst o xs) = some (freezes xs) := nrfl rfl
@[simp] theorem seqD_t (xs : List D) : seqD (.tup xs) = some (freezes xs) := nrfl rfl
def seqK : D × Env → Option (List D × Env) := fun p => bd (seqD p.1) fun xs => some (xs, p.2)
def withK (ρ : Env) : List D → Option (List D × Env) := fun xs => some (xs, ρ)
@[simp] theorem withK_e (ρ : Env) (xs : List D) : withK ρ xs = some (xs, ρ) := nrfl rfl
@[simp] theorem seqK_e (d : D) (ρ : Env) : seqK (d, ρ) = bd (seqD d) (withK ρ) := nrfl rfl
@[simp] theorem itSeq_e (f : FE) (ρ : Env) : itSeq f ρ = bd (f ρ) seqK := nrfl rfl
def enumL (xs : List D) : List D := ((intsTo 0 xs.length).zip xs).map fun q => .tup [q.1, q.2]
def enK2 (ρ : Env) : List D → Option (List D × Env) := fun xs => some (enumL xs, ρ)
@[simp] theorem enK2_e (ρ : Env) (xs : List D) : enK2 ρ xs = some (enumL xs, ρ) := nrfl rfl
def enK : D × Env → Option (List D × Env) := fun p => bd (seqD p.1) (enK2 p.2)
@[simp] theorem enK_e (d : D) (ρ : Env) : enK (d, ρ) = bd (seqD d) (enK2 ρ) := nrfl rfl
@[simp] theorem itEnum_e (f : FE) (ρ : Env) : itEnum f ρ = bd (f ρ) enK := nrfl rfl
def rgK2 (rd : List D → Option (List D)) (ρ : Env) : List D → Option (List D × Env) := fun ds => bd (rd ds) (withK ρ)
@[simp] theorem rgK2_e (rd : List D → Option (List D)) (ρ : Env) (ds : List D) : rgK2 rd ρ ds = bd (rd ds) (withK ρ) := nrfl rfl
def rgK (rd : List D → Option (List D)) (ops : List Op) : List (Option D) × Env → Option (List D × Env) := fun p => bd (fetch ops p.1 p.2) (rgK2 rd p.2)
@[simp] theorem rgK_e (rd : List D → Option (List D)) (ops : List Op) (ts : List (Option D)) (ρ : Env) : rgK rd ops (ts, ρ) = bd (fetch ops ts ρ) (rgK2 rd ρ) := nrfl rfl
@[simp] theorem itRg_e (rd : List D → Option (List D)) (ops : List Op) (ρ : Env) : itRg rd ops ρ = bd (evOps ops ρ) (rgK rd ops) := nrfl rfl
def zipL (xs ys : List D) : List D := (xs.zip ys).map fun u => .tup [u.1, u.2]
def ziK3 (ρ : Env) : List D × List D → Option (List D × Env) := fun r => some (zipL r.1 r.2, ρ)
@[simp] theorem ziK3_e (ρ : Env) (xs ys : List D) : ziK3 ρ (xs, ys) = some (zipL xs ys, ρ) := nrfl rfl
def ziK2 (d : D) : D × Env → Option (List D × Env) := fun q => bd (pairD d q.1) (ziK3 q.2)
@[simp] theorem ziK2_e (d e : D) (ρ : Env) : ziK2 d (e, ρ) = bd (pairD d e) (ziK3 ρ) := nrfl rfl
def ziK (g : FE) : D × Env → Option (List D × Env) := fun p => bd (g p.2) (ziK2 p.1)
@[simp] theorem ziK_e (g : FE) (d : D) (ρ : Env) : ziK g (d, ρ) = bd (g ρ) (ziK2 d) := nrfl rfl
@[simp] theorem itZip_e (f g : FE) (ρ : Env) : itZip f g ρ = bd (f ρ) (ziK g) := nrfl rfl
@[simp] theorem pairD_l (o o' : Bool) (xs ys : List D) : pairD (.lst o xs) (.lst o' ys) = some (freezes xs, freezes ys) := nrfl rfl
@[simp] theorem pairD_t (xs ys : List D) : pairD (.tup xs) (.tup ys) = some (freezes xs, freezes ys) := nrfl rfl
/-! loops -/
def goForK (tg : D → Env → Option Env) (body : FS) : List D × Env → Option Out := fun p => goFor tg body p.1 p.2
@[simp] theorem goForK_e (tg : D → Env → Option Env) (body : FS) (ds : List D) (ρ : Env) : goForK tg body (ds, ρ) = goFor tg body ds ρ := nrfl rfl
@[simp] theorem forF_e (it : FI) (tg : D → Env → Option Env) (body : FS) (ρ : Env) : forF it tg body ρ = bd (it ρ) (goForK tg body) := nrfl rfl
@[simp] theorem whF_e (n : Nat) (c : FB) (body : FS) (ρ : Env) : whF n c body ρ = goWhile c body n ρ := nrfl rfl
@[simp] theorem goFor_nil (tg : D → Env → Option Env) (body : FS) (ρ : Env) : goFor tg body [] ρ = some (.nx ρ) := nrfl rfl
def loopK (k : Env → Option Out) : Out → Option Out
  | .nx ρ2 => k ρ2
  | .ct ρ2 => k ρ2
  | .bk ρ2 => some (.nx ρ2)
  | .rt d ρ2 => some (.rt d ρ2)
  | .rz n d ρ2 => some (.rz n d ρ2)
@[simp] theorem loopK_rz (k : Env → Option Out) (n : Str) (d : D) (ρ : Env) : loopK k (.rz n d ρ) = some (.rz n d ρ) := nrfl rfl
@[simp] theorem loopK_nx (k : Env → Option Out) (ρ : Env) : loopK k (.nx ρ) = k ρ := nrfl rfl
@[simp] theorem loopK_ct (k : Env → Option Out) (ρ : Env) : loopK k (.ct ρ) = k ρ := nrfl rfl
@[simp] theorem loopK_bk (k : Env → Option Out) (ρ : Env) : loopK k (.bk ρ) = some (.nx ρ) := nrfl rfl
@[simp] theorem loopK_rt (k : Env → Option Out) (d : D) (ρ : Env) : loopK k (.rt d ρ) = some (.rt d ρ) := nrfl rfl
/-- one turn: the target stored, the body -/
def turn (tg : D → Env → Option Env) (body : FS) (d : D) (ρ : Env) : Option Out := bd (tg d ρ) body
theorem turn_e (tg : D → Env → Option Env) (body : FS) (d : D) (ρ : Env) : turn tg body d ρ = bd (tg d ρ) body := rfl
theorem goFor_cons (tg : D → Env → Option Env) (body : FS) (d : D) (ds : List D) (ρ : Env) : goFor tg body (d :: ds) ρ = bd (turn tg body d ρ) (loopK (goFor tg body ds)) := by
  unfold turn bd
  show (tg d ρ).bind _ = _
  cases tg d ρ with
  | none => rfl
  | some ρ1 =>
    show (body ρ1).bind _ = (body ρ1).bind _
    rfl
/-- a loop that goes through all: what holds in front of each turn -/
theorem for_inv {tg : D → Env → Option Env} {body : FS} (I : Nat → Env → Prop) {ds : List D} {ρ : Env} (h0 : I 0 ρ)
    (hs : ∀ i d ρ, ds[i]? = some d → I i ρ → ∃ ρ2, (turn tg body d ρ = some (.nx ρ2) ∨ turn tg body d ρ = some (.ct ρ2)) ∧ I (i + 1) ρ2) : ∃ ρ', goFor tg body ds ρ = some (.nx ρ') ∧ I ds.length ρ' := by
  induction ds generalizing ρ I with
  | nil => exact ⟨ρ, rfl, h0⟩
  | cons d ds ih =>
    obtain ⟨ρ2, h, i2⟩ := hs 0 d ρ rfl h0
    obtain ⟨ρ', h', i'⟩ := ih (fun i => I (i + 1)) i2 fun i d ρ e j => hs (i + 1) d ρ e j
    refine ⟨ρ', ?_, i'⟩
    rw [goFor_cons]
    rcases h with h | h <;> rw [h] <;> exact h'
/-- a comprehension: each turn gives one thing -/
def lcK2 : List D × Env → Option (D × Env) := fun q => gb (decide (q.1.length ≤ smallL)) (some (.lst true q.1, q.2))
@[simp] theorem lcK2_e (xs : List D) (ρ : Env) : lcK2 (xs, ρ) = gb (decide (xs.length ≤ smallL)) (some (.lst true xs, ρ)) := nrfl rfl
def lcK (vs : List Nat) (fg : D → Env → Option Env) (ft : FB) (fe : FE) : List D × Env → Option (D × Env) := fun p => bd (goLc vs fg ft fe p.1 (wipeD p.2 vs)) lcK2
@[simp] theorem lcK_e (vs : List Nat) (fg : D → Env → Option Env) (ft : FB) (fe : FE) (ds : List D) (ρ : Env) : lcK vs fg ft fe (ds, ρ) = bd (goLc vs fg ft fe ds (wipeD ρ vs)) lcK2 := nrfl rfl
@[simp] theorem lcF_e (vs : List Nat) (fi : FI) (fg : D → Env → Option Env) (ft : FB) (fe : FE) (ρ : Env) : lcF vs fi fg ft fe ρ = bd (fi ρ) (lcK vs fg ft fe) := by
  unfold lcF lcK lcK2 bd; congr 1; funext p; congr 1; funext q; exact gb_ite _
@[simp] theorem wipeD_n (ρ : Env) : wipeD ρ [] = ρ := nrfl rfl
@[simp] theorem wipeD_c (ρ : Env) (v : Nat) (vs : List Nat) : wipeD ρ (v :: vs) = (wipeD ρ vs).set v none := nrfl rfl
/-- one turn of a comprehension without if -/
def lcTurn (vs : List Nat) (fg : D → Env → Option Env) (fe : FE) (d : D) (ρ : Env) : Option (D × Env) := bd (bd (fg d ρ) fe) fun q => some (q.1, wipeD q.2 vs)
def wipeK (vs : List Nat) : D × Env → Option (D × Env) := fun q => some (q.1, wipeD q.2 vs)
@[simp] theorem wipeK_e (vs : List Nat) (d : D) (ρ : Env) : wipeK vs (d, ρ) = some (d, wipeD ρ vs) := nrfl rfl
theorem lcTurn_e (vs : List Nat) (fg : D → Env → Option Env) (fe : FE) (d : D) (ρ : Env) : lcTurn vs fg fe d ρ = bd (bd (fg d ρ) fe) (wipeK vs) := rfl
theorem goLc_map {vs : List Nat} {fg : D → Env → Option Env} {fe : FE} {ρ : Env} (e : D → D) : ∀ {ds : List D}, (∀ d ∈ ds, lcTurn vs fg fe d ρ = some (e d, ρ)) → goLc vs fg yesF fe ds ρ = some (ds.map e, ρ)
  | [], _ => rfl
  | d :: ds, h => by
    have h1 := h d (by simp)
    unfold lcTurn bd at h1
    show (fg d ρ).bind _ = _
    cases hg : fg d ρ with
    | none => rw [hg] at h1; cases h1
    | some ρ1 =>
      rw [hg] at h1
      simp only [Option.bind_some] at h1 ⊢
      show ((some (true, ρ1) : Option (Bool × Env)).bind _) = _
      simp only [Option.bind_some, if_true]
      cases hf : fe ρ1 with
      | none => rw [hf] at h1; cases h1
      | some q =>
        rw [hf] at h1
        simp only [Option.bind_some, Option.some.injEq, Prod.mk.injEq] at h1 ⊢
        rw [h1.2, goLc_map (ds := ds) e fun d hd => h d (by simp [hd])]
        simp [h1.1]
end VS
set_option Elab.async false
set_option linter.all false
set_option maxRecDepth 100000
namespace VS
open PySem PySem.Spec PyProof.Rows L2 RZ
@[simp] theorem isL_e (o : Bool) (xs : List D) : isL (some (.lst o xs)) = true := nrfl rfl
@[simp] theorem methF_e (i : Nat) (g : List D → Option D) (ops : List Op) (ρ : Env) : methF i g ops ρ = gb (isL (getS ρ i)) (bd (evOps (.b i :: ops) ρ) (opK g (.b i :: ops))) := by
  unfold methF gb
  rw [opF_e]
def chK5 (p' : Int → Int → Bool) (j : Int) (ρ : Env) : Int → Option (D × Env) := fun m => some (.bl (p' j m), ρ)
@[simp] theorem chK5_e (p' : Int → Int → Bool) (j : Int) (ρ : Env) (m : Int) : chK5 p' j ρ m = some (.bl (p' j m), ρ) := nrfl rfl
def chK4 (p' : Int → Int → Bool) (j : Int) (ρ : Env) : List D → Option (D × Env) := fun es => bd (int1 es) (chK5 p' j ρ)
@[simp] theorem chK4_e (p' : Int → Int → Bool) (j : Int) (ρ : Env) (m : Int) : chK4 p' j ρ [.int m] = some (.bl (p' j m), ρ) := nrfl rfl
def chK3 (p' : Int → Int → Bool) (o3 : Op) (j : Int) : List (Option D) × Env → Option (D × Env) := fun P => bd (fetch [o3] P.1 P.2) (chK4 p' j P.2)
@[simp] theorem chK3_e (p' : Int → Int → Bool) (o3 : Op) (j : Int) (ts : List (Option D)) (ρ : Env) : chK3 p' o3 j (ts, ρ) = bd (fetch [o3] ts ρ) (chK4 p' j ρ) := nrfl rfl
def chT (p' : Int → Int → Bool) (o3 : Op) (j : Int) : Env → Option (D × Env) := fun ρ => bd (evOps [o3] ρ) (chK3 p' o3 j)
@[simp] theorem chT_e (p' : Int → Int → Bool) (o3 : Op) (j : Int) (ρ : Env) : chT p' o3 j ρ = bd (evOps [o3] ρ) (chK3 p' o3 j) := nrfl rfl
def chK2 (p p' : Int → Int → Bool) (o3 : Op) (ρ : Env) : List D → Option (D × Env) := fun ds => bd (int2 ds) fun ij => ift (p ij.1 ij.2) (chT p' o3 ij.2) (bvK false) ρ
@[simp] theorem chK2_e (p p' : Int → Int → Bool) (o3 : Op) (ρ : Env) (i j : Int) : chK2 p p' o3 ρ [.int i, .int j] = ift (p i j) (chT p' o3 j) (bvK false) ρ := nrfl rfl
def chK1 (p p' : Int → Int → Bool) (o1 o2 o3 : Op) : List (Option D) × Env → Option (D × Env) := fun P => bd (fetch [o1, o2] P.1 P.2) (chK2 p p' o3 P.2)
@[simp] theorem chK1_e (p p' : Int → Int → Bool) (o1 o2 o3 : Op) (ts : List (Option D)) (ρ : Env) : chK1 p p' o1 o2 o3 (ts, ρ) = bd (fetch [o1, o2] ts ρ) (chK2 p p' o3 ρ) := nrfl rfl
@[simp] theorem chainF_e (p p' : Int → Int → Bool) (o1 o2 o3 : Op) (ρ : Env) : chainF p p' o1 o2 o3 ρ = bd (evOps [o1, o2] ρ) (chK1 p p' o1 o2 o3) := nrfl rfl
theorem sumD_e (o : Bool) (ns : List Int) : sumD [.lst o (ns.map .int)] = some (.int ns.sum) := by
  show (intsOf _).bind _ = _; rw [intsOf_map]; rfl
theorem allD_e (o : Bool) (ns : List Bool) : allD [.lst o (ns.map .bl)] = some (.bl (ns.all id)) := by
  show (blsOf _).bind _ = _; rw [blsOf_map]; rfl
theorem anyD_e (o : Bool) (ns : List Bool) : anyD [.lst o (ns.map .bl)] = some (.bl (ns.any id)) := by
  show (blsOf _).bind _ = _; rw [blsOf_map]; rfl
theorem sortedID_e (o : Bool) (ns : List Int) : sortedID [.lst o (ns.map .int)] = some (.lst true ((sortI ns).map .int)) := by
  show (intsOf _).bind _ = _; rw [intsOf_map]; rfl
theorem clrD_e {xs : List D} (h : noOwns xs = true) : clrD xs [] = some (.non, []) := if_pos h
theorem indexD_e {o : Bool} {xs : List D} {d : D} {j : Nat} (h1 : eqOk d = true) (h2 : eqOk (.lst o xs) = true) (h3 : xs.findIdx? (fun z => deq z d) = some j) : indexD [.lst o xs, d] = some (.int (j : Nat)) := by
  show (if _ then _ else _) = _
  rw [if_pos ⟨h1, h2⟩, h3]; rfl
@[simp] theorem isBlD_e (a b : Bool) : isBlD [.bl a, .bl b] = some (.bl (decide (a = b))) := nrfl rfl
@[simp] theorem notBlD_e (a b : Bool) : notBlD [.bl a, .bl b] = some (.bl (!decide (a = b))) := nrfl rfl
end VS
set_option Elab.async false
set_option linter.all false
set_option maxRecDepth 100000
namespace VS
open PySem PySem.Spec PyProof.Rows L2 RZ
def neElK2 (ρ : Env) : Option D → Option (D × Env)
  | some (.lst true ys) => gb (eqOk (.lst true ys)) (some (.bl (!deq (.lst true ys) (.lst true [])), ρ))
  | _ => none
@[simp] theorem neElK2_e (ρ : Env) (ys : List D) : neElK2 ρ (some (.lst true ys)) = gb (eqOk (.lst true ys)) (some (.bl (!deq (.lst true ys) (.lst true [])), ρ)) := nrfl rfl
def neElK (j : Nat) (ρ : Env) : Option D → Option (D × Env)
  | some (.lst true xs) => neElK2 ρ (xs[j]?)
  | _ => none
@[simp] theorem neElK_e (j : Nat) (ρ : Env) (xs : List D) : neElK j ρ (some (.lst true xs)) = neElK2 ρ (xs[j]?) := nrfl rfl
@[simp] theorem neElF_e (i j : Nat) (ρ : Env) : neElF i j ρ = neElK j ρ (getS ρ i) := by
  unfold neElF
  cases getS ρ i with
  | none => rfl
  | some d =>
    cases d with
    | lst o xs =>
      cases o with
      | false => rfl
      | true =>
        rw [neElK_e]
        show (match xs[j]? with
          | some (.lst true ys) => if eqOk (.lst true ys) = true then some (D.bl (!deq (.lst true ys) (.lst true [])), ρ) else none
          | _ => none) = _
        cases xs[j]? with
        | none => rfl
        | some d =>
          cases d with
          | lst o ys =>
            cases o with
            | false => rfl
            | true => exact (gb_ite (p := eqOk (.lst true ys) = true) _).trans (by simp)
          | _ => rfl
    | _ => rfl
def popElK3 (i j : Nat) (xs : List D) (ρ : Env) : D × List D → Option (D × Env) := fun q => some (q.1, ρ.set i (some (.lst true (xs.set j (.lst true q.2)))))
@[simp] theorem popElK3_e (i j : Nat) (xs : List D) (ρ : Env) (d : D) (ys : List D) : popElK3 i j xs ρ (d, ys) = some (d, ρ.set i (some (.lst true (xs.set j (.lst true ys))))) := nrfl rfl
def popElK2 (i j : Nat) (xs : List D) (ρ : Env) : Option D → Option (D × Env)
  | some (.lst true ys) => gb (noOwns ys) (bd (popD ys []) (popElK3 i j xs ρ))
  | _ => none
@[simp] theorem popElK2_e (i j : Nat) (xs : List D) (ρ : Env) (ys : List D) : popElK2 i j xs ρ (some (.lst true ys)) = gb (noOwns ys) (bd (popD ys []) (popElK3 i j xs ρ)) := nrfl rfl
def popElK (i j : Nat) (ρ : Env) : Option D → Option (D × Env)
  | some (.lst true xs) => popElK2 i j xs ρ (xs[j]?)
  | _ => none
@[simp] theorem popElK_e (i j : Nat) (ρ : Env) (xs : List D) : popElK i j ρ (some (.lst true xs)) = popElK2 i j xs ρ (xs[j]?) := nrfl rfl
@[simp] theorem popElF_e (i j : Nat) (ρ : Env) : popElF i j ρ = popElK i j ρ (getS ρ i) := by
  unfold popElF
  cases getS ρ i with
  | none => rfl
  | some d =>
    cases d with
    | lst o xs =>
      cases o with
      | false => rfl
      | true =>
        rw [popElK_e]
        show (match xs[j]? with
          | some (.lst true ys) => if noOwns ys = true then (popD ys []).bind fun q => some (q.1, ρ.set i (some (.lst true (xs.set j (.lst true q.2))))) else none
          | _ => none) = _
        cases xs[j]? with
        | none => rfl
        | some d =>
          cases d with
          | lst o ys =>
            cases o with
            | false => rfl
            | true => exact (gb_ite (p := noOwns ys = true) _).trans (by simp; rfl)
          | _ => rfl
    | _ => rfl
@[simp] theorem isBvD_b (a b : Bool) : isBvD [.bl a, .bl b] = some (.bl (decide (a = b))) := nrfl rfl
@[simp] theorem isBvD_i (a : Int) (b : Bool) : isBvD [.int a, .bl b] = some (.bl false) := nrfl rfl
@[simp] theorem isBvD_n (b : Bool) : isBvD [.non, .bl b] = some (.bl false) := nrfl rfl
@[simp] theorem notBvD_b (a b : Bool) : notBvD [.bl a, .bl b] = some (.bl (!decide (a = b))) := nrfl rfl
@[simp] theorem notBvD_i (a : Int) (b : Bool) : notBvD [.int a, .bl b] = some (.bl true) := nrfl rfl
@[simp] theorem notBvD_n (b : Bool) : notBvD [.non, .bl b] = some (.bl true) := nrfl rfl
theorem combD_e {a b : Int} (h1 : 0 ≤ a) (h2 : 0 ≤ b) (h3 : a ≤ 18000) : combD [.int a, .int b] = some (.int (PySem.W.mcComb a b)) := if_pos ⟨h1, h2, h3⟩
end VS
set_option Elab.async false
set_option linter.all false
set_option maxRecDepth 100000
namespace VS
open PySem PySem.Spec PyProof.Rows L2 RZ
@[simp] theorem flat1_bl (b : Bool) : flat1 (.bl b) = true := nrfl rfl
@[simp] theorem flat1_int (i : Int) : flat1 (.int i) = true := nrfl rfl
@[simp] theorem flat1_non : flat1 .non = true := nrfl rfl
def rdK3 (ρ : Env) : D × List (Option D) → Option (D × Env) := fun q => gb (flat1 q.1) (some (q.1, ρ))
@[simp] theorem rdK3_e (ρ : Env) (d : D) (os : List (Option D)) : rdK3 ρ (d, os) = gb (flat1 d) (some (d, ρ)) := nrfl rfl
def rdK2 (fn : Fn) (ρ : Env) : List D → Option (D × Env) := fun ds => bd (fn.sem (freezes ds)) (rdK3 ρ)
@[simp] theorem rdK2_e (fn : Fn) (ρ : Env) (ds : List D) : rdK2 fn ρ ds = bd (fn.sem (freezes ds)) (rdK3 ρ) := nrfl rfl
def rdK1 (fn : Fn) (ops : List Op) : List (Option D) × Env → Option (D × Env) := fun p => bd (fetch ops p.1 p.2) (rdK2 fn p.2)
@[simp] theorem rdK1_e (fn : Fn) (ops : List Op) (ts : List (Option D)) (ρ : Env) : rdK1 fn ops (ts, ρ) = bd (fetch ops ts ρ) (rdK2 fn ρ) := nrfl rfl
@[simp] theorem callRdF_e (fn : Fn) (ops : List Op) (ρ : Env) : callRdF fn ops ρ = bd (evOps ops ρ) (rdK1 fn ops) := by
  unfold callRdF bd
  congr 1
def cntK2 (k : Int) (ρ : Env) : List Int → Option (D × Env) := fun ns => some (.int (ns.count k : Nat), ρ)
@[simp] theorem cntK2_e (k : Int) (ρ : Env) (ns : List Int) : cntK2 k ρ ns = some (.int (ns.count k : Nat), ρ) := nrfl rfl
def cntK (k : Int) : D × Env → Option (D × Env) := fun p => match p.1 with
  | .lst _ xs => bd (intsOf xs) (cntK2 k p.2)
  | _ => none
@[simp] theorem cntK_e (k : Int) (o : Bool) (xs : List D) (ρ : Env) : cntK k (.lst o xs, ρ) = bd (intsOf xs) (cntK2 k ρ) := nrfl rfl
@[simp] theorem countF_e (k : Int) (f : FE) (ρ : Env) : countF k f ρ = bd (f ρ) (cntK k) := nrfl rfl
def elK2 (i j k : Nat) (xs : List D) (d : D) (ρ : Env) : Option D → Option Env
  | some (.lst true ys) => gb (noOwns ys && (noOwn d && decide (k < ys.length))) (some (ρ.set i (some (.lst true (xs.set j (.lst true (ys.set k d)))))))
  | _ => none
@[simp] theorem elK2_e (i j k : Nat) (xs : List D) (d : D) (ρ : Env) (ys : List D) : elK2 i j k xs d ρ (some (.lst true ys)) = gb (noOwns ys && (noOwn d && decide (k < ys.length))) (some (ρ.set i (some (.lst true (xs.set j (.lst true (ys.set k d))))))) := nrfl rfl
def elK (i j k : Nat) (d : D) (ρ : Env) : Option D → Option Env
  | some (.lst true xs) => elK2 i j k xs d ρ (xs[j]?)
  | _ => none
@[simp] theorem elK_e (i j k : Nat) (d : D) (ρ : Env) (xs : List D) : elK i j k d ρ (some (.lst true xs)) = elK2 i j k xs d ρ (xs[j]?) := nrfl rfl
@[simp] theorem tgElF_e (i j k : Nat) (d : D) (ρ : Env) : tgElF i j k d ρ = elK i j k d ρ (getS ρ i) := by
  unfold tgElF
  cases getS ρ i with
  | none => rfl
  | some d0 =>
    cases d0 with
    | lst o xs =>
      cases o with
      | false => rfl
      | true =>
        rw [elK_e]
        show (match xs[j]? with
          | some (.lst true ys) => if noOwns ys = true ∧ noOwn d = true ∧ k < ys.length then some (ρ.set i (some (.lst true (xs.set j (.lst true (ys.set k d)))))) else none
          | _ => none) = _
        cases xs[j]? with
        | none => rfl
        | some d1 =>
          cases d1 with
          | lst o ys =>
            cases o with
            | false => rfl
            | true => exact (gb_ite _).trans (by simp [Bool.decide_and])
          | _ => rfl
    | _ => rfl
theorem sumAD_l {o : Bool} {xs : List D} {ns : List Int} (h : intsOf xs = some ns) : sumAD [.lst o xs] = some (.int ns.sum) := by
  show (intsOf _).bind _ = _; rw [h]; rfl
theorem sumAD_t {xs : List D} {ns : List Int} (h : intsOf xs = some ns) : sumAD [.tup xs] = some (.int ns.sum) := by
  show (intsOf _).bind _ = _; rw [h]; rfl
end VS
set_option Elab.async false
set_option linter.all false
set_option maxRecDepth 100000
namespace VS
open PySem PySem.Spec PyProof.Rows L2 RZ
theorem revLD_e {o : Bool} {xs : List D} (h : noOwns xs = true) : revLD [.lst o xs] = some (.lst true xs.reverse) := by
  show (if noOwns xs = true then some (D.lst true xs.reverse) else none) = _
  rw [if_pos h]
theorem mulTD_e {xs : List D} {k : Nat} (h : noOwns xs = true) (h1 : xs ≠ []) (h2 : k ≤ 1000) (h3 : xs.length ≤ 1000) : mulTD [.tup xs, .int (k : Nat)] = some (.tup (List.replicate k xs).flatten) := by
  show (if _ then some (D.tup (List.replicate ((k : Nat) : Int).toNat xs).flatten) else none) = _
  rw [if_pos ⟨h, h1, by omega, by omega, h3⟩, Int.toNat_natCast]
end VS
set_option Elab.async false
set_option linter.all false
set_option maxRecDepth 100000
namespace VS
open PySem PySem.Spec PyProof.Rows L2 RZ
theorem minTD_e {a b c d : Int} (h : ¬ a = c) : minTD [.tup [.int a, .int b], .tup [.int c, .int d]] = some (if c < a then .tup [.int c, .int d] else .tup [.int a, .int b]) := by
  have e : minTD [.tup [.int a, .int b], .tup [.int c, .int d]] = some (if HT.lexLt [c, d] [a, b] = true then .tup [.int c, .int d] else .tup [.int a, .int b]) := rfl
  have e2 : HT.lexLt [c, d] [a, b] = decide (c < a) := by
    rw [HT.lexLt_cons]
    exact if_neg fun e => h e.symm
  rw [e, e2]
  by_cases x : c < a <;> simp [x]
end VS
set_option Elab.async false
set_option linter.all false
set_option maxRecDepth 100000
namespace VS
open PySem PySem.Spec PyProof.Rows L2 RZ
def asg2K3 : Env → Option Out := fun ρ => some (.nx ρ)
@[simp] theorem asg2K3_e (ρ : Env) : asg2K3 ρ = some (.nx ρ) := nrfl rfl
def asg2K2 (g2 : D → Env → Option Env) (d : D) : Env → Option Out := fun ρ => bd (g2 d ρ) asg2K3
@[simp] theorem asg2K2_e (g2 : D → Env → Option Env) (d : D) (ρ : Env) : asg2K2 g2 d ρ = bd (g2 d ρ) asg2K3 := nrfl rfl
def asg2K (g1 g2 : D → Env → Option Env) : D × Env → Option Out := fun p => gb (noOwn p.1) (bd (g1 p.1 p.2) (asg2K2 g2 p.1))
@[simp] theorem asg2K_e (g1 g2 : D → Env → Option Env) (d : D) (ρ : Env) : asg2K g1 g2 (d, ρ) = gb (noOwn d) (bd (g1 d ρ) (asg2K2 g2 d)) := nrfl rfl
@[simp] theorem asg2F_e (f : FE) (g1 g2 : D → Env → Option Env) (ρ : Env) : asg2F f g1 g2 ρ = bd (f ρ) (asg2K g1 g2) := by
  unfold asg2F bd
  congr 1
theorem extD_e {xs zs : List D} {o : Bool} (h : noOwns zs = true) (h2 : xs.length + zs.length ≤ 100000) : extD xs [.lst o zs] = some (.non, xs ++ zs) := by
  have c : noOwns zs = true ∧ xs.length + zs.length ≤ smallL := ⟨h, h2⟩
  unfold extD
  simp only [if_pos c]
end VS
set_option Elab.async false
set_option linter.all false
set_option maxRecDepth 100000
namespace VS
open PySem PySem.Spec PyProof.Rows L2 RZ
def revK2 (ρ : Env) : List D → Option (List D × Env) := fun xs => some (xs.reverse, ρ)
@[simp] theorem revK2_e (ρ : Env) (xs : List D) : revK2 ρ xs = some (xs.reverse, ρ) := nrfl rfl
def revK : D × Env → Option (List D × Env) := fun p => bd (seqD p.1) (revK2 p.2)
@[simp] theorem revK_e (d : D) (ρ : Env) : revK (d, ρ) = bd (seqD d) (revK2 ρ) := nrfl rfl
@[simp] theorem itRev_e (f : FE) (ρ : Env) : itRev f ρ = bd (f ρ) revK := nrfl rfl
def elKi (i : Int) : D → Option (Int × Int)
  | .int a => some (i, a)
  | _ => none
@[simp] theorem elKi_e (i a : Int) : elKi i (.int a) = some (i, a) := nrfl rfl
@[simp] theorem elemI_e (i : Int) (xs : List D) : elemI [.int i] (some (.lst true xs)) = bd (atI xs i) (elKi i) := by
  unfold elemI bd
  dsimp only
  cases atI xs i with
  | none => rfl
  | some d => cases d <;> rfl
@[simp] theorem intA1_e (b : Int) : intA1 [.int b] = some b := nrfl rfl
def nxKe : Env → Option Out := fun ρ' => some (.nx ρ')
@[simp] theorem nxKe_e (ρ : Env) : nxKe ρ = some (.nx ρ) := nrfl rfl
def auS7 (k : Nat) (f : Int → Int → Int) (i a : Int) (ρ : Env) : Int → Option Out := fun b => bd (tgSub k (.t (litF (.int i))) (.int (f a b)) ρ) nxKe
@[simp] theorem auS7_e (k : Nat) (f : Int → Int → Int) (i a : Int) (ρ : Env) (b : Int) : auS7 k f i a ρ b = bd (tgSub k (.t (litF (.int i))) (.int (f a b)) ρ) nxKe := nrfl rfl
def auS6 (k : Nat) (f : Int → Int → Int) (i a : Int) (ρ : Env) : List D → Option Out := fun ds => bd (intA1 ds) (auS7 k f i a ρ)
@[simp] theorem auS6_e (k : Nat) (f : Int → Int → Int) (i a : Int) (ρ : Env) (ds : List D) : auS6 k f i a ρ ds = bd (intA1 ds) (auS7 k f i a ρ) := nrfl rfl
def auS5 (k : Nat) (f : Int → Int → Int) (o : Op) (i a : Int) : List (Option D) × Env → Option Out := fun p => bd (fetch [o] p.1 p.2) (auS6 k f i a p.2)
@[simp] theorem auS5_e (k : Nat) (f : Int → Int → Int) (o : Op) (i a : Int) (ts : List (Option D)) (ρ : Env) : auS5 k f o i a (ts, ρ) = bd (fetch [o] ts ρ) (auS6 k f i a ρ) := nrfl rfl
def auS4 (k : Nat) (f : Int → Int → Int) (o : Op) (ρ : Env) : Int × Int → Option Out := fun p => bd (evOps [o] ρ) (auS5 k f o p.1 p.2)
@[simp] theorem auS4_e (k : Nat) (f : Int → Int → Int) (o : Op) (ρ : Env) (i a : Int) : auS4 k f o ρ (i, a) = bd (evOps [o] ρ) (auS5 k f o i a) := nrfl rfl
def auS3 (k : Nat) (f : Int → Int → Int) (o : Op) (ρ : Env) : List D → Option Out := fun is => bd (elemI is (getS ρ k)) (auS4 k f o ρ)
@[simp] theorem auS3_e (k : Nat) (f : Int → Int → Int) (o : Op) (ρ : Env) (is : List D) : auS3 k f o ρ is = bd (elemI is (getS ρ k)) (auS4 k f o ρ) := nrfl rfl
def auS2 (k : Nat) (oi : Op) (f : Int → Int → Int) (o : Op) : List (Option D) × Env → Option Out := fun p => bd (fetch [oi] p.1 p.2) (auS3 k f o p.2)
@[simp] theorem auS2_e (k : Nat) (oi : Op) (f : Int → Int → Int) (o : Op) (ts : List (Option D)) (ρ : Env) : auS2 k oi f o (ts, ρ) = bd (fetch [oi] ts ρ) (auS3 k f o ρ) := nrfl rfl
def auS1 (k : Nat) (oi : Op) (f : Int → Int → Int) (o : Op) (ρ : Env) : D → Option Out := fun _ => bd (evOps [oi] ρ) (auS2 k oi f o)
@[simp] theorem auS1_e (k : Nat) (oi : Op) (f : Int → Int → Int) (o : Op) (ρ : Env) (d : D) : auS1 k oi f o ρ d = bd (evOps [oi] ρ) (auS2 k oi f o) := nrfl rfl
@[simp] theorem augSF_e (k : Nat) (oi : Op) (f : Int → Int → Int) (o : Op) (ρ : Env) : augSF k oi f o ρ = bd (getS ρ k) (auS1 k oi f o ρ) := nrfl rfl
end VS
set_option Elab.async false
set_option linter.all false
set_option maxRecDepth 100000
namespace VS
open PySem PySem.Spec PyProof.Rows L2 RZ
@[simp] theorem dvmD_i (a b : Int) : dvmD [.int a, .int b] = gb (dvmOk b) (some (.tup [.int (a.fdiv b), .int (a.fmod b)])) := gb_ite (p := dvmOk b = true) _ |>.trans (by simp)
theorem anyID_e (o : Bool) (ns : List Int) : anyID [.lst o (ns.map D.int)] = some (.bl (ns.any fun n => n != 0)) := by
  show (intsOf (ns.map D.int)).bind _ = _
  rw [intsOf_map]
  rfl
end VS
set_option Elab.async false
set_option linter.all false
set_option maxRecDepth 100000
namespace VS
open PySem PySem.Spec PyProof.Rows L2 RZ
def frzK2 : D × Env → Option (D × Env) := fun p => some (freeze p.1, p.2)
@[simp] theorem frzK2_e (d : D) (ρ : Env) : frzK2 (d, ρ) = some (freeze d, ρ) := nrfl rfl
@[simp] theorem frzF_e (f : FE) (ρ : Env) : frzF f ρ = bd (f ρ) frzK2 := nrfl rfl
end VS
set_option Elab.async false
set_option linter.all false
set_option maxRecDepth 100000
namespace VS
open PySem PySem.Spec PyProof.Rows L2 RZ
def rdkK2 (fn : Fn) (is : List Nat) (ρ : Env) : List D → Option (D × Env) := fun ds => bd (fn.sem (permL is (freezes ds))) (rdK3 ρ)
@[simp] theorem rdkK2_e (fn : Fn) (is : List Nat) (ρ : Env) (ds : List D) : rdkK2 fn is ρ ds = bd (fn.sem (permL is (freezes ds))) (rdK3 ρ) := nrfl rfl
def rdkK1 (fn : Fn) (is : List Nat) (ops : List Op) : List (Option D) × Env → Option (D × Env) := fun p => bd (fetch ops p.1 p.2) (rdkK2 fn is p.2)
@[simp] theorem rdkK1_e (fn : Fn) (is : List Nat) (ops : List Op) (ts : List (Option D)) (ρ : Env) : rdkK1 fn is ops (ts, ρ) = bd (fetch ops ts ρ) (rdkK2 fn is ρ) := nrfl rfl
@[simp] theorem callRdKF_e (fn : Fn) (is : List Nat) (ops : List Op) (ρ : Env) : callRdKF fn is ops ρ = bd (evOps ops ρ) (rdkK1 fn is ops) := by
  unfold callRdKF bd
  congr 1
theorem starD_e {fn : Fn} {na : Nat} {ds : List D} {d : D} {os : List (Option D)} (h1 : noOwns ds = true) (h2 : na ≤ ds.length) (h3 : ds.length ≤ smallL) (h4 : fn.sem (ds.take na ++ [.tup (ds.drop na)]) = some (d, os)) (h5 : flat1 d = true) : starD fn na ds = some d := by
  unfold starD
  rw [if_pos ⟨h1, h2, h3⟩, h4]
  simp [h5]
theorem insD_e {xs : List D} {i : Nat} {d : D} (h1 : noOwns xs = true) (h2 : noOwn d = true) (h3 : i < 1000000) (h4 : xs.length < 100000) : insD xs [.int (i : Nat), d] = some (.non, xs.take i ++ [d] ++ xs.drop i) := by
  have hs : smallL = 100000 := rfl
  unfold insD
  simp only [h1, h2, hs, h4, and_true, Int.toNat_natCast]
  rw [if_pos]
  constructor
  · exact Int.natCast_nonneg i
  · exact Int.ofNat_lt.mpr h3
theorem revD_e {xs : List D} (h : noOwns xs = true) : revD xs [] = some (.non, xs.reverse) := if_pos h
theorem inD_l (neg : Bool) (x : D) (o : Bool) (xs : List D) : inD neg [x, .lst o xs] = gb (eqOk x && eqOk (.lst o xs)) (some (.bl (if neg then !xs.any fun z => deq z x else xs.any fun z => deq z x))) := by
  show (if _ then _ else _) = _
  rw [gb_ite]; simp
end VS
set_option Elab.async false
set_option linter.all false
set_option maxRecDepth 100000
namespace VS
open PySem PySem.Spec PyProof.Rows L2 RZ
@[simp] theorem outK_rz (g : FS) (n : Str) (d : D) (ρ : Env) : outK g (.rz n d ρ) = some (.rz n d ρ) := nrfl rfl
@[simp] theorem noOwn_exc (n : Str) (d : D) : noOwn (.exc n d) = true := nrfl rfl
@[simp] theorem freeze_exc (n : Str) (d : D) : freeze (.exc n d) = .exc n d := nrfl rfl
def rzK : Str × D × Env → Option Out := fun q => some (.rz q.1 q.2.1 q.2.2)
@[simp] theorem rzK_e (n : Str) (d : D) (ρ : Env) : rzK (n, d, ρ) = some (.rz n d ρ) := nrfl rfl
def orXK (g : RX) (ρ : Env) : Option Out → Option Out
  | some o => some o
  | none => bd (g ρ) rzK
@[simp] theorem orXK_s (g : RX) (ρ : Env) (o : Out) : orXK g ρ (some o) = some o := nrfl rfl
@[simp] theorem orXK_n (g : RX) (ρ : Env) : orXK g ρ none = bd (g ρ) rzK := nrfl rfl
@[simp] theorem orX_e (f : FS) (g : RX) (ρ : Env) : orX f g ρ = orXK g ρ (f ρ) := by
  unfold orX orXK bd rzK
  cases f ρ <;> rfl
def orRK (h : RX) (ρ : Env) : Option (Str × D × Env) → Option (Str × D × Env)
  | some o => some o
  | none => h ρ
@[simp] theorem orRK_s (g : RX) (ρ : Env) (o : Str × D × Env) : orRK g ρ (some o) = some o := nrfl rfl
@[simp] theorem orRK_n (g : RX) (ρ : Env) : orRK g ρ none = g ρ := nrfl rfl
@[simp] theorem orR_e (g h : RX) (ρ : Env) : orR g h ρ = orRK h ρ (g ρ) := by
  unfold orR orRK
  cases g ρ <;> rfl
@[simp] theorem noR_e (ρ : Env) : noR ρ = none := nrfl rfl
def thK (g : RX) : List (Option D) × Env → Option (Str × D × Env) := fun p => g p.2
@[simp] theorem thK_e (g : RX) (ts : List (Option D)) (ρ : Env) : thK g (ts, ρ) = g ρ := nrfl rfl
@[simp] theorem thenR_e (o : Op) (g : RX) (ρ : Env) : thenR o g ρ = bd (evOps [o] ρ) (thK g) := nrfl rfl
def thTK (g h : RX) : Bool × Env → Option (Str × D × Env) := fun p => ift p.1 g h p.2
@[simp] theorem thTK_e (g h : RX) (b : Bool) (ρ : Env) : thTK g h (b, ρ) = ift b g h ρ := nrfl rfl
@[simp] theorem thenT_e (c : FB) (g h : RX) (ρ : Env) : thenT c g h ρ = bd (c ρ) (thTK g h) := nrfl rfl
def rzK3 (ops : List Op) (ds : List D) (ρ : Env) : Str × D × List (Option D) → Option (Str × D × Env) := fun q => some (q.1, q.2.1, putB ops ds q.2.2 ρ)
@[simp] theorem rzK3_e (ops : List Op) (ds : List D) (ρ : Env) (n : Str) (d : D) (os : List (Option D)) : rzK3 ops ds ρ (n, d, os) = some (n, d, putB ops ds os ρ) := nrfl rfl
def rzK2 (rz : Rz) (ops : List Op) : List D × Env → Option (Str × D × Env) := fun c => bd (rz c.1) (rzK3 ops c.1 c.2)
@[simp] theorem rzK2_e (rz : Rz) (ops : List Op) (ds : List D) (ρ : Env) : rzK2 rz ops (ds, ρ) = bd (rz ds) (rzK3 ops ds ρ) := nrfl rfl
def rzK1 (pins : List Bool) (rz : Rz) (ops : List Op) : List (Option D) × Env → Option (Str × D × Env) := fun p => bd (fetchC pins ops p.1 p.2) (rzK2 rz ops)
@[simp] theorem rzK1_e (pins : List Bool) (rz : Rz) (ops : List Op) (ts : List (Option D)) (ρ : Env) : rzK1 pins rz ops (ts, ρ) = bd (fetchC pins ops ts ρ) (rzK2 rz ops) := nrfl rfl
@[simp] theorem rzF_e (pins : List Bool) (rz : Rz) (ops : List Op) (ρ : Env) : rzF pins rz ops ρ = bd (evOps ops ρ) (rzK1 pins rz ops) := nrfl rfl
def rzkK1 (pins : List Bool) (rz : Rz) (is : List Nat) (ops : List Op) : List (Option D) × Env → Option (Str × D × Env) := fun p => bd (fetchC pins (permL is ops) (permL is p.1) p.2) (rzK2 rz (permL is ops))
@[simp] theorem rzkK1_e (pins : List Bool) (rz : Rz) (is : List Nat) (ops : List Op) (ts : List (Option D)) (ρ : Env) : rzkK1 pins rz is ops (ts, ρ) = bd (fetchC pins (permL is ops) (permL is ts) ρ) (rzK2 rz (permL is ops)) := nrfl rfl
@[simp] theorem rzKF_e (pins : List Bool) (rz : Rz) (is : List Nat) (ops : List Op) (ρ : Env) : rzKF pins rz is ops ρ = bd (evOps ops ρ) (rzkK1 pins rz is ops) := nrfl rfl
def raK (n : Str) : D × Env → Option Out := fun p => gb (noOwn p.1) (some (.rz n p.1 p.2))
@[simp] theorem raK_e (n : Str) (d : D) (ρ : Env) : raK n (d, ρ) = gb (noOwn d) (some (.rz n d ρ)) := nrfl rfl
@[simp] theorem raiseF_e (n : Str) (f : FE) (ρ : Env) : raiseF n f ρ = bd (f ρ) (raK n) := nrfl rfl
def clK (i : Option Nat) : Out → Option Out := clrO i
@[simp] theorem clK_nx0 (ρ : Env) : clK none (.nx ρ) = some (.nx ρ) := nrfl rfl
@[simp] theorem clK_bk0 (ρ : Env) : clK none (.bk ρ) = some (.bk ρ) := nrfl rfl
@[simp] theorem clK_ct0 (ρ : Env) : clK none (.ct ρ) = some (.ct ρ) := nrfl rfl
@[simp] theorem clK_nx (i : Nat) (ρ : Env) : clK (some i) (.nx ρ) = some (.nx (ρ.set i none)) := nrfl rfl
@[simp] theorem clK_bk (i : Nat) (ρ : Env) : clK (some i) (.bk ρ) = some (.bk (ρ.set i none)) := nrfl rfl
@[simp] theorem clK_ct (i : Nat) (ρ : Env) : clK (some i) (.ct ρ) = some (.ct (ρ.set i none)) := nrfl rfl
@[simp] theorem clK_rt (i : Option Nat) (d : D) (ρ : Env) : clK i (.rt d ρ) = some (.rt d ρ) := nrfl rfl
@[simp] theorem putE_n (ρ : Env) (n : Str) (d : D) : putE ρ n d none = ρ := nrfl rfl
@[simp] theorem putE_s (ρ : Env) (n : Str) (d : D) (i : Nat) : putE ρ n d (some i) = ρ.set i (some (.exc n d)) := nrfl rfl
@[simp] theorem goHd_n (ns : List Str) (n : Str) (d : D) (ρ : Env) : goHd ns n d ρ [] = some (.rz n d ρ) := nrfl rfl
def hdY (n : Str) (d : D) (i : Option Nat) (f : FS) : Env → Option Out := fun ρ => bd (f (putE ρ n d i)) (clK i)
@[simp] theorem hdY_e (n : Str) (d : D) (i : Option Nat) (f : FS) (ρ : Env) : hdY n d i f ρ = bd (f (putE ρ n d i)) (clK i) := nrfl rfl
def hdN (ns : List Str) (n : Str) (d : D) (r : List HdF) : Env → Option Out := fun ρ => goHd ns n d ρ r
@[simp] theorem hdN_e (ns : List Str) (n : Str) (d : D) (r : List HdF) (ρ : Env) : hdN ns n d r ρ = goHd ns n d ρ r := nrfl rfl
@[simp] theorem goHd_c (ns : List Str) (n : Str) (d : D) (ρ : Env) (c : Str) (i : Option Nat) (f : FS) (r : List HdF) : goHd ns n d ρ ((c, i, f) :: r) = gb (ns.contains n) (ift (subB n c) (hdY n d i f) (hdN ns n d r) ρ) := by
  unfold goHd gb
  by_cases h : ns.contains n = true
  · rw [if_pos h, if_pos h]
    by_cases h2 : subB n c = true
    · rw [if_pos h2, h2]; rfl
    · rw [if_neg h2]
      have : subB n c = false := by simpa using h2
      rw [this]; rfl
  · rw [if_neg h, if_neg h]
def tryK (ns : List Str) (hs : List HdF) : Out → Option Out
  | .rz n d ρ1 => goHd ns n d ρ1 hs
  | o => some o
@[simp] theorem tryK_nx (ns : List Str) (hs : List HdF) (ρ : Env) : tryK ns hs (.nx ρ) = some (.nx ρ) := nrfl rfl
@[simp] theorem tryK_bk (ns : List Str) (hs : List HdF) (ρ : Env) : tryK ns hs (.bk ρ) = some (.bk ρ) := nrfl rfl
@[simp] theorem tryK_ct (ns : List Str) (hs : List HdF) (ρ : Env) : tryK ns hs (.ct ρ) = some (.ct ρ) := nrfl rfl
@[simp] theorem tryK_rt (ns : List Str) (hs : List HdF) (d : D) (ρ : Env) : tryK ns hs (.rt d ρ) = some (.rt d ρ) := nrfl rfl
@[simp] theorem tryK_rz (ns : List Str) (hs : List HdF) (n : Str) (d : D) (ρ : Env) : tryK ns hs (.rz n d ρ) = goHd ns n d ρ hs := nrfl rfl
@[simp] theorem tryF_e (ns : List Str) (fb : FS) (hs : List HdF) (ρ : Env) : tryF ns fb hs ρ = bd (fb ρ) (tryK ns hs) := by
  unfold tryF bd
  congr 1
@[simp] theorem excValD_e (ns : List Str) (n : Str) (d : D) : excValD ns [.exc n d] = gb (ns.contains n) (some d) := gb_ite _ |>.trans (by simp)
@[simp] theorem isXD_e (ns : List Str) (c n : Str) (d : D) : isXD ns c [.exc n d] = gb (ns.contains n) (some (.bl (subB n c))) := gb_ite _ |>.trans (by simp)
@[simp] theorem isXD_n (ns : List Str) (c : Str) : isXD ns c [.non] = some (.bl false) := nrfl rfl
@[simp] theorem isXTD_e (ns cs : List Str) (n : Str) (d : D) : isXTD ns cs [.exc n d] = gb (ns.contains n) (some (.bl (cs.any (subB n)))) := gb_ite _ |>.trans (by simp)
@[simp] theorem isXTD_n (ns cs : List Str) : isXTD ns cs [.non] = some (.bl false) := nrfl rfl
@[simp] theorem frzD_non : freeze .non = .non := nrfl rfl
@[simp] theorem frzD_int (i : Int) : freeze (.int i) = .int i := nrfl rfl
@[simp] theorem frzD_bl (i : Bool) : freeze (.bl i) = .bl i := nrfl rfl
@[simp] theorem frzD_str (i : Str) : freeze (.str i) = .str i := nrfl rfl
@[simp] theorem isNon_exc (n : Str) (d : D) : isNon (.exc n d) = false := nrfl rfl
@[simp] theorem isNonD_exc (n : Str) (d : D) : isNonD [.exc n d, .non] = some (.bl false) := nrfl rfl
@[simp] theorem notNonD_exc (n : Str) (d : D) : notNonD [.exc n d, .non] = some (.bl true) := nrfl rfl
theorem bodyRz_run {nN np : Nat} {pins : List Bool} {f : FS} {ds : List D} {n : Str} {d : D} {ρ : Env} (hl : ds.length = np) (h : f (ds.map some ++ List.replicate (nN - np) none) = some (.rz n d ρ)) : bodyRz nN np pins f ds = some (n, d, finP pins ρ) := by
  unfold bodyRz
  rw [if_pos hl, h]
/-- what a def that raises does -/
theorem bodySem_rz {nN np : Nat} {pins : List Bool} {f : FS} {ds : List D} {n : Str} {d : D} {ρ : Env} (h : f (ds.map some ++ List.replicate (nN - np) none) = some (.rz n d ρ)) : (bodyFn nN np pins f).sem ds = none := by
  show bodySem nN np pins f ds = none
  unfold bodySem
  split
  · rw [h]
  · rfl
theorem bodyRz_none {nN np : Nat} {pins : List Bool} {f : FS} {ds : List D} {r : D × List (Option D)} (h : (bodyFn nN np pins f).sem ds = some r) : bodyRz nN np pins f ds = none := by
  obtain ⟨hl, ρ, hr, h⟩ := bodySem_cases (d := r.1) (os := r.2) h
  unfold bodyRz
  rcases h with h | ⟨_, h⟩
  · rw [if_pos hl, h]
  · rw [if_pos hl, h]
end VS
set_option Elab.async false
set_option linter.all false
set_option maxRecDepth 100000
namespace VS
open PySem PySem.Spec PyProof.Rows L2 RZ
@[simp] theorem isLq_s (o : Bool) (xs : List D) (ρ : Env) : isLq (some (.lst o xs, ρ)) = true := nrfl rfl
@[simp] theorem methTF_e (f : FE) (g : List D → Option D) (ops : List Op) (ρ : Env) : methTF f g ops ρ = gb (isLq (f ρ)) (bd (evOps (.t f :: ops) ρ) (opK g (.t f :: ops))) := by
  unfold methTF gb
  rw [opF_e]
end VS
set_option Elab.async false
set_option linter.all false
namespace VS
end VS
set_option Elab.async false
set_option linter.all false
set_option maxRecDepth 100000
namespace VS
open PySem PySem.Spec PyProof.Rows L2 RZ
@[simp] theorem noOwn_dct (o : Bool) (kvs : List (Int × Int)) : noOwn (.dct o kvs) = !o := nrfl rfl
@[simp] theorem freeze_dct (o : Bool) (kvs : List (Int × Int)) : freeze (.dct o kvs) = .dct false kvs := nrfl rfl
@[simp] theorem truD_dct (o : Bool) (kvs : List (Int × Int)) : truD (.dct o kvs) = some (!kvs.isEmpty) := nrfl rfl
@[simp] theorem dctF_e (ρ : Env) : dctF ρ = some (.dct true [], ρ) := nrfl rfl
def intO : Option Int → Option D
  | some v => some (.int v)
  | none => none
@[simp] theorem intO_s (v : Int) : intO (some v) = some (.int v) := nrfl rfl
@[simp] theorem dgetD_e (o : Bool) (kvs : List (Int × Int)) (k : Int) : dgetD [.dct o kvs, .int k] = intO (valI kvs k) := by
  show (valI kvs k).map D.int = _
  cases valI kvs k <;> rfl
/-- d[k] = v -/
def putK2 (ρ : Env) (k : Nat) (d : D) : List D → Option Env := fun ds => dputAt ρ k d ds
def dputO (ρ : Env) (k : Nat) (i v : Int) : Option D → Option Env
  | some (.dct true kvs) => gb (decide (kvs.length < smallL)) (some (ρ.set k (some (.dct true (putI kvs i v)))))
  | _ => none
@[simp] theorem dputO_e (ρ : Env) (k : Nat) (i v : Int) (kvs : List (Int × Int)) : dputO ρ k i v (some (.dct true kvs)) = gb (decide (kvs.length < smallL)) (some (ρ.set k (some (.dct true (putI kvs i v))))) := nrfl rfl
@[simp] theorem putK2_e (ρ : Env) (k : Nat) (v i : Int) : putK2 ρ k (.int v) [.int i] = dputO ρ k i v (getS ρ k) := by
  show dputAt ρ k (.int v) [.int i] = _
  unfold dputAt
  cases h : getS ρ k with
  | none => rfl
  | some d =>
    cases d with
    | dct o kvs => cases o with
      | true => exact gb_ite _
      | false => rfl
    | _ => rfl
def putK1 (k : Nat) (oi : Op) (d : D) : List (Option D) × Env → Option Env := fun (ts, ρ) => bd (fetch [oi] ts ρ) (putK2 ρ k d)
@[simp] theorem putK1_e (k : Nat) (oi : Op) (d : D) (ts : List (Option D)) (ρ : Env) : putK1 k oi d (ts, ρ) = bd (fetch [oi] ts ρ) (putK2 ρ k d) := nrfl rfl
def putK0 (k : Nat) (oi : Op) (d0 : D) (ρ : Env) : D → Option Env := fun _ => bd (evOps [oi] ρ) (putK1 k oi d0)
@[simp] theorem putK0_e (k : Nat) (oi : Op) (d0 : D) (ρ : Env) (d : D) : putK0 k oi d0 ρ d = bd (evOps [oi] ρ) (putK1 k oi d0) := nrfl rfl
@[simp] theorem tgPut_e (k : Nat) (oi : Op) (d : D) (ρ : Env) : tgPut k oi d ρ = bd (getS ρ k) (putK0 k oi d ρ) := nrfl rfl
/-- d.pop(k) -/
def isDo : Option D → Bool
  | some (.dct true _) => true
  | _ => false
@[simp] theorem isDo_e (kvs : List (Int × Int)) : isDo (some (.dct true kvs)) = true := nrfl rfl
def popKv (ρ : Env) (k : Nat) (i : Int) (kvs : List (Int × Int)) : Int → Option (D × Env) := fun v => some (.int v, ρ.set k (some (.dct true (dropI kvs i))))
@[simp] theorem popKv_e (ρ : Env) (k : Nat) (i : Int) (kvs : List (Int × Int)) (v : Int) : popKv ρ k i kvs v = some (.int v, ρ.set k (some (.dct true (dropI kvs i)))) := nrfl rfl
def popO (ρ : Env) (k : Nat) (i : Int) : Option D → Option (D × Env)
  | some (.dct true kvs) => bd (valI kvs i) (popKv ρ k i kvs)
  | _ => none
@[simp] theorem popO_e (ρ : Env) (k : Nat) (i : Int) (kvs : List (Int × Int)) : popO ρ k i (some (.dct true kvs)) = bd (valI kvs i) (popKv ρ k i kvs) := nrfl rfl
def popK2 (ρ : Env) (k : Nat) : List D → Option (D × Env) := fun ds => dpopAt ρ k ds
@[simp] theorem popK2_e (ρ : Env) (k : Nat) (i : Int) : popK2 ρ k [.int i] = popO ρ k i (getS ρ k) := by
  show dpopAt ρ k [.int i] = _
  unfold dpopAt
  cases h : getS ρ k with
  | none => rfl
  | some d =>
    cases d with
    | dct o kvs => cases o with
      | true => rfl
      | false => rfl
    | _ => rfl
def popK1 (k : Nat) (oi : Op) : List (Option D) × Env → Option (D × Env) := fun (ts, ρ) => bd (fetch [oi] ts ρ) (popK2 ρ k)
@[simp] theorem popK1_e (k : Nat) (oi : Op) (ts : List (Option D)) (ρ : Env) : popK1 k oi (ts, ρ) = bd (fetch [oi] ts ρ) (popK2 ρ k) := nrfl rfl
@[simp] theorem dpopF_e (k : Nat) (oi : Op) (ρ : Env) : dpopF k oi ρ = gb (isDo (getS ρ k)) (bd (evOps [oi] ρ) (popK1 k oi)) := by
  unfold dpopF
  cases h : getS ρ k with
  | none => rfl
  | some d =>
    cases d with
    | dct o kvs => cases o with
      | true => rfl
      | false => rfl
    | _ => rfl
/-- d.get(k, x) -/
def isDb : Option D → Bool
  | some (.dct _ _) => true
  | _ => false
@[simp] theorem isDb_e (o : Bool) (kvs : List (Int × Int)) : isDb (some (.dct o kvs)) = true := nrfl rfl
def getO (ρ : Env) (i z : Int) : Option D → Option (D × Env)
  | some (.dct _ kvs) => some (.int ((valI kvs i).getD z), ρ)
  | _ => none
@[simp] theorem getO_e (ρ : Env) (i z : Int) (o : Bool) (kvs : List (Int × Int)) : getO ρ i z (some (.dct o kvs)) = some (.int ((valI kvs i).getD z), ρ) := nrfl rfl
def getK2 (ρ : Env) (k : Nat) : List D → Option (D × Env) := fun ds => dget2At ρ k ds
@[simp] theorem getK2_e (ρ : Env) (k : Nat) (i z : Int) : getK2 ρ k [.int i, .int z] = getO ρ i z (getS ρ k) := by
  show dget2At ρ k [.int i, .int z] = _
  unfold dget2At
  cases h : getS ρ k with
  | none => rfl
  | some d => cases d <;> rfl
def getK1 (k : Nat) (o1 o2 : Op) : List (Option D) × Env → Option (D × Env) := fun (ts, ρ) => bd (fetch [o1, o2] ts ρ) (getK2 ρ k)
@[simp] theorem getK1_e (k : Nat) (o1 o2 : Op) (ts : List (Option D)) (ρ : Env) : getK1 k o1 o2 (ts, ρ) = bd (fetch [o1, o2] ts ρ) (getK2 ρ k) := nrfl rfl
@[simp] theorem dget2F_e (k : Nat) (o1 o2 : Op) (ρ : Env) : dget2F k o1 o2 ρ = gb (isDb (getS ρ k)) (bd (evOps [o1, o2] ρ) (getK1 k o1 o2)) := by
  unfold dget2F
  cases h : getS ρ k with
  | none => rfl
  | some d => cases d <;> rfl
end VS
set_option Elab.async false
set_option linter.all false
set_option maxRecDepth 100000
namespace VS
open PySem PySem.Spec PyProof.Rows L2 RZ
@[simp] theorem tgU_t (n : Nat) (gs : List D → Env → Option Env) (xs : List D) (ρ : Env) : tgU n gs (.tup xs) ρ = gb (decide (xs.length = n)) (gs xs ρ) := gb_ite _
@[simp] theorem tgU_l (n : Nat) (gs : List D → Env → Option Env) (xs : List D) (ρ : Env) : tgU n gs (.lst false xs) ρ = gb (decide (xs.length = n)) (gs xs ρ) := gb_ite _
end VS
set_option Elab.async false
set_option linter.all false
set_option maxRecDepth 100000
namespace VS
open PySem PySem.Spec PyProof.Rows L2 RZ
@[simp] theorem gcdD_e (a b : Int) : gcdD [.int a, .int b] = some (.int ((Nat.gcd a.natAbs b.natAbs : Nat) : Int)) := nrfl rfl
theorem cntD_e (o : Bool) (ns : List Int) (k : Int) : cntD [.lst o (ns.map D.int), .int k] = some (.int (ns.count k : Nat)) := by
  show (intsOf _).bind _ = _
  rw [intsOf_map]; rfl
end VS
set_option Elab.async false
set_option linter.all false
set_option maxRecDepth 100000
set_option maxHeartbeats 0
namespace VS
open PySem PySem.Spec PyProof.Rows L2 RZ
/-! the text: where each def stands, its slots -/
def topS (i : Nat) : Stmt := PySem.Challenge.pw_hookmats_k18_whole_values_of_words.main.body.getD i (.Pass ⟨0, 0, 0, 0⟩)
abbrev s_behind : Stmt := topS 19
theorem sc_behind : FnScope ["_law_one", "_law_other", "_law_n", "_law_m", "_law_k", "_law_ends", "_law_peg", "_law_rings", "_law_near", "_law_far", "_law_mates", "_law_mate"] ["_law_one", "_law_other"] (defScope s_behind) := ⟨rfl, rfl, rfl, by decide +kernel, rfl, by decide +kernel, by decide +kernel⟩
abbrev s_dip : Stmt := topS 18
theorem sc_dip : FnScope ["_law_well_here", "_law_many", "_law_cell", "_law_digit"] ["_law_well_here", "_law_many"] (defScope s_dip) := ⟨rfl, rfl, rfl, by decide +kernel, rfl, by decide +kernel, by decide +kernel⟩
abbrev s_same : Stmt := topS 24
theorem sc_same : FnScope ["_law_told", "_law_due", "_law_depth", "_law_k"] ["_law_told", "_law_due", "_law_depth"] (defScope s_same) := ⟨rfl, rfl, rfl, by decide +kernel, rfl, by decide +kernel, by decide +kernel⟩
abbrev s_hooked : Stmt := topS 21
theorem sc_hooked : FnScope ["_law_mat", "_law_index", "_law_n", "_law_mates", "_law_left", "_law_right"] ["_law_mat", "_law_index"] (defScope s_hooked) := ⟨rfl, rfl, rfl, by decide +kernel, rfl, by decide +kernel, by decide +kernel⟩
abbrev s_straight : Stmt := topS 20
theorem sc_straight : FnScope ["_law_n"] ["_law_n"] (defScope s_straight) := ⟨rfl, rfl, rfl, by decide +kernel, rfl, by decide +kernel, by decide +kernel⟩
abbrev s_value : Stmt := topS 22
theorem sc_value : FnScope ["_law_n", "_law_word_here", "_law_rings", "_law_mat", "_law_index", "_law_more"] ["_law_n", "_law_word_here"] (defScope s_value) := ⟨rfl, rfl, rfl, by decide +kernel, rfl, by decide +kernel, by decide +kernel⟩
abbrev s_well : Stmt := topS 17
theorem sc_well : FnScope ["_law_script"] ["_law_script"] (defScope s_well) := ⟨rfl, rfl, rfl, by decide +kernel, rfl, by decide +kernel, by decide +kernel⟩
abbrev s_word : Stmt := topS 23
theorem sc_word : FnScope ["_law_well_here", "_law_n", "_law_most", "_law_word_here", "_law_k", "_law_index", "_law_way"] ["_law_well_here", "_law_n", "_law_most"] (defScope s_word) := ⟨rfl, rfl, rfl, by decide +kernel, rfl, by decide +kernel, by decide +kernel⟩
abbrev s_p_far_end : Stmt := topS 9
theorem sc_p_far_end : FnScope ["one", "other", "peg", "passed", "n", "middle", "ahead", "at"] ["one", "other", "peg", "passed"] (defScope s_p_far_end) := ⟨rfl, rfl, rfl, by decide +kernel, rfl, by decide +kernel, by decide +kernel⟩
abbrev s_p_loose_rings : Stmt := topS 10
theorem sc_p_loose_rings : FnScope ["one", "other", "passed", "n", "rings", "start", "at"] ["one", "other", "passed"] (defScope s_p_loose_rings) := ⟨rfl, rfl, rfl, by decide +kernel, rfl, by decide +kernel, by decide +kernel⟩
abbrev s_p_put_behind : Stmt := topS 11
theorem sc_p_put_behind : FnScope ["one", "other", "n", "k", "passed", "mates", "peg"] ["one", "other"] (defScope s_p_put_behind) := ⟨rfl, rfl, rfl, by decide +kernel, rfl, by decide +kernel, by decide +kernel⟩
abbrev s_p_chained : Stmt := topS 12
theorem sc_p_chained : FnScope ["one", "other", "rings", "n", "k", "mates"] ["one", "other"] (defScope s_p_chained) := ⟨rfl, rfl, rfl, by decide +kernel, rfl, by decide +kernel, by decide +kernel⟩
abbrev s_p_check_size : Stmt := topS 5
theorem sc_p_check_size : FnScope ["n"] ["n"] (defScope s_p_check_size) := ⟨rfl, rfl, rfl, by decide +kernel, rfl, by decide +kernel, by decide +kernel⟩
abbrev s_p_check_words : Stmt := topS 14
theorem sc_p_check_words : FnScope ["n", "words", "word", "index"] ["n", "words"] (defScope s_p_check_words) := ⟨rfl, rfl, rfl, by decide +kernel, rfl, by decide +kernel, by decide +kernel⟩
abbrev s_p_straight : Stmt := topS 6
theorem sc_p_straight : FnScope ["n"] ["n"] (defScope s_p_straight) := ⟨rfl, rfl, rfl, by decide +kernel, rfl, by decide +kernel, by decide +kernel⟩
abbrev s_p_hook : Stmt := topS 7
theorem sc_p_hook : FnScope ["n", "i", "row"] ["n", "i"] (defScope s_p_hook) := ⟨rfl, rfl, rfl, by decide +kernel, rfl, by decide +kernel, by decide +kernel⟩
abbrev s_p_value_of : Stmt := topS 15
theorem sc_p_value_of : FnScope ["n", "word", "value", "index"] ["n", "word"] (defScope s_p_value_of) := ⟨rfl, rfl, rfl, by decide +kernel, rfl, by decide +kernel, by decide +kernel⟩
abbrev s_law : Stmt := topS 25
theorem sc_law : FnScope ["_law_script", "_law_well_here", "_law_k", "_law_n", "_law_word_here", "_law_due", "_law_at", "_law_left", "_law_right", "_law_rings", "_law_mat"] ["_law_script"] (defScope s_law) := ⟨rfl, rfl, rfl, by decide +kernel, rfl, by decide +kernel, by decide +kernel⟩
/-! what each def does with its data -/
def FUEL : Nat := 1000000
-- slots: 0 _law_one, 1 _law_other, 2 _law_n, 3 _law_m, 4 _law_k, 5 _law_ends, 6 _law_peg, 7 _law_rings, 8 _law_near, 9 _law_far, 10 _law_mates, 11 _law_mate
def F_behind : FS :=
  seqF (asgF (tupF [.t (opF ixD [.b 0, .t (litF (.int 0))]), .t (opF ixD [.b 0, .t (litF (.int 1))]), .t (opF ixD [.b 1, .t (litF (.int 1))])]) (tgT 3 (tgCons (tgN 2) (tgCons (tgN 3) (tgCons (tgN 4) (tgNil)))))) <|
  seqF (asgF (dctF) (tgN 5)) <|
  seqF (forF (itRg rng1D [.t (opF addD [.b 2, .b 3])]) (tgN 6) (asgF (opF ixD [.t (opF ixD [.b 0, .t (litF (.int 2))]), .b 6]) (tgPut 5 (.b 6)))) <|
  seqF (forF (itRg rng1D [.t (opF addD [.b 3, .b 4])]) (tgN 6) (asgF (opF addD [.t (opF addD [.b 2, .b 3]), .t (opF ixD [.t (opF ixD [.b 1, .t (litF (.int 2))]), .b 6])]) (tgPut 5 (.t (opF addD [.t (opF addD [.b 2, .b 3]), .b 6]))))) <|
  seqF (asgF (litF (.int 0)) (tgN 7)) <|
  seqF (forF (itRg rng1D [.b 3]) (tgN 6) (seqF (parF [8, 9] [.t (dpopF 5 (.t (opF addD [.b 2, .b 6]))), .t (dpopF 5 (.t (opF addD [.t (opF addD [.b 2, .b 3]), .b 6])))]) <|
  ifF (bT (opF (eqD) [.b 8, .t (opF addD [.t (opF addD [.b 2, .b 3]), .b 6])])) (asgF (opF addD [.b 7, .t (litF (.int 1))]) (tgN 7)) (seqF (asgF (varF 9) (tgPut 5 (.b 8))) <|
  asgF (varF 8) (tgPut 5 (.b 9))))) <|
  seqF (asgF (opF addD [.t (lcF [6] (itRg rng1D [.b 2]) (tgN 6) (yesF) (opF dgetD [.b 5, .b 6])), .t (lcF [6] (itRg rng1D [.b 4]) (tgN 6) (yesF) (opF dgetD [.b 5, .t (opF addD [.t (opF addD [.b 2, .t (opF mulD [.t (litF (.int 2)), .b 3])]), .b 6])]))]) (tgN 10)) <|
  retF (tupF [.t (movF 7), .t (tupF [.t (varF 2), .t (movF 4), .t (opF tupleD [.t (lcF [11] (itSeq (varF 10)) (tgN 11) (yesF) (ifE (bT (opF (ltD) [.b 11, .b 2])) (varF 11) (opF subD [.b 11, .t (opF mulD [.t (litF (.int 2)), .b 3])])))])])])
def fn_behind : Fn := bodyFn 12 2 [true, true] F_behind
-- slots: 0 _law_well_here, 1 _law_many, 2 _law_cell, 3 _law_digit
def F_dip : FS :=
  seqF (ifF (andF (bT (opF (ltD) [.t (opF ixD [.b 0, .t (litF (.int 2))]), .t (litF (.int 2))])) (bT (opF (ltD) [.t (opF ixD [.b 0, .t (litF (.int 1))]), .t (opF lenD [.t (opF ixD [.b 0, .t (litF (.int 0))])])]))) (seqF (asgF (opF ixD [.t (opF ixD [.b 0, .t (litF (.int 0))]), .t (opF ixD [.b 0, .t (litF (.int 1))])]) (tgN 2)) <|
  seqF (asgF (opF addD [.t (opF ixD [.b 0, .t (litF (.int 1))]), .t (litF (.int 1))]) (tgSub 0 (.t (litF (.int 1))))) <|
  ifF (bT (opF (geD) [.b 2, .t (opF powD [.t (litF (.int 10)), .t (litF (.int 18))])])) (asgF (varF 2) (tgSub 0 (.t (litF (.int 2))))) (asgF (opF modD [.t (opF intD [.t (opF addD [.t (opF addD [.t (opF mulD [.t (opF ixD [.b 0, .t (litF (.int 3))]), .t (litF (.int 69621))]), .t (opF powD [.t (opF modD [.t (opF intD [.b 2]), .t (litF (.int 2147483629))]), .t (litF (.int 3))])]), .t (opF mulD [.t (litF (.int 7919)), .t (opF ixD [.b 0, .t (litF (.int 1))])])])]), .t (litF (.int 2147483647))]) (tgSub 0 (.t (litF (.int 3)))))) (passF)) <|
  seqF (ifF (bT (opF (gtD) [.t (opF ixD [.b 0, .t (litF (.int 2))]), .t (litF (.int 1))])) (seqF (asgF (opF modD [.t (opF intD [.t (opF ixD [.b 0, .t (litF (.int 2))])]), .b 1]) (tgN 3)) <|
  seqF (asgF (opF fdivD [.t (opF ixD [.b 0, .t (litF (.int 2))]), .b 1]) (tgSub 0 (.t (litF (.int 2))))) <|
  retF (movF 3)) (passF)) <|
  seqF (asgF (opF modD [.t (opF intD [.t (opF addD [.t (opF mulD [.t (opF ixD [.b 0, .t (litF (.int 3))]), .t (litF (.int 48271))]), .t (litF (.int 11))])]), .t (litF (.int 2147483647))]) (tgSub 0 (.t (litF (.int 3))))) <|
  retF (opF modD [.t (opF fdivD [.t (opF modD [.t (opF intD [.t (opF mulD [.t (opF ixD [.b 0, .t (litF (.int 3))]), .t (opF ixD [.b 0, .t (litF (.int 3))])])]), .t (litF (.int 2147483629))]), .t (litF (.int 64))]), .b 1])
def fn_dip : Fn := bodyFn 4 2 [true, true] F_dip
-- slots: 0 _law_told, 1 _law_due, 2 _law_depth, 3 _law_k
def F_same (fn : Fn) : FS :=
  seqF (ifF (orF (bT (opF (eqD) [.b 2, .t (litF (.int 0))])) (orF (bT (opF (isNonD) [.b 0, .t (litF .non)])) (bT (opF (isNonD) [.b 1, .t (litF .non)])))) (retF (andV (opF (gtD) [.b 2, .t (litF (.int 0))]) (andV (opF (isNonD) [.b 0, .t (litF .non)]) (opF (isNonD) [.b 1, .t (litF .non)])))) (passF)) <|
  seqF (ifF (orF (tstF (.t (opF (isiD "bool") [.b 0]))) (tstF (.t (opF (isiD "bool") [.b 1])))) (retF (andV (opF (isiD "bool") [.b 0]) (andV (opF (isiD "bool") [.b 1]) (opF (eqD) [.b 0, .b 1])))) (passF)) <|
  seqF (ifF (orF (tstF (.t (opF (isiD "int") [.b 1]))) (tstF (.t (opF (isiD "int") [.b 0])))) (retF (andV (opF (isiD "int") [.b 1]) (andV (opF (isiD "int") [.b 0]) (opF (eqD) [.b 0, .b 1])))) (passF)) <|
  seqF (ifF (orF (tstF (.t (opF (isiD "str") [.b 1]))) (tstF (.t (opF (isiD "str") [.b 0])))) (retF (andV (opF (isiD "str") [.b 1]) (andV (opF (isiD "str") [.b 0]) (opF (eqD) [.b 0, .b 1])))) (passF)) <|
  seqF (ifF (orF (bT (opF (neD) [.t (opF (isiD "tuple") [.b 1]), .t (opF (isiD "tuple") [.b 0])])) (bT (opF (neD) [.t (opF (isiD "list") [.b 1]), .t (opF (isiD "list") [.b 0])]))) (retF (litF (.bl false))) (passF)) <|
  seqF (ifF (orF (notF (tstF (.t (opF (isiTD ["tuple", "list"]) [.b 0])))) (bT (opF (neD) [.t (opF lenD [.b 0]), .t (opF lenD [.b 1])]))) (retF (litF (.bl false))) (passF)) <|
  seqF (forF (itRg rng1D [.t (opF lenD [.b 1])]) (tgN 3) (ifF (notF (tstF (.t (callF fn [.t (opF ixD [.b 0, .b 3]), .t (opF ixD [.b 1, .b 3]), .t (opF subD [.b 2, .t (litF (.int 1))])])))) (retF (litF (.bl false))) (passF))) <|
  retF (litF (.bl true))
def fn_same_at : Nat → Fn
  | 0 => stuckFn 3 [true, true, true]
  | n + 1 => bodyFn 4 3 [true, true, true] (F_same (fn_same_at n))
def fn_same : Fn := fn_same_at 20
-- slots: 0 _law_mat, 1 _law_index, 2 _law_n, 3 _law_mates, 4 _law_left, 5 _law_right
def F_hooked : FS :=
  seqF (asgF (opF ixD [.b 0, .t (litF (.int 0))]) (tgN 2)) <|
  seqF (asgF (opF listD [.t (opF ixD [.b 0, .t (litF (.int 2))])]) (tgN 3)) <|
  seqF (parF [4, 5] [.t (opF ixD [.b 3, .t (opF addD [.b 2, .b 1])]), .t (opF ixD [.b 3, .t (opF addD [.t (opF addD [.b 2, .b 1]), .t (litF (.int 1))])])]) <|
  seqF (ifF (bT (opF (eqD) [.b 4, .t (opF addD [.t (opF addD [.b 2, .b 1]), .t (litF (.int 1))])])) (retF (tupF [.t (litF (.int 1)), .t (varF 0)])) (passF)) <|
  seqF (asgF (varF 5) (tgSub 3 (.b 4))) <|
  seqF (asgF (varF 4) (tgSub 3 (.b 5))) <|
  seqF (asgF (opF addD [.t (opF addD [.b 2, .b 1]), .t (litF (.int 1))]) (tgSub 3 (.t (opF addD [.b 2, .b 1])))) <|
  seqF (asgF (opF addD [.b 2, .b 1]) (tgSub 3 (.t (opF addD [.t (opF addD [.b 2, .b 1]), .t (litF (.int 1))])))) <|
  retF (tupF [.t (litF (.int 0)), .t (tupF [.t (varF 2), .t (varF 2), .t (opF tupleD [.b 3])])])
def fn_hooked : Fn := bodyFn 6 2 [true, true] F_hooked
-- slots: 0 _law_n
def F_straight : FS :=
  retF (tupF [.t (varF 0), .t (varF 0), .t (opF tupleD [.t (opF addD [.t (opF (lrgD rng2D) [.b 0, .t (opF mulD [.t (litF (.int 2)), .b 0])]), .t (opF (lrgD rng1D) [.b 0])])])])
def fn_straight : Fn := bodyFn 1 1 [true] F_straight
-- slots: 0 _law_n, 1 _law_word_here, 2 _law_rings, 3 _law_mat, 4 _law_index, 5 _law_more
def F_value : FS :=
  seqF (parF [2, 3] [.t (litF (.int 0)), .t (callF fn_straight [.b 0])]) <|
  seqF (forF (itSeq (varF 1)) (tgN 4) (seqF (asgF (callF fn_hooked [.b 3, .b 4]) (tgT 2 (tgCons (tgN 5) (tgCons (tgN 3) (tgNil))))) <|
  asgF (opF addD [.b 2, .b 5]) (tgN 2))) <|
  retF (tupF [.t (movF 2), .t (movF 3)])
def fn_value : Fn := bodyFn 6 2 [true, true] F_value
-- slots: 0 _law_script
def F_well : FS :=
  retF (lstF [.t (frzF (opF listSD [.b 0])), .t (litF (.int 0)), .t (litF (.int 0)), .t (litF (.int 90001))])
def fn_well : Fn := bodyFn 1 1 [true] F_well
-- slots: 0 _law_well_here, 1 _law_n, 2 _law_most, 3 _law_word_here, 4 _law_k, 5 _law_index, 6 _law_way
def F_word : FS :=
  seqF (ifF (bT (opF (ltD) [.b 1, .t (litF (.int 2))])) (retF (tupF [])) (passF)) <|
  seqF (asgF (lstF []) (tgN 3)) <|
  seqF (forF (itRg rng1D [.t (callF fn_dip [.b 0, .t (opF addD [.b 2, .t (litF (.int 1))])])]) (tgN 4) (seqF (asgF (callF fn_dip [.b 0, .t (opF subD [.b 1, .t (litF (.int 1))])]) (tgN 5)) <|
  seqF (asgF (callF fn_dip [.b 0, .t (litF (.int 4))]) (tgN 6)) <|
  seqF (ifF (andF (bT (opF (gtD) [.b 6, .t (litF (.int 1))])) (bT (opF (neD) [.b 3, .t (lstF [])]))) (asgF (opF min2D [.t (opF subD [.b 1, .t (litF (.int 2))]), .t (opF max2D [.t (litF (.int 0)), .t (opF addD [.t (opF ixD [.b 3, .t (opF negD [.t (litF (.int 1))])]), .t (opF ixD [.t (lstF [.t (opF negD [.t (litF (.int 1))]), .t (litF (.int 1))]), .t (opF subD [.b 6, .t (litF (.int 2))])])])])]) (tgN 5)) (ifF (andF (bT (opF (eqD) [.b 6, .t (litF (.int 1))])) (bT (opF (neD) [.b 3, .t (lstF [])]))) (asgF (opF ixD [.b 3, .t (callF fn_dip [.b 0, .t (opF lenD [.b 3])])]) (tgN 5)) (passF))) <|
  dropF (mutF 3 appD [.t (varF 5)]))) <|
  retF (opF tupleD [.b 3])
def fn_word : Fn := bodyFn 7 3 [true, true, true] F_word
-- slots: 0 one, 1 other, 2 peg, 3 passed, 4 n, 5 middle, 6 ahead, 7 at
def F_p_far_end : FS :=
  seqF (parF [4, 5] [.t (opF ixD [.b 0, .t (litF (.int 0))]), .t (opF ixD [.b 0, .t (litF (.int 1))])]) <|
  seqF (asgF (opF (ltD) [.b 2, .b 4]) (tgN 6)) <|
  seqF (asgF (ifE (tstF (.b 6)) (opF ixD [.t (opF ixD [.b 0, .t (litF (.int 2))]), .b 2]) (opF ixD [.t (opF ixD [.b 1, .t (litF (.int 2))]), .t (opF subD [.t (opF addD [.b 5, .b 2]), .b 4])])) (tgN 7)) <|
  whF FUEL (tstF (.t (litF (.bl true)))) (seqF (ifF (tstF (.b 6)) (seqF (ifF (bT (opF (ltD) [.b 7, .b 4])) (retF (movF 7)) (passF)) <|
  seqF (augF 7 isubD (.b 4)) <|
  seqF (asgF (litF (.bl true)) (tgSub 3 (.b 7))) <|
  asgF (opF ixD [.t (opF ixD [.b 1, .t (litF (.int 2))]), .b 7]) (tgN 7)) (seqF (ifF (bT (opF (geD) [.b 7, .b 5])) (retF (opF subD [.t (opF addD [.b 4, .b 7]), .b 5])) (passF)) <|
  seqF (asgF (litF (.bl true)) (tgSub 3 (.b 7))) <|
  asgF (opF ixD [.t (opF ixD [.b 0, .t (litF (.int 2))]), .t (opF addD [.b 4, .b 7])]) (tgN 7))) <|
  asgF (notV (varF 6)) (tgN 6))
def fn_p_far_end : Fn := bodyFn 8 4 [true, true, true, true] F_p_far_end
-- slots: 0 one, 1 other, 2 passed, 3 n, 4 rings, 5 start, 6 at
def F_p_loose_rings : FS :=
  seqF (asgF (opF ixD [.b 0, .t (litF (.int 0))]) (tgN 3)) <|
  seqF (asgF (litF (.int 0)) (tgN 4)) <|
  seqF (forF (itRg rng1D [.t (opF ixD [.b 0, .t (litF (.int 1))])]) (tgN 5) (ifF (notF (tstF (.t (opF ixD [.b 2, .b 5])))) (seqF (augF 4 iaddD (.t (litF (.int 1)))) <|
  seqF (asgF (varF 5) (tgN 6)) <|
  whF FUEL (notF (tstF (.t (opF ixD [.b 2, .b 6])))) (seqF (asgF (litF (.bl true)) (tgSub 2 (.b 6))) <|
  seqF (asgF (opF subD [.t (opF ixD [.t (opF ixD [.b 0, .t (litF (.int 2))]), .t (opF addD [.b 3, .b 6])]), .b 3]) (tgN 6)) <|
  seqF (asgF (litF (.bl true)) (tgSub 2 (.b 6))) <|
  asgF (opF ixD [.t (opF ixD [.b 1, .t (litF (.int 2))]), .b 6]) (tgN 6))) (passF))) <|
  retF (movF 4)
def fn_p_loose_rings : Fn := bodyFn 7 3 [true, true, true] F_p_loose_rings
-- slots: 0 one, 1 other, 2 n, 3 k, 4 passed, 5 mates, 6 peg
def F_p_put_behind : FS :=
  seqF (parF [2, 3] [.t (opF ixD [.b 0, .t (litF (.int 0))]), .t (opF ixD [.b 1, .t (litF (.int 1))])]) <|
  seqF (asgF (opF mulD [.t (lstF [.t (litF (.bl false))]), .t (opF ixD [.b 0, .t (litF (.int 1))])]) (tgN 4)) <|
  seqF (asgF (lstF []) (tgN 5)) <|
  seqF (forF (itRg rng1D [.t (opF addD [.b 2, .b 3])]) (tgN 6) (dropF (mutF 5 appD [.t (callF fn_p_far_end [.b 0, .b 1, .b 6, .b 4])]))) <|
  retF (tupF [.t (callF fn_p_loose_rings [.b 0, .b 1, .b 4]), .t (movF 2), .t (movF 3), .t (opF tupleD [.b 5])])
def fn_p_put_behind : Fn := bodyFn 7 2 [true, true] F_p_put_behind
-- slots: 0 one, 1 other, 2 rings, 3 n, 4 k, 5 mates
def F_p_chained : FS :=
  seqF (asgF (callF fn_p_put_behind [.t (opF ixD [.b 0, .t (litF (.int 1))]), .t (opF ixD [.b 1, .t (litF (.int 1))])]) (tgT 4 (tgCons (tgN 2) (tgCons (tgN 3) (tgCons (tgN 4) (tgCons (tgN 5) (tgNil))))))) <|
  retF (tupF [.t (opF addD [.t (opF addD [.t (opF ixD [.b 0, .t (litF (.int 0))]), .t (opF ixD [.b 1, .t (litF (.int 0))])]), .b 2]), .t (tupF [.t (movF 3), .t (movF 4), .t (movF 5)])])
def fn_p_chained : Fn := bodyFn 6 2 [true, true] F_p_chained
-- slots: 0 n
def F_p_check_size : FS :=
  ifF (bT (opF (ltD) [.b 0, .t (litF (.int 1))])) (neverF) (passF)
def fn_p_check_size : Fn := bodyFn 1 1 [true] F_p_check_size
-- slots: 0 n, 1 words, 2 word, 3 index
def F_p_check_words : FS :=
  seqF (dropF (callF fn_p_check_size [.b 0])) <|
  forF (itSeq (varF 1)) (tgN 2) (forF (itSeq (varF 2)) (tgN 3) (ifF (notF (bT (chainF (fun i j => decide (i ≤ j)) (fun i j => decide (i < j)) (.t (litF (.int 0))) (.b 3) (.t (opF subD [.b 0, .t (litF (.int 1))]))))) (neverF) (passF)))
def fn_p_check_words : Fn := bodyFn 4 2 [true, true] F_p_check_words
-- slots: 0 n
def F_p_straight : FS :=
  seqF (dropF (callF fn_p_check_size [.b 0])) <|
  retF (tupF [.t (varF 0), .t (varF 0), .t (opF tupleD [.t (opF addD [.t (opF (lrgD rng2D) [.b 0, .t (opF mulD [.t (litF (.int 2)), .b 0])]), .t (opF (lrgD rng1D) [.b 0])])])])
def fn_p_straight : Fn := bodyFn 1 1 [true] F_p_straight
-- slots: 0 n, 1 i, 2 row
def F_p_hook : FS :=
  seqF (dropF (callF fn_p_check_size [.b 0])) <|
  seqF (ifF (orF (bT (opF (ltD) [.b 1, .t (litF (.int 0))])) (bT (opF (gtD) [.b 1, .t (opF subD [.b 0, .t (litF (.int 2))])]))) (neverF) (passF)) <|
  seqF (asgF (opF listD [.t (opF ixD [.t (callF fn_p_straight [.b 0]), .t (litF (.int 2))])]) (tgN 2)) <|
  seqF (asgF (tupF [.t (opF addD [.b 1, .t (litF (.int 1))]), .t (varF 1)]) (tgT 2 (tgCons (tgSub 2 (.b 1)) (tgCons (tgSub 2 (.t (opF addD [.b 1, .t (litF (.int 1))]))) (tgNil))))) <|
  seqF (asgF (tupF [.t (opF addD [.t (opF addD [.b 0, .b 1]), .t (litF (.int 1))]), .t (opF addD [.b 0, .b 1])]) (tgT 2 (tgCons (tgSub 2 (.t (opF addD [.b 0, .b 1]))) (tgCons (tgSub 2 (.t (opF addD [.t (opF addD [.b 0, .b 1]), .t (litF (.int 1))]))) (tgNil))))) <|
  retF (tupF [.t (varF 0), .t (varF 0), .t (opF tupleD [.b 2])])
def fn_p_hook : Fn := bodyFn 3 2 [true, true] F_p_hook
-- slots: 0 n, 1 word, 2 value, 3 index
def F_p_value_of : FS :=
  seqF (dropF (opF (starD fn_p_check_words 1) [.b 0, .b 1])) <|
  seqF (asgF (tupF [.t (litF (.int 0)), .t (callF fn_p_straight [.b 0])]) (tgN 2)) <|
  seqF (forF (itSeq (varF 1)) (tgN 3) (asgF (callF fn_p_chained [.b 2, .t (tupF [.t (litF (.int 0)), .t (callF fn_p_hook [.b 0, .b 3])])]) (tgN 2))) <|
  retF (movF 2)
def fn_p_value_of : Fn := bodyFn 4 2 [true, true] F_p_value_of
-- slots: 0 _law_script, 1 _law_well_here, 2 _law_k, 3 _law_n, 4 _law_word_here, 5 _law_due, 6 _law_at, 7 _law_left, 8 _law_right, 9 _law_rings, 10 _law_mat
def F_law : FS :=
  seqF (asgF (callF fn_well [.b 0]) (tgN 1)) <|
  seqF (forF (itRg rng1D [.t (litF (.int 4))]) (tgN 2) (seqF (asgF (opF addD [.t (litF (.int 1)), .t (callF fn_dip [.b 1, .t (litF (.int 8))])]) (tgN 3)) <|
  seqF (asgF (callF fn_word [.b 1, .b 3, .t (litF (.int 30))]) (tgN 4)) <|
  seqF (asgF (callF fn_value [.b 3, .b 4]) (tgN 5)) <|
  seqF (ifF (orF (notF (tstF (.t (callF fn_same [.t (callF fn_p_value_of [.b 3, .b 4]), .b 5, .t (litF (.int 9))])))) (notF (tstF (.t (callF fn_same [.t (callKF fn_p_value_of [1, 0] [.b 4, .b 3]), .b 5, .t (litF (.int 9))]))))) (retF (litF (.bl false))) (passF)) <|
  seqF (asgF (callF fn_dip [.b 1, .t (opF addD [.t (opF lenD [.b 4]), .t (litF (.int 1))])]) (tgN 6)) <|
  seqF (parF [7, 8] [.t (callF fn_p_value_of [.b 3, .t (opF (partD false true) [.b 4, .b 6])]), .t (callF fn_p_value_of [.b 3, .t (opF (partD true false) [.b 4, .b 6])])]) <|
  seqF (ifF (notF (tstF (.t (callF fn_same [.t (lstF [.t (varF 7), .t (varF 8)]), .t (lstF [.t (callF fn_value [.b 3, .t (opF (partD false true) [.b 4, .b 6])]), .t (callF fn_value [.b 3, .t (opF (partD true false) [.b 4, .b 6])])]), .t (litF (.int 9))])))) (retF (litF (.bl false))) (passF)) <|
  seqF (asgF (callF fn_behind [.t (opF ixD [.b 7, .t (litF (.int 1))]), .t (opF ixD [.b 8, .t (litF (.int 1))])]) (tgT 2 (tgCons (tgN 9) (tgCons (tgN 10) (tgNil))))) <|
  ifF (notF (tstF (.t (callF fn_same [.t (tupF [.t (opF addD [.t (opF addD [.t (opF ixD [.b 7, .t (litF (.int 0))]), .t (opF ixD [.b 8, .t (litF (.int 0))])]), .b 9]), .t (varF 10)]), .b 5, .t (litF (.int 9))])))) (retF (litF (.bl false))) (passF))) <|
  retF (callF fn_same [.t (lstF [.t (callF fn_p_value_of [.t (litF (.int 1)), .t (tupF [])]), .t (callF fn_p_value_of [.t (litF (.int 8)), .t (tupF [])])]), .t (lstF [.t (callF fn_value [.t (litF (.int 1)), .t (tupF [])]), .t (callF fn_value [.t (litF (.int 8)), .t (tupF [])])]), .t (litF (.int 9))])
def fn_law : Fn := bodyFn 11 1 [true] F_law
end VS
set_option Elab.async false
set_option linter.all false
namespace VS
/-! ### strings that do not cross, on a list: neighbours that are mates taken out, again and again -/
inductive NC {α : Type} (f : α → α) : List α → Prop
  | nil : NC f []
  | cons {l r : List α} {a b : α} : f a = b → f b = a → NC f (l ++ r) → NC f (l ++ a :: b :: r)
theorem NC.wrap {α : Type} {f : α → α} {x b : α} {r : List α} (h : NC f r) (h1 : f x = b) (h2 : f b = x) : NC f (b :: (r ++ [x])) := by
  induction h with
  | nil => exact NC.cons (l := []) (r := []) h2 h1 .nil
  | @cons l r a c e1 e2 _ ih =>
    have := NC.cons (l := b :: l) (r := r ++ [x]) e1 e2 (by simpa using ih)
    simpa using this
theorem NC.rot1 {α : Type} {f : α → α} {x : α} {R : List α} (h : NC f (x :: R)) : NC f (R ++ [x]) := by
  generalize e : x :: R = L at h
  induction h generalizing R with
  | nil => cases e
  | @cons l r a c e1 e2 hh ih =>
    cases l with
    | nil =>
      simp only [List.nil_append, List.cons.injEq] at e
      obtain ⟨rfl, rfl⟩ := e
      simpa using hh.wrap e1 e2
    | cons y l =>
      simp only [List.cons_append, List.cons.injEq] at e
      obtain ⟨rfl, rfl⟩ := e
      have := NC.cons (l := l) (r := r ++ [x]) e1 e2 (by simpa using ih (R := l ++ r) rfl)
      simpa using this
theorem NC.rot {α : Type} {f : α → α} : ∀ {l r : List α}, NC f (l ++ r) → NC f (r ++ l)
  | [], r, h => by simpa using h
  | x :: l, r, h => by
    have h1 : NC f (l ++ (r ++ [x])) := by simpa using NC.rot1 (R := l ++ r) (by simpa using h)
    simpa using NC.rot (l := l) (r := r ++ [x]) h1
theorem NC.reverse {α : Type} {f : α → α} {R : List α} (h : NC f R) : NC f R.reverse := by
  induction h with
  | nil => exact .nil
  | @cons l r a b e1 e2 _ ih =>
    have := NC.cons (l := r.reverse) (r := l.reverse) e2 e1 (by simpa using ih)
    simpa using this
theorem NC.map {α β : Type} {f : α → α} {g : β → β} {R : List α} (φ : α → β) (h : NC f R) (hφ : ∀ x ∈ R, g (φ x) = φ (f x)) : NC g (R.map φ) := by
  induction h with
  | nil => exact .nil
  | @cons l r a b e1 e2 _ ih =>
    rw [List.map_append, List.map_cons, List.map_cons]
    refine .cons ?_ ?_ ?_
    · rw [hφ a (by simp), e1]
    · rw [hφ b (by simp), e2]
    · rw [← List.map_append]
      exact ih fun x hx => hφ x (by rcases List.mem_append.mp hx with h | h <;> simp [h])
theorem NC.congr {α : Type} {f g : α → α} {R : List α} (h : NC f R) (hfg : ∀ x ∈ R, g x = f x) : NC g R := by
  have := NC.map (g := g) id h hfg
  simpa using this
/-- the pairs of a list whose neighbours are joined, again and again, round about -/
inductive NCP {α : Type} : List α → List (α × α) → Prop
  | nil : NCP [] []
  | cons {l r : List α} {a b : α} {ps : List (α × α)} : NCP (l ++ r) ps → NCP (l ++ a :: b :: r) ((a, b) :: ps)
  | conr {l r : List α} {a b : α} {ps : List (α × α)} : NCP (l ++ r) ps → NCP (l ++ b :: a :: r) ((a, b) :: ps)
  | rot {l r : List α} {ps : List (α × α)} : NCP (l ++ r) ps → NCP (r ++ l) ps
  | perm {R : List α} {ps qs : List (α × α)} : NCP R ps → ps.Perm qs → NCP R qs
def ends {α : Type} (ps : List (α × α)) : List α := ps.flatMap fun p => [p.1, p.2]
theorem NCP.ends {α : Type} {R : List α} {ps : List (α × α)} (h : NCP R ps) : (ends ps).Perm R := by
  induction h with
  | nil => exact .refl _
  | @cons l r a b ps _ ih =>
    show (a :: b :: VS.ends ps).Perm _
    refine ((ih.cons b).cons a).trans ?_
    exact (List.perm_middle (a := a) (l₁ := l) (l₂ := b :: r)).trans ((List.perm_middle (a := b) (l₁ := l) (l₂ := r)).cons a) |>.symm
  | @conr l r a b ps _ ih =>
    show (a :: b :: VS.ends ps).Perm _
    refine ((ih.cons b).cons a).trans ?_
    refine (List.Perm.swap b a _).trans ?_
    exact (List.perm_middle (a := b) (l₁ := l) (l₂ := a :: r)).trans ((List.perm_middle (a := a) (l₁ := l) (l₂ := r)).cons b) |>.symm
  | rot _ ih => exact ih.trans List.perm_append_comm
  | perm _ hp ih => exact (hp.symm.flatMap_right _).trans ih
theorem NCP.nc {α : Type} {f : α → α} {R : List α} {ps : List (α × α)} (h : NCP R ps) (hf : ∀ p ∈ ps, f p.1 = p.2 ∧ f p.2 = p.1) : NC f R := by
  induction h with
  | nil => exact .nil
  | @cons l r a b ps _ ih => exact .cons (hf (a, b) (by simp)).1 (hf (a, b) (by simp)).2 (ih fun p hp => hf p (by simp [hp]))
  | @conr l r a b ps _ ih => exact .cons (hf (a, b) (by simp)).2 (hf (a, b) (by simp)).1 (ih fun p hp => hf p (by simp [hp]))
  | rot _ ih => exact (ih hf).rot
  | perm _ hp ih => exact ih fun p h => hf p (hp.mem_iff.mp h)
theorem NCP.map {α β : Type} {R : List α} {ps : List (α × α)} (φ : α → β) (h : NCP R ps) : NCP (R.map φ) (ps.map fun p => (φ p.1, φ p.2)) := by
  induction h with
  | nil => exact .nil
  | @cons l r a b ps _ ih => rw [List.map_append] at ih ⊢; exact .cons ih
  | @conr l r a b ps _ ih => rw [List.map_append] at ih ⊢; exact .conr ih
  | rot _ ih => rw [List.map_append] at ih ⊢; exact .rot ih
  | perm _ hp ih => exact .perm ih (hp.map _)
theorem NCP.reverse {α : Type} {R : List α} {ps : List (α × α)} (h : NCP R ps) : NCP R.reverse ps := by
  induction h with
  | nil => exact .nil
  | @cons l r a b ps _ ih =>
    have := NCP.conr (l := r.reverse) (r := l.reverse) (a := a) (b := b) (by simpa using ih)
    simpa using this
  | @conr l r a b ps _ ih =>
    have := NCP.cons (l := r.reverse) (r := l.reverse) (a := a) (b := b) (by simpa using ih)
    simpa using this
  | rot _ ih => rw [List.reverse_append] at ih ⊢; exact .rot ih
  | perm _ hp ih => exact .perm ih hp
/-- all within one another -/
theorem NCP.wrap {α : Type} {R : List α} {ps : List (α × α)} {a b : α} (h : NCP R ps) : NCP (a :: R ++ [b]) ((a, b) :: ps) := by
  have h1 : NCP (R ++ b :: a :: []) ((a, b) :: ps) := NCP.conr (l := R) (r := []) (by simpa using h)
  have h2 := NCP.rot (l := R ++ [b]) (r := [a]) (by simpa using h1)
  simpa using h2
/-! the stack (its top is the head) -/
def push {α : Type} [DecidableEq α] (f : α → α) (s : List α) (x : α) : List α := match s with
  | [] => [x]
  | t :: s => if t = f x then s else x :: t :: s
def red {α : Type} [DecidableEq α] (f : α → α) (s : List α) (R : List α) : List α := R.foldl (push f) s
theorem red_cons {α : Type} [DecidableEq α] (f : α → α) (s : List α) (x : α) (r : List α) : red f s (x :: r) = red f (push f s x) r := rfl
theorem red_append {α : Type} [DecidableEq α] (f : α → α) (s l r : List α) : red f s (l ++ r) = red f (red f s l) r := List.foldl_append
theorem push_cons {α : Type} [DecidableEq α] (f : α → α) (t : α) (s : List α) (x : α) : push f (t :: s) x = if t = f x then s else x :: t :: s := rfl
theorem push_mem {α : Type} [DecidableEq α] {f : α → α} {s : List α} {x y : α} (h : y ∈ push f s x) : y ∈ s ∨ y = x := by
  cases s with
  | nil => exact .inr (by simpa [push] using h)
  | cons t s =>
    rw [push_cons] at h
    split at h
    · exact .inl (by simp [h])
    · rcases List.mem_cons.mp h with rfl | h
      · exact .inr rfl
      · exact .inl h
theorem red_mem {α : Type} [DecidableEq α] {f : α → α} : ∀ {s l : List α} {y : α}, y ∈ red f s l → y ∈ s ∨ y ∈ l
  | s, [], y, h => .inl h
  | s, x :: l, y, h => by
    rw [red_cons] at h
    rcases red_mem h with h | h
    · rcases push_mem h with h | h
      · exact .inl h
      · exact .inr (by simp [h])
    · exact .inr (by simp [h])
theorem NC.red {α : Type} [DecidableEq α] {f : α → α} {R : List α} (h : NC f R) (hn : R.Nodup) : VS.red f [] R = [] := by
  induction h with
  | nil => rfl
  | @cons l r a b e1 e2 _ ih =>
    have hp : (l ++ a :: b :: r).Perm (a :: b :: (l ++ r)) := (List.perm_middle (a := a) (l₁ := l) (l₂ := b :: r)).trans ((List.perm_middle (a := b) (l₁ := l) (l₂ := r)).cons a)
    have hn2 := hp.nodup_iff.mp hn
    simp only [List.nodup_cons, List.mem_cons, not_or] at hn2
    obtain ⟨⟨hab, ha⟩, hb, hlr⟩ := hn2
    have hbl : b ∉ l := fun h => hb (by simp [h])
    rw [red_append, red_cons, red_cons]
    have h1 : push f (VS.red f [] l) a = a :: VS.red f [] l := by
      cases hs : VS.red f [] l with
      | nil => rfl
      | cons t s =>
        have ht : t ∈ l := by
          have : t ∈ VS.red f [] l := by rw [hs]; simp
          rcases red_mem this with h | h
          · cases h
          · exact h
        rw [push_cons, e1, if_neg]
        intro e
        subst e
        exact hbl ht
    have h2 : push f (a :: VS.red f [] l) b = VS.red f [] l := by
      rw [push_cons, if_pos e2.symm]
    rw [h1, h2, ← red_append]
    exact ih hlr
end VS
set_option Elab.async false
set_option linter.all false
namespace VS
/-! ### mats as rows of mates, and as strings that join spots -/
def ring (u d : Nat) : List (Nat × Nat) := (List.range u).map (fun i => (0, i)) ++ (List.range d).reverse.map (fun i => (1, i))
def idx (u : Nat) (s : Nat × Nat) : Nat := s.1 * u + s.2
def roundL (n m : Nat) : List Nat := List.range n ++ (List.range m).reverse.map (n + ·)
theorem ring_idx (u d : Nat) : (ring u d).map (idx u) = roundL u d := by
  unfold ring roundL
  rw [List.map_append, List.map_map, List.map_map]
  congr 1
  · conv => rhs; rw [← List.map_id (List.range u)]
    apply List.map_congr_left
    intro i _
    simp [idx]
  · apply List.map_congr_left
    intro i _
    simp [idx]
theorem roundL_perm (n m : Nat) : (roundL n m).Perm (List.range (n + m)) := by
  unfold roundL
  rw [List.range_add]
  exact List.Perm.append_left _ ((List.reverse_perm _).map _)
theorem roundL_nodup (n m : Nat) : (roundL n m).Nodup := (roundL_perm n m).nodup_iff.mpr List.nodup_range
theorem mem_roundL {n m i : Nat} : i ∈ roundL n m ↔ i < n + m := by rw [(roundL_perm n m).mem_iff, List.mem_range]
theorem ring_len (u d : Nat) : (ring u d).length = u + d := by simp [ring]
theorem nodup_of_map {α β : Type} {f : α → β} {xs : List α} (h : (xs.map f).Nodup) : xs.Nodup := by
  induction xs with
  | nil => simp
  | cons x xs ih =>
    simp only [List.map_cons, List.nodup_cons] at h ⊢
    exact ⟨fun hx => h.1 (List.mem_map_of_mem hx), ih h.2⟩
theorem map_inj {α β : Type} {f : α → β} {xs : List α} (h : (xs.map f).Nodup) {a b : α} (ha : a ∈ xs) (hb : b ∈ xs) (e : f a = f b) : a = b := by
  induction xs with
  | nil => cases ha
  | cons x xs ih =>
    simp only [List.map_cons, List.nodup_cons] at h
    rcases List.mem_cons.mp ha with h1 | h1 <;> rcases List.mem_cons.mp hb with h2 | h2
    · rw [h1, h2]
    · subst h1; exact absurd (e ▸ List.mem_map_of_mem h2) h.1
    · subst h2; exact absurd (e ▸ List.mem_map_of_mem h1) h.1
    · exact ih h.2 h1 h2
theorem ring_map_nodup (u d : Nat) : ((ring u d).map (idx u)).Nodup := by rw [ring_idx]; exact roundL_nodup u d
theorem ring_nodup (u d : Nat) : (ring u d).Nodup := nodup_of_map (ring_map_nodup u d)
theorem idx_lt {u d : Nat} {s : Nat × Nat} (h : s ∈ ring u d) : idx u s < u + d := mem_roundL.mp (by rw [← ring_idx]; exact List.mem_map_of_mem h)
theorem idx_of {u d i : Nat} (h : i < u + d) : ∃ s ∈ ring u d, idx u s = i := by
  have : i ∈ (ring u d).map (idx u) := by rw [ring_idx]; exact mem_roundL.mpr h
  obtain ⟨s, h1, h2⟩ := List.mem_map.mp this
  exact ⟨s, h1, h2⟩
theorem mem_ring {u d : Nat} {s : Nat × Nat} : s ∈ ring u d ↔ (s.1 = 0 ∧ s.2 < u) ∨ (s.1 = 1 ∧ s.2 < d) := by
  unfold ring
  obtain ⟨a, b⟩ := s
  simp only [List.mem_append, List.mem_map, List.mem_range, List.mem_reverse, Prod.mk.injEq]
  constructor
  · rintro (⟨i, h, rfl, rfl⟩ | ⟨i, h, rfl, rfl⟩)
    · exact .inl ⟨rfl, h⟩
    · exact .inr ⟨rfl, h⟩
  · rintro (⟨h1, h2⟩ | ⟨h1, h2⟩)
    · exact .inl ⟨b, h2, h1.symm, rfl⟩
    · exact .inr ⟨b, h2, h1.symm, rfl⟩
theorem mem_ends {α : Type} {ps : List (α × α)} {a : α} : a ∈ ends ps ↔ ∃ p ∈ ps, a = p.1 ∨ a = p.2 := by
  unfold ends
  simp [List.mem_flatMap]
theorem ends_ne {α : Type} : ∀ {ps : List (α × α)}, (ends ps).Nodup → ∀ p ∈ ps, p.1 ≠ p.2
  | q :: ps, h, p, hp => by
    have h : (q.1 :: q.2 :: ends ps).Nodup := h
    simp only [List.nodup_cons, List.mem_cons, not_or] at h
    rcases List.mem_cons.mp hp with rfl | hp
    · exact h.1.1
    · exact ends_ne h.2.2 p hp
structure Row (u d : Nat) (ps : List ((Nat × Nat) × (Nat × Nat))) (row : List Nat) : Prop where
  len : row.length = u + d
  at_ : ∀ p ∈ ps, row[idx u p.1]? = some (idx u p.2) ∧ row[idx u p.2]? = some (idx u p.1)
structure IsMat (n m : Nat) (row : List Nat) : Prop where
  pos : 0 < n + m
  len : row.length = n + m
  lt : ∀ i j, row[i]? = some j → j < n + m ∧ j ≠ i ∧ row[j]? = some i
  nc : NC (fun i => row.getD i 0) (roundL n m)
theorem Row.get {u d : Nat} {ps : List ((Nat × Nat) × (Nat × Nat))} {row : List Nat} (h : Row u d ps row) (hp : (ends ps).Perm (ring u d)) {i : Nat} (hi : i < u + d) :
    ∃ a b : Nat × Nat, ((a, b) ∈ ps ∨ (b, a) ∈ ps) ∧ idx u a = i ∧ row[i]? = some (idx u b) ∧ row[idx u b]? = some i := by
  obtain ⟨s, hs, rfl⟩ := idx_of hi
  obtain ⟨p, hp1, e⟩ := mem_ends.mp (hp.mem_iff.mpr hs)
  obtain ⟨h1, h2⟩ := h.at_ p hp1
  rcases e with rfl | rfl
  · exact ⟨p.1, p.2, .inl hp1, rfl, h1, h2⟩
  · exact ⟨p.2, p.1, .inr hp1, rfl, h2, h1⟩
theorem Row.uniq {u d : Nat} {ps : List ((Nat × Nat) × (Nat × Nat))} {r1 r2 : List Nat} (h1 : Row u d ps r1) (h2 : Row u d ps r2) (hp : (ends ps).Perm (ring u d)) : r1 = r2 := by
  apply List.ext_getElem?
  intro i
  by_cases hi : i < u + d
  · obtain ⟨a, b, hm, hi2, e, _⟩ := h1.get hp hi
    rcases hm with hm | hm
    · have := (h2.at_ _ hm).1; rw [hi2] at this; rw [e, this]
    · have := (h2.at_ _ hm).2; rw [hi2] at this; rw [e, this]
  · rw [List.getElem?_eq_none (by have := h1.len; omega), List.getElem?_eq_none (by have := h2.len; omega)]
theorem Row.mat {u d : Nat} {ps : List ((Nat × Nat) × (Nat × Nat))} {row : List Nat} (h : Row u d ps row) (hc : NCP (ring u d) ps) (h0 : 0 < u + d) : IsMat u d row := by
  have hp := hc.ends
  have hn := hp.nodup_iff.mpr (ring_nodup u d)
  refine ⟨h0, h.len, fun i j e => ?_, ?_⟩
  · have hi : i < u + d := by have := (List.getElem?_eq_some_iff.mp e).1; have := h.len; omega
    obtain ⟨a, b, hm, rfl, e1, e2⟩ := h.get hp hi
    rw [e] at e1
    cases e1
    have ha : a ∈ ring u d := hp.mem_iff.mp (mem_ends.mpr (by rcases hm with h | h; exact ⟨_, h, .inl rfl⟩; exact ⟨_, h, .inr rfl⟩))
    have hb : b ∈ ring u d := hp.mem_iff.mp (mem_ends.mpr (by rcases hm with h | h; exact ⟨_, h, .inr rfl⟩; exact ⟨_, h, .inl rfl⟩))
    refine ⟨idx_lt hb, fun e => ?_, e2⟩
    have := map_inj (ring_map_nodup u d) hb ha e
    subst this
    rcases hm with h | h <;> exact ends_ne hn _ h rfl
  · rw [← ring_idx]
    refine NCP.nc (hc.map (idx u)) fun q hq => ?_
    obtain ⟨p, hp1, rfl⟩ := List.mem_map.mp hq
    obtain ⟨h1, h2⟩ := h.at_ p hp1
    simp only [List.getD_eq_getElem?_getD, h1, h2]
    exact ⟨rfl, rfl⟩
/-- the strings, written into a row -/
def madeL (u : Nat) (ps : List ((Nat × Nat) × (Nat × Nat))) (row : List Nat) : List Nat := ps.foldl (fun row p => (row.set (idx u p.1) (idx u p.2)).set (idx u p.2) (idx u p.1)) row
theorem madeL_spec {u : Nat} : ∀ {ps : List ((Nat × Nat) × (Nat × Nat))} {row : List Nat}, ((ends ps).map (idx u)).Nodup → (∀ i ∈ (ends ps).map (idx u), i < row.length) →
    (madeL u ps row).length = row.length ∧ (∀ p ∈ ps, (madeL u ps row)[idx u p.1]? = some (idx u p.2) ∧ (madeL u ps row)[idx u p.2]? = some (idx u p.1)) ∧ ∀ i, i ∉ (ends ps).map (idx u) → (madeL u ps row)[i]? = row[i]?
  | [], row, _, _ => ⟨rfl, (by simp), fun i _ => rfl⟩
  | q :: ps, row, hn, hl => by
    have hn' : (idx u q.1 :: idx u q.2 :: (ends ps).map (idx u)).Nodup := hn
    have hl' : ∀ i ∈ (idx u q.1 :: idx u q.2 :: (ends ps).map (idx u)), i < row.length := hl
    simp only [List.nodup_cons, List.mem_cons, not_or] at hn'
    obtain ⟨⟨h1, h2⟩, h3, h4⟩ := hn'
    have l1 := hl' (idx u q.1) (by simp)
    have l2 := hl' (idx u q.2) (by simp)
    obtain ⟨e1, e2, e3⟩ := madeL_spec (u := u) (ps := ps) (row := (row.set (idx u q.1) (idx u q.2)).set (idx u q.2) (idx u q.1)) h4 (by
      intro i hi
      rw [List.length_set, List.length_set]
      exact hl' i (by simp [hi]))
    refine ⟨by simpa [madeL] using e1, fun p hp => ?_, fun i hi => ?_⟩
    · rcases List.mem_cons.mp hp with rfl | hp
      · refine ⟨?_, ?_⟩
        · show (madeL u ps _)[_]? = _
          rw [e3 _ h2, List.getElem?_set_ne (by omega), List.getElem?_set_self (by omega)]
        · show (madeL u ps _)[_]? = _
          rw [e3 _ h3, List.getElem?_set_self (by rw [List.length_set]; omega)]
      · exact e2 p hp
    · have hi' : i ∉ (idx u q.1 :: idx u q.2 :: (ends ps).map (idx u)) := hi
      simp only [List.mem_cons, not_or] at hi'
      show (madeL u ps _)[_]? = _
      rw [e3 _ hi'.2.2, List.getElem?_set_ne (by omega), List.getElem?_set_ne (by omega)]
theorem madeL_row {u d : Nat} {ps : List ((Nat × Nat) × (Nat × Nat))} (hp : (ends ps).Perm (ring u d)) : Row u d ps (madeL u ps (List.replicate (u + d) 0)) := by
  have hm := hp.map (idx u)
  obtain ⟨e1, e2, _⟩ := madeL_spec (u := u) (ps := ps) (row := List.replicate (u + d) 0) (hm.nodup_iff.mpr (ring_map_nodup u d)) (by
    intro i hi
    rw [List.length_replicate]
    have := hm.mem_iff.mp hi
    rw [ring_idx] at this
    exact mem_roundL.mp this)
  exact ⟨by rw [e1, List.length_replicate], e2⟩
/-- a row whose pegs are placed anew -/
theorem Row.remade {u d u' d' : Nat} {ps : List ((Nat × Nat) × (Nat × Nat))} {row new : List Nat} {place : Nat → Nat} {φ : Nat × Nat → Nat × Nat} (h : Row u d ps row) (hc : (ends ps).Perm (ring u d)) (hl : new.length = u' + d')
    (hn : ∀ i j, row[i]? = some j → new[place i]? = some (place j)) (hφ : ∀ s ∈ ring u d, place (idx u s) = idx u' (φ s)) : Row u' d' (ps.map fun p => (φ p.1, φ p.2)) new := by
  refine ⟨hl, fun q hq => ?_⟩
  obtain ⟨p, hp, rfl⟩ := List.mem_map.mp hq
  obtain ⟨h1, h2⟩ := h.at_ p hp
  have m1 := hφ p.1 (hc.mem_iff.mp (mem_ends.mpr ⟨p, hp, .inl rfl⟩))
  have m2 := hφ p.2 (hc.mem_iff.mp (mem_ends.mpr ⟨p, hp, .inr rfl⟩))
  have n1 := hn _ _ h1
  have n2 := hn _ _ h2
  rw [m1, m2] at n1 n2
  exact ⟨n1, n2⟩
def flipS (s : Nat × Nat) : Nat × Nat := (1 - s.1, s.2)
def sideS (u d : Nat) (s : Nat × Nat) : Nat × Nat := (s.1, (if s.1 = 0 then u else d) - 1 - s.2)
theorem ring_flip (u d : Nat) : (ring u d).map flipS = (ring d u).reverse := by
  unfold ring
  rw [List.map_append, List.map_map, List.map_map, List.reverse_append, ← List.map_reverse, List.reverse_reverse, ← List.map_reverse]
  rfl
theorem range_rev (n : Nat) : (List.range n).map (fun i => n - 1 - i) = (List.range n).reverse := by
  apply List.ext_getElem
  · simp
  · intro i h1 h2
    simp at h1
    simp
theorem ring_side (u d : Nat) : ∃ l r : List (Nat × Nat), (ring u d).map (sideS u d) = r ++ l ∧ (ring u d).reverse = l ++ r := by
  refine ⟨(List.range d).map (fun i => (1, i)), (List.range u).reverse.map (fun i => (0, i)), ?_, ?_⟩
  · unfold ring
    rw [List.map_append, List.map_map, List.map_map]
    congr 1
    · rw [← range_rev u, List.map_map]
      rfl
    · have : (List.range d) = ((List.range d).reverse.map (fun i => d - 1 - i)) := by
        rw [List.map_reverse, range_rev, List.reverse_reverse]
      conv => rhs; rw [this]
      rw [List.map_map]
      rfl
  · unfold ring
    rw [List.reverse_append, ← List.map_reverse, List.reverse_reverse, ← List.map_reverse]
theorem NCP.flip {u d : Nat} {ps : List ((Nat × Nat) × (Nat × Nat))} (h : NCP (ring u d) ps) : NCP (ring d u) (ps.map fun p => (flipS p.1, flipS p.2)) := by
  have := (h.map flipS).reverse
  rwa [ring_flip, List.reverse_reverse] at this
theorem NCP.side {u d : Nat} {ps : List ((Nat × Nat) × (Nat × Nat))} (h : NCP (ring u d) ps) : NCP (ring u d) (ps.map fun p => (sideS u d p.1, sideS u d p.2)) := by
  obtain ⟨l, r, e1, e2⟩ := ring_side u d
  have := h.map (sideS u d)
  rw [e1] at this
  have := this.rot.reverse
  rwa [← e2, List.reverse_reverse] at this
theorem map_id_of {α : Type} {f : α → α} {xs : List α} (h : ∀ x ∈ xs, f x = x) : xs.map f = xs := by
  conv => rhs; rw [← List.map_id xs]
  exact List.map_congr_left h
theorem flip_flip {u d : Nat} {ps : List ((Nat × Nat) × (Nat × Nat))} (h : (ends ps).Perm (ring u d)) : (ps.map fun p => (flipS p.1, flipS p.2)).map (fun p => (flipS p.1, flipS p.2)) = ps := by
  rw [List.map_map]
  refine map_id_of fun p hp => ?_
  have m1 := mem_ring.mp (h.mem_iff.mp (mem_ends.mpr ⟨p, hp, .inl rfl⟩))
  have m2 := mem_ring.mp (h.mem_iff.mp (mem_ends.mpr ⟨p, hp, .inr rfl⟩))
  obtain ⟨⟨a, b⟩, c, e⟩ := p
  simp only [flipS, Function.comp_apply, Prod.mk.injEq] at m1 m2 ⊢
  rcases m1 with ⟨rfl, m1⟩ | ⟨rfl, m1⟩ <;> rcases m2 with ⟨rfl, m2⟩ | ⟨rfl, m2⟩ <;> simp
theorem side_side {u d : Nat} {ps : List ((Nat × Nat) × (Nat × Nat))} (h : (ends ps).Perm (ring u d)) : (ps.map fun p => (sideS u d p.1, sideS u d p.2)).map (fun p => (sideS u d p.1, sideS u d p.2)) = ps := by
  rw [List.map_map]
  refine map_id_of fun p hp => ?_
  have m1 := mem_ring.mp (h.mem_iff.mp (mem_ends.mpr ⟨p, hp, .inl rfl⟩))
  have m2 := mem_ring.mp (h.mem_iff.mp (mem_ends.mpr ⟨p, hp, .inr rfl⟩))
  obtain ⟨⟨a, b⟩, c, e⟩ := p
  simp only [sideS, Function.comp_apply, Prod.mk.injEq] at m1 m2 ⊢
  rcases m1 with ⟨rfl, m1⟩ | ⟨rfl, m1⟩ <;> rcases m2 with ⟨rfl, m2⟩ | ⟨rfl, m2⟩ <;> simp <;> omega
theorem flip_side {u d : Nat} {ps : List ((Nat × Nat) × (Nat × Nat))} (h : (ends ps).Perm (ring u d)) :
    (ps.map fun p => (sideS u d p.1, sideS u d p.2)).map (fun p => (flipS p.1, flipS p.2)) = (ps.map fun p => (flipS p.1, flipS p.2)).map (fun p => (sideS d u p.1, sideS d u p.2)) := by
  rw [List.map_map, List.map_map]
  refine List.map_congr_left fun p hp => ?_
  have m1 := mem_ring.mp (h.mem_iff.mp (mem_ends.mpr ⟨p, hp, .inl rfl⟩))
  have m2 := mem_ring.mp (h.mem_iff.mp (mem_ends.mpr ⟨p, hp, .inr rfl⟩))
  obtain ⟨⟨a, b⟩, c, e⟩ := p
  simp only [sideS, flipS, Function.comp_apply, Prod.mk.injEq] at m1 m2 ⊢
  rcases m1 with ⟨rfl, m1⟩ | ⟨rfl, m1⟩ <;> rcases m2 with ⟨rfl, m2⟩ | ⟨rfl, m2⟩ <;> simp
/-! the strings of a mat by draws -/
theorem nested {α : Type} (z : α) : ∀ (k : Nat) (R : List α), R.length = 2 * k → NCP R ((List.range k).map fun i => (R.getD i z, R.getD (R.length - 1 - i) z))
  | 0, R, h => by
    have : R = [] := List.eq_nil_of_length_eq_zero (by omega)
    subst this
    exact .nil
  | k + 1, R, h => by
    match R, h with
    | a :: R1, h =>
      have hne : R1 ≠ [] := by intro e; subst e; simp at h; omega
      obtain ⟨m, b, rfl⟩ : ∃ m b, R1 = m ++ [b] := ⟨R1.dropLast, R1.getLast hne, (List.dropLast_concat_getLast hne).symm⟩
      have hm : m.length = 2 * k := by simp at h; omega
      have ih := (nested z k m hm).wrap (a := a) (b := b)
      rw [List.range_succ_eq_map, List.map_cons, List.map_map]
      have e1 : (a :: (m ++ [b])).length - 1 - 0 = m.length + 1 := by simp
      rw [e1]
      have e2 : (a :: (m ++ [b])).getD (m.length + 1) z = b := by simp
      rw [e2]
      have e3 : (List.range k).map ((fun i => ((a :: (m ++ [b])).getD i z, (a :: (m ++ [b])).getD ((a :: (m ++ [b])).length - 1 - i) z)) ∘ Nat.succ) = (List.range k).map fun i => (m.getD i z, m.getD (m.length - 1 - i) z) := by
        apply List.map_congr_left
        intro i hi
        have hi := List.mem_range.mp hi
        have e4 : (a :: (m ++ [b])).length - 1 - (i + 1) = (m.length - 1 - i) + 1 := by simp; omega
        simp only [Function.comp_apply, Nat.succ_eq_add_one]
        rw [e4]
        simp only [List.getD_cons_succ]
        rw [List.getD_eq_getElem?_getD, List.getD_eq_getElem?_getD, List.getElem?_append_left (by omega), List.getElem?_append_left (by omega), ← List.getD_eq_getElem?_getD, ← List.getD_eq_getElem?_getD]
      rw [e3]
      exact ih
end VS
set_option Elab.async false
set_option linter.all false
namespace VS
/-! ### pairings of places, and hooks put behind them -/
def Pr (N : Nat) (f : Nat → Nat) : Prop := ∀ p, p < N → f p < N ∧ f p ≠ p ∧ f (f p) = p
def hkF (a b : Nat) (f : Nat → Nat) (p : Nat) : Nat :=
  if p = a then b else if p = b then a else if f p = a then f b else if f p = b then f a else f p
def hkR (a b : Nat) (f : Nat → Nat) : Nat := if f a = b then 1 else 0
theorem hkF_pr {N a b : Nat} {f : Nat → Nat} (h : Pr N f) (ha : a < N) (hb : b < N) (hab : a ≠ b) : Pr N (hkF a b f) := by
  intro p hp
  have h1 := h a ha
  have h2 := h b hb
  have h3 := h p hp
  have h4 := h (f a) h1.1
  have h5 := h (f b) h2.1
  unfold hkF
  grind
theorem hk_same {N a b : Nat} {f : Nat → Nat} (h : Pr N f) (ha : a < N) (hb : b < N) (hab : a ≠ b) (hr : f a = b) {p : Nat} (hp : p < N) : hkF a b f p = f p := by
  have h1 := h a ha
  have h2 := h b hb
  have h3 := h p hp
  unfold hkF
  grind
theorem hk_two {N a b : Nat} {f : Nat → Nat} (h : Pr N f) (ha : a < N) (hb : b < N) (hab : a ≠ b) {p : Nat} (hp : p < N) : hkF a b (hkF a b f) p = hkF a b f p ∧ hkR a b (hkF a b f) = 1 := by
  have h1 := h a ha
  have h2 := h b hb
  have h3 := h p hp
  have h4 := hkF_pr h ha hb hab p hp
  unfold hkF hkR at *
  grind
theorem hk_far {N a b c d : Nat} {f : Nat → Nat} (h : Pr N f) (ha : a < N) (hb : b < N) (hc : c < N) (hd : d < N) (hab : a ≠ b) (hcd : c ≠ d) (hac : a ≠ c) (had : a ≠ d) (hbc : b ≠ c) (hbd : b ≠ d) {p : Nat} (hp : p < N) :
    hkF a b (hkF c d f) p = hkF c d (hkF a b f) p := by
  have h1 := h a ha
  have h2 := h b hb
  have h3 := h c hc
  have h4 := h d hd
  have h5 := h p hp
  unfold hkF
  grind (splits := 60)
theorem hkR_far {N a b c d : Nat} {f : Nat → Nat} (h : Pr N f) (ha : a < N) (hb : b < N) (hc : c < N) (hd : d < N) (hab : a ≠ b) (hcd : c ≠ d) (hac : a ≠ c) (had : a ≠ d) (hbc : b ≠ c) (hbd : b ≠ d) :
    hkR c d f + hkR a b (hkF c d f) = hkR a b f + hkR c d (hkF a b f) := by
  have h1 := h a ha
  have h2 := h b hb
  have h3 := h c hc
  have h4 := h d hd
  unfold hkR hkF
  grind
/-- a hook, its neighbour, the hook again -/
theorem hk_near {N a b c : Nat} {f : Nat → Nat} (h : Pr N f) (ha : a < N) (hb : b < N) (hc : c < N) (hab : a ≠ b) (hac : a ≠ c) (hbc : b ≠ c) {p : Nat} (hp : p < N) :
    hkF a b (hkF b c (hkF a b f)) p = hkF a b f p := by
  have q := hkF_pr h ha hb hab
  have e1 : hkF a b f a = b := by unfold hkF; simp
  have e2 : hkF a b f b = a := by unfold hkF; simp [hab.symm]
  generalize hkF a b f = g at *
  have h1 := q a ha
  have h2 := q b hb
  have h3 := q c hc
  have h4 := q p hp
  unfold hkF
  grind
theorem hkR_near {N a b c : Nat} {f : Nat → Nat} (h : Pr N f) (ha : a < N) (hb : b < N) (hc : c < N) (hab : a ≠ b) (hac : a ≠ c) (hbc : b ≠ c) :
    hkR b c (hkF a b f) = 0 ∧ hkR a b (hkF b c (hkF a b f)) = 0 := by
  have q := hkF_pr h ha hb hab
  have e1 : hkF a b f a = b := by unfold hkF; simp
  have e2 : hkF a b f b = a := by unfold hkF; simp [hab.symm]
  generalize hkF a b f = g at *
  have h1 := q a ha
  have h2 := q b hb
  have h3 := q c hc
  unfold hkR hkF
  grind
/-! ### rows of mates -/
def rowF (row : List Nat) (p : Nat) : Nat := row.getD p 0
def PrR (n : Nat) (row : List Nat) : Prop := row.length = 2 * n ∧ Pr (2 * n) (rowF row)
def hkL (n i : Nat) (row : List Nat) : List Nat :=
  if rowF row (n + i) = n + i + 1 then row
  else (((row.set (rowF row (n + i)) (rowF row (n + i + 1))).set (rowF row (n + i + 1)) (rowF row (n + i))).set (n + i) (n + i + 1)).set (n + i + 1) (n + i)
theorem getD_set {xs : List Nat} {j x p : Nat} (hj : j < xs.length) : (xs.set j x).getD p 0 = if p = j then x else xs.getD p 0 := by
  simp only [List.getD_eq_getElem?_getD, List.getElem?_set]
  by_cases h : j = p
  · subst h; simp [hj]
  · have h' : ¬ p = j := fun z => h z.symm
    simp [h, h']
theorem row_ext {N : Nat} {a b : List Nat} (ha : a.length = N) (hb : b.length = N) (h : ∀ p, p < N → rowF a p = rowF b p) : a = b := by
  refine List.ext_getElem (by omega) fun p h1 h2 => ?_
  have := h p (by omega)
  unfold rowF at this
  simpa [List.getD_eq_getElem?_getD, List.getElem?_eq_getElem h1, List.getElem?_eq_getElem h2] using this
theorem hkL_len (n i : Nat) (row : List Nat) : (hkL n i row).length = row.length := by
  unfold hkL
  split <;> simp
theorem hkL_get {n i : Nat} {row : List Nat} (h : PrR n row) (hi : i + 1 < n) {p : Nat} (hp : p < 2 * n) : rowF (hkL n i row) p = hkF (n + i) (n + i + 1) (rowF row) p := by
  obtain ⟨hl, hr⟩ := h
  have h1 := hr (n + i) (by omega)
  have h2 := hr (n + i + 1) (by omega)
  have h3 := hr p hp
  unfold hkL
  split
  · rename_i e
    exact (hk_same hr (by omega) (by omega) (by omega) e hp).symm
  · rename_i e
    have g : ∀ q, row.getD q 0 = rowF row q := fun _ => rfl
    unfold rowF
    rw [getD_set (by simp; omega), getD_set (by simp; omega), getD_set (by rw [List.length_set, hl]; exact h2.1), getD_set (by rw [hl]; exact h1.1)]
    unfold hkF
    simp only [g]
    generalize rowF row = f at *
    grind
theorem hkL_pr {n i : Nat} {row : List Nat} (h : PrR n row) (hi : i + 1 < n) : PrR n (hkL n i row) := by
  refine ⟨by rw [hkL_len]; exact h.1, fun p hp => ?_⟩
  have q := hkF_pr h.2 (a := n + i) (b := n + i + 1) (by omega) (by omega) (by omega) p hp
  rw [hkL_get h hi hp]
  refine ⟨q.1, q.2.1, ?_⟩
  rw [hkL_get h hi q.1]
  exact q.2.2
theorem hkF_congr {N a b : Nat} {f g : Nat → Nat} (h : ∀ p, p < N → f p = g p) (ha : a < N) (hb : b < N) {p : Nat} (hp : p < N) : hkF a b f p = hkF a b g p := by
  unfold hkF
  rw [h p hp, h a ha, h b hb]
theorem hkR_congr {N a b : Nat} {f g : Nat → Nat} (h : ∀ p, p < N → f p = g p) (ha : a < N) : hkR a b f = hkR a b g := by
  unfold hkR
  rw [h a ha]
def hkN (n i : Nat) (row : List Nat) : Nat := hkR (n + i) (n + i + 1) (rowF row)
theorem hkL2 {n i j : Nat} {row : List Nat} (h : PrR n row) (hi : i + 1 < n) (hj : j + 1 < n) {p : Nat} (hp : p < 2 * n) : rowF (hkL n j (hkL n i row)) p = hkF (n + j) (n + j + 1) (hkF (n + i) (n + i + 1) (rowF row)) p := by
  rw [hkL_get (hkL_pr h hi) hj hp]
  exact hkF_congr (N := 2 * n) (fun q hq => hkL_get h hi hq) (by omega) (by omega) hp
theorem hkN2 {n i j : Nat} {row : List Nat} (h : PrR n row) (hi : i + 1 < n) (hj : j + 1 < n) : hkN n j (hkL n i row) = hkR (n + j) (n + j + 1) (hkF (n + i) (n + i + 1) (rowF row)) :=
  hkR_congr (N := 2 * n) (fun q hq => hkL_get h hi hq) (by omega)
theorem tl_two {n i : Nat} {row : List Nat} (h : PrR n row) (hi : i + 1 < n) : hkL n i (hkL n i row) = hkL n i row ∧ hkN n i (hkL n i row) = 1 := by
  refine ⟨row_ext (N := 2 * n) (by rw [hkL_len, hkL_len]; exact h.1) (by rw [hkL_len]; exact h.1) fun p hp => ?_, ?_⟩
  · rw [hkL2 h hi hi hp, hkL_get h hi hp]
    exact (hk_two h.2 (by omega) (by omega) (by omega) hp).1
  · rw [hkN2 h hi hi]
    exact (hk_two (p := 0) h.2 (by omega) (by omega) (by omega) (by omega)).2
theorem tl_far {n i j : Nat} {row : List Nat} (h : PrR n row) (hi : i + 1 < n) (hj : j + 1 < n) (hf : i + 1 < j ∨ j + 1 < i) : hkL n j (hkL n i row) = hkL n i (hkL n j row) ∧ hkN n i row + hkN n j (hkL n i row) = hkN n j row + hkN n i (hkL n j row) := by
  refine ⟨row_ext (N := 2 * n) (by rw [hkL_len, hkL_len]; exact h.1) (by rw [hkL_len, hkL_len]; exact h.1) fun p hp => ?_, ?_⟩
  · rw [hkL2 h hi hj hp, hkL2 h hj hi hp]
    exact hk_far h.2 (by omega) (by omega) (by omega) (by omega) (by omega) (by omega) (by omega) (by omega) (by omega) (by omega) hp
  · rw [hkN2 h hi hj, hkN2 h hj hi]
    exact hkR_far h.2 (by omega) (by omega) (by omega) (by omega) (by omega) (by omega) (by omega) (by omega) (by omega) (by omega)
theorem hkF_symm {a b : Nat} {f : Nat → Nat} {N : Nat} (h : Pr N f) (ha : a < N) (hb : b < N) (hab : a ≠ b) {p : Nat} (hp : p < N) : hkF a b f p = hkF b a f p ∧ hkR a b f = hkR b a f := by
  have h1 := h a ha
  have h2 := h b hb
  have h3 := h p hp
  unfold hkF hkR
  grind
theorem tl_near {n i j : Nat} {row : List Nat} (h : PrR n row) (hi : i + 1 < n) (hj : j + 1 < n) (hf : j = i + 1 ∨ i = j + 1) : hkL n i (hkL n j (hkL n i row)) = hkL n i row ∧ hkN n j (hkL n i row) = 0 ∧ hkN n i (hkL n j (hkL n i row)) = 0 := by
  have hq := hkL_pr h hi
  rcases hf with rfl | rfl
  · have k := hkR_near (a := n + i) (b := n + i + 1) (c := n + i + 1 + 1) h.2 (by omega) (by omega) (by omega) (by omega) (by omega) (by omega)
    refine ⟨row_ext (N := 2 * n) (by rw [hkL_len, hkL_len, hkL_len]; exact h.1) (by rw [hkL_len]; exact h.1) fun p hp => ?_, ?_, ?_⟩
    · rw [hkL2 hq hj hi hp, hkL_get h hi hp]
      refine (hkF_congr (N := 2 * n) (fun q hq2 => hkF_congr (N := 2 * n) (fun r hr => hkL_get h hi hr) (by omega) (by omega) hq2) (by omega) (by omega) hp).trans ?_
      exact hk_near (a := n + i) (b := n + i + 1) (c := n + i + 1 + 1) h.2 (by omega) (by omega) (by omega) (by omega) (by omega) (by omega) hp
    · rw [hkN2 h hi hj]
      exact k.1
    · rw [hkN2 hq hj hi]
      refine (hkR_congr (N := 2 * n) (fun q hq2 => hkF_congr (N := 2 * n) (fun r hr => hkL_get h hi hr) (by omega) (by omega) hq2) (by omega)).trans ?_
      exact k.2
  · have g : Pr (2 * n) (hkF (n + (j + 1) + 1) (n + (j + 1)) (rowF row)) := hkF_pr h.2 (by omega) (by omega) (by omega)
    have k := hkR_near (a := n + (j + 1) + 1) (b := n + (j + 1)) (c := n + j) h.2 (by omega) (by omega) (by omega) (by omega) (by omega) (by omega)
    have s1 : ∀ q, q < 2 * n → rowF (hkL n (j + 1) row) q = hkF (n + (j + 1) + 1) (n + (j + 1)) (rowF row) q := fun q hq2 => (hkL_get h hi hq2).trans (hkF_symm h.2 (by omega) (by omega) (by omega) hq2).1
    have s2 : ∀ q, q < 2 * n → rowF (hkL n j (hkL n (j + 1) row)) q = hkF (n + (j + 1)) (n + j) (hkF (n + (j + 1) + 1) (n + (j + 1)) (rowF row)) q := fun q hq2 => by
      rw [hkL_get hq hj hq2, (hkF_symm hq.2 (by omega) (by omega) (by omega) hq2).1]
      exact hkF_congr (N := 2 * n) s1 (by omega) (by omega) hq2
    have hq3 := hkL_pr hq hj
    refine ⟨row_ext (N := 2 * n) (by rw [hkL_len, hkL_len, hkL_len]; exact h.1) (by rw [hkL_len]; exact h.1) fun p hp => ?_, ?_, ?_⟩
    · rw [hkL_get hq3 hi hp, (hkF_symm hq3.2 (by omega) (by omega) (by omega) hp).1, s1 p hp]
      refine (hkF_congr (N := 2 * n) s2 (by omega) (by omega) hp).trans ?_
      exact hk_near h.2 (by omega) (by omega) (by omega) (by omega) (by omega) (by omega) hp
    · unfold hkN
      rw [(hkF_symm (p := 0) hq.2 (by omega) (by omega) (by omega) (by omega)).2, hkR_congr (N := 2 * n) s1 (by omega)]
      exact k.1
    · unfold hkN
      rw [(hkF_symm (p := 0) hq3.2 (by omega) (by omega) (by omega) (by omega)).2, hkR_congr (N := 2 * n) s2 (by omega)]
      exact k.2
/-! ### the values of words -/
def stepV (n : Nat) (s : Nat × List Nat) (i : Nat) : Nat × List Nat := (s.1 + hkN n i s.2, hkL n i s.2)
def strR (n : Nat) : List Nat := (List.range n).map (n + ·) ++ List.range n
def valF (n : Nat) (s : Nat × List Nat) (w : List Nat) : Nat × List Nat := w.foldl (stepV n) s
def valW (n : Nat) (w : List Nat) : Nat × List Nat := valF n (0, strR n) w
theorem strR_pr (n : Nat) : PrR n (strR n) := by
  refine ⟨by simp [strR]; omega, fun p hp => ?_⟩
  have e : ∀ q, q < 2 * n → rowF (strR n) q = if q < n then n + q else q - n := fun q hq => by
    unfold rowF strR
    rw [List.getD_eq_getElem?_getD]
    by_cases h : q < n
    · rw [List.getElem?_append_left (by simpa using h)]
      simp [h]
    · rw [List.getElem?_append_right (by simp; omega)]
      simp only [List.length_map, List.length_range, if_neg h]
      rw [List.getElem?_range (by omega)]
      rfl
  rw [e p hp]
  split
  · rename_i h
    refine ⟨by omega, by omega, ?_⟩
    rw [e (n + p) (by omega), if_neg (by omega)]; omega
  · rename_i h
    refine ⟨by omega, by omega, ?_⟩
    rw [e (p - n) (by omega), if_pos (by omega)]; omega
theorem valF_pr {n : Nat} : ∀ {w : List Nat} {s : Nat × List Nat}, PrR n s.2 → (∀ x ∈ w, x + 1 < n) → PrR n (valF n s w).2
  | [], _, h, _ => h
  | x :: w, s, h, hw => valF_pr (w := w) (s := stepV n s x) (hkL_pr h (hw x (by simp))) fun y hy => hw y (by simp [hy])
theorem valF_app (n : Nat) (s : Nat × List Nat) (v w : List Nat) : valF n s (v ++ w) = valF n (valF n s v) w := List.foldl_append
theorem valF_add {n : Nat} (k : Nat) : ∀ (w : List Nat) (s : Nat × List Nat), valF n (s.1 + k, s.2) w = ((valF n s w).1 + k, (valF n s w).2)
  | [], s => rfl
  | x :: w, s => by
    have := valF_add (n := n) k w (stepV n s x)
    show valF n (stepV n (s.1 + k, s.2) x) w = _
    have e : stepV n (s.1 + k, s.2) x = ((stepV n s x).1 + k, (stepV n s x).2) := by
      unfold stepV
      simp only [Prod.mk.injEq, and_true]
      omega
    rw [e, this]
    rfl
theorem val_two {n x : Nat} {a b : List Nat} (ha : ∀ y ∈ a, y + 1 < n) (hx : x + 1 < n) : valW n (a ++ x :: x :: b) = ((valW n (a ++ x :: b)).1 + 1, (valW n (a ++ x :: b)).2) := by
  unfold valW
  rw [valF_app, valF_app]
  have h := valF_pr (w := a) (s := (0, strR n)) (strR_pr n) ha
  generalize valF n (0, strR n) a = s at *
  obtain ⟨t1, t2⟩ := tl_two h hx
  show valF n (stepV n (stepV n s x) x) b = ((valF n (stepV n s x) b).1 + 1, (valF n (stepV n s x) b).2)
  rw [← valF_add]
  congr 1
  show ((stepV n s x).1 + hkN n x (hkL n x s.2), hkL n x (hkL n x s.2)) = _
  rw [t1, t2]
  rfl
theorem val_far {n x y : Nat} {a b : List Nat} (ha : ∀ y ∈ a, y + 1 < n) (hx : x + 1 < n) (hy : y + 1 < n) (hf : x + 1 < y ∨ y + 1 < x) : valW n (a ++ x :: y :: b) = valW n (a ++ y :: x :: b) := by
  unfold valW
  rw [valF_app, valF_app]
  have h := valF_pr (w := a) (s := (0, strR n)) (strR_pr n) ha
  generalize valF n (0, strR n) a = s at *
  obtain ⟨t1, t2⟩ := tl_far h hx hy hf
  show valF n (stepV n (stepV n s x) y) b = valF n (stepV n (stepV n s y) x) b
  congr 1
  show (s.1 + hkN n x s.2 + hkN n y (hkL n x s.2), hkL n y (hkL n x s.2)) = (s.1 + hkN n y s.2 + hkN n x (hkL n y s.2), hkL n x (hkL n y s.2))
  rw [t1, Prod.mk.injEq]
  exact ⟨by omega, rfl⟩
theorem val_near {n x y : Nat} {a b : List Nat} (ha : ∀ y ∈ a, y + 1 < n) (hx : x + 1 < n) (hy : y + 1 < n) (hf : y = x + 1 ∨ x = y + 1) : valW n (a ++ x :: y :: x :: b) = valW n (a ++ x :: b) := by
  unfold valW
  rw [valF_app, valF_app]
  have h := valF_pr (w := a) (s := (0, strR n)) (strR_pr n) ha
  generalize valF n (0, strR n) a = s at *
  obtain ⟨t1, t2, t3⟩ := tl_near h hx hy hf
  show valF n (stepV n (stepV n (stepV n s x) y) x) b = valF n (stepV n s x) b
  congr 1
  show (s.1 + hkN n x s.2 + hkN n y (hkL n x s.2) + hkN n x (hkL n y (hkL n x s.2)), hkL n x (hkL n y (hkL n x s.2))) = _
  rw [t1, t2, t3]
  rfl
end VS
set_option Elab.async false
set_option linter.all false
namespace VS
/-! ### walking through two mats -/
def wk (A H : Nat → Nat) (n m : Nat) : Nat → Bool → Nat → List Bool → Option (Nat × List Bool)
  | 0, _, _, _ => none
  | f + 1, true, a, ps => if a < n then some (a, ps) else wk A H n m f false (H (a - n)) (ps.set (a - n) true)
  | f + 1, false, a, ps => if m ≤ a then some (n + a - m, ps) else wk A H n m f true (A (n + a)) (ps.set a true)
theorem wk_t {A H : Nat → Nat} {n m f a : Nat} {ps : List Bool} : wk A H n m (f + 1) true a ps = if a < n then some (a, ps) else wk A H n m f false (H (a - n)) (ps.set (a - n) true) := rfl
theorem wk_f {A H : Nat → Nat} {n m f a : Nat} {ps : List Bool} : wk A H n m (f + 1) false a ps = if m ≤ a then some (n + a - m, ps) else wk A H n m f true (A (n + a)) (ps.set a true) := rfl
def hookF (n i q : Nat) : Nat := if q = i then i + 1 else if q = i + 1 then i else if q = n + i then n + i + 1 else if q = n + i + 1 then n + i else if q < n then n + q else q - n
def bt (ps : List Bool) (q : Nat) : Bool := ps.getD q false
theorem bt_set {ps : List Bool} {j q : Nat} (hj : j < ps.length) : bt (ps.set j true) q = if q = j then true else bt ps q := by
  unfold bt
  simp only [List.getD_eq_getElem?_getD, List.getElem?_set]
  by_cases h : j = q
  · subst h; simp [hj]
  · have h' : ¬ q = j := fun z => h z.symm
    simp [h, h']
/-- the pegs between that a walk may pass -/
def Tq (A : Nat → Nat) (n i q : Nat) : Prop := (q ≠ i ∧ q ≠ i + 1) ∨ A (n + i) ≠ n + i + 1
structure Wd (A : Nat → Nat) (n i : Nat) (ps ps' : List Bool) : Prop where
  len : ps'.length = n
  up : ∀ q, bt ps q = true → bt ps' q = true
  dn : ∀ q, bt ps' q = true → bt ps q = true ∨ Tq A n i q
theorem Wd.refl {A : Nat → Nat} {n i : Nat} {ps : List Bool} (h : ps.length = n) : Wd A n i ps ps := ⟨h, fun _ h => h, fun _ h => .inl h⟩
theorem Wd.set {A : Nat → Nat} {n i j : Nat} {ps ps' : List Bool} (h : Wd A n i ps ps') (hj : j < n) (ht : Tq A n i j) : Wd A n i ps (ps'.set j true) := by
  refine ⟨by rw [List.length_set]; exact h.len, fun q hq => ?_, fun q hq => ?_⟩
  · rw [bt_set (by rw [h.len]; exact hj)]
    split
    · rfl
    · exact h.up q hq
  · rw [bt_set (by rw [h.len]; exact hj)] at hq
    split at hq
    · rename_i e; subst e; exact .inr ht
    · exact h.dn q hq
theorem walk_in {A : Nat → Nat} {n i p f : Nat} {ps : List Bool} (hA : Pr (2 * n) A) (hi : i + 1 < n) (hp : p < 2 * n) (h1 : p ≠ n + i) (h2 : p ≠ n + i + 1) (hl : ps.length = n) :
    ∃ ps', wk A (hookF n i) n n (f + 6) true (A p) ps = some (hkF (n + i) (n + i + 1) A p, ps') ∧ Wd A n i ps ps' ∧ (p = A (n + i) → A (n + i) ≠ n + i + 1 → bt ps' i = true ∧ bt ps' (i + 1) = true) := by
  have a1 := hA p hp
  have a2 := hA (n + i) (by omega)
  have a3 := hA (n + i + 1) (by omega)
  by_cases c1 : A p < n
  · refine ⟨ps, ?_, Wd.refl hl, fun e _ => ?_⟩
    · rw [wk_t, if_pos c1]
      unfold hkF
      rw [if_neg h1, if_neg h2, if_neg (by omega), if_neg (by omega)]
    · exfalso
      rw [e, a2.2.2] at c1
      omega
  · rw [wk_t, if_neg c1]
    obtain ⟨q, hq⟩ : ∃ q, A p = n + q := ⟨A p - n, by omega⟩
    have hqn : q < n := by omega
    rw [hq, show n + q - n = q by omega]
    by_cases c2 : q = i
    · subst c2
      have nr : A (n + q) ≠ n + q + 1 := by
        intro e
        have : A (n + q) = p := by rw [← hq, a1.2.2]
        omega
      have e1 : A (n + q) = p := by rw [← hq, a1.2.2]
      rw [show hookF n q q = q + 1 from if_pos rfl, wk_f, if_neg (by omega), wk_t]
      have wd := ((Wd.refl (A := A) (i := q) hl).set (j := q) hqn (.inr nr)).set (j := q + 1) (by omega) (.inr nr)
      have b1 : bt ((ps.set q true).set (q + 1) true) q = true := by
        rw [bt_set (by rw [List.length_set]; omega), if_neg (by omega), bt_set (by omega), if_pos rfl]
      have b2 : bt ((ps.set q true).set (q + 1) true) (q + 1) = true := by
        rw [bt_set (by rw [List.length_set]; omega), if_pos rfl]
      have ek : hkF (n + q) (n + q + 1) A p = A (n + q + 1) := by
        unfold hkF
        rw [if_neg h1, if_neg h2, if_pos hq]
      rw [ek, show n + (q + 1) = n + q + 1 by omega]
      by_cases c3 : A (n + q + 1) < n
      · rw [if_pos c3]
        exact ⟨_, rfl, wd, fun _ _ => ⟨b1, b2⟩⟩
      · rw [if_neg c3]
        obtain ⟨r, hr⟩ : ∃ r, A (n + q + 1) = n + r := ⟨A (n + q + 1) - n, by omega⟩
        have r1 : r ≠ q + 1 := by omega
        have r2 : r ≠ q := by
          intro e
          rw [hr, e] at a3
          omega
        rw [hr, show n + r - n = r by omega]
        have eh : hookF n q r = n + r := by
          unfold hookF
          rw [if_neg r2, if_neg r1, if_neg (by omega), if_neg (by omega), if_pos (by omega)]
        rw [eh, wk_f, if_pos (by omega), show n + (n + r) - n = n + r by omega]
        refine ⟨_, rfl, wd.set (by omega) (.inr nr), fun _ _ => ⟨?_, ?_⟩⟩
        · rw [bt_set (by rw [wd.len]; omega), if_neg (by omega)]; exact b1
        · rw [bt_set (by rw [wd.len]; omega), if_neg (by omega)]; exact b2
    · by_cases c4 : q = i + 1
      · subst c4
        have e1 : A (n + i + 1) = p := by rw [show n + i + 1 = n + (i + 1) by omega, ← hq, a1.2.2]
        have nr : A (n + i) ≠ n + i + 1 := by
          intro e
          rw [e] at a2
          omega
        rw [show hookF n i (i + 1) = i from by unfold hookF; rw [if_neg (by omega), if_pos rfl], wk_f, if_neg (by omega), wk_t]
        have wd := ((Wd.refl (A := A) (i := i) hl).set (j := i + 1) hqn (.inr nr)).set (j := i) (by omega) (.inr nr)
        have ek : hkF (n + i) (n + i + 1) A p = A (n + i) := by
          unfold hkF
          rw [if_neg h1, if_neg h2, if_neg (by omega), if_pos (by omega)]
        have no : p = A (n + i) → A (n + i) ≠ n + i + 1 → False := by
          intro e _
          have := a2.2.2
          rw [← e, hq] at this
          omega
        rw [ek]
        by_cases c3 : A (n + i) < n
        · rw [if_pos c3]
          exact ⟨_, rfl, wd, fun e h => (no e h).elim⟩
        · rw [if_neg c3]
          obtain ⟨r, hr⟩ : ∃ r, A (n + i) = n + r := ⟨A (n + i) - n, by omega⟩
          have r1 : r ≠ i := by omega
          have r2 : r ≠ i + 1 := by omega
          rw [hr, show n + r - n = r by omega]
          have eh : hookF n i r = n + r := by
            unfold hookF
            rw [if_neg r1, if_neg r2, if_neg (by omega), if_neg (by omega), if_pos (by omega)]
          rw [eh, wk_f, if_pos (by omega), show n + (n + r) - n = n + r by omega]
          refine ⟨_, rfl, wd.set (by omega) (.inr nr), fun e h => (no (by rw [hr]; exact e) (by rw [hr]; exact h)).elim⟩
      · have eh : hookF n i q = n + q := by
          unfold hookF
          rw [if_neg c2, if_neg c4, if_neg (by omega), if_neg (by omega), if_pos (by omega)]
        have ek : hkF (n + i) (n + i + 1) A p = n + q := by
          unfold hkF
          rw [if_neg h1, if_neg h2, if_neg (by omega), if_neg (by omega), hq]
        rw [eh, wk_f, if_pos (by omega), ek, show n + (n + q) - n = n + q by omega]
        refine ⟨_, rfl, (Wd.refl hl).set (by omega) (.inl ⟨c2, c4⟩), fun e h => ?_⟩
        exfalso
        have := a2.2.2
        rw [← e, hq] at this
        omega
/-- where a walk begins -/
def wkS (A H : Nat → Nat) (n m p : Nat) : Bool × Nat := if p < n then (true, A p) else (false, H (m + p - n))
theorem far_hook {A : Nat → Nat} {n i p f : Nat} {ps : List Bool} (hA : Pr (2 * n) A) (hi : i + 1 < n) (hp : p < 2 * n) (hl : ps.length = n) :
    ∃ ps', wk A (hookF n i) n n (f + 7) (wkS A (hookF n i) n n p).1 (wkS A (hookF n i) n n p).2 ps = some (hkF (n + i) (n + i + 1) A p, ps') ∧ Wd A n i ps ps' ∧ (p = A (n + i) → A (n + i) ≠ n + i + 1 → bt ps' i = true ∧ bt ps' (i + 1) = true) ∧ (n ≤ p → p ≠ n + i → p ≠ n + i + 1 → bt ps' (p - n) = true) := by
  unfold wkS
  by_cases c : p < n
  · rw [if_pos c]
    obtain ⟨ps', e, w, h⟩ := walk_in (f := f + 1) hA hi hp (by omega) (by omega) hl
    exact ⟨ps', e, w, h, fun z => by omega⟩
  · rw [if_neg c]
    show ∃ ps', wk A (hookF n i) n n (f + 7) false (hookF n i (n + p - n)) ps = _ ∧ _
    rw [show n + p - n = p by omega]
    have a2 := hA (n + i) (by omega)
    by_cases c1 : p = n + i
    · have eh : hookF n i p = n + i + 1 := by unfold hookF; rw [if_neg (by omega), if_neg (by omega), if_pos c1]
      have ek : hkF (n + i) (n + i + 1) A p = n + i + 1 := if_pos c1
      rw [eh, wk_f, if_pos (by omega), ek, show n + (n + i + 1) - n = n + i + 1 by omega]
      exact ⟨ps, rfl, Wd.refl hl, fun e => by omega, fun _ h => absurd c1 h⟩
    · by_cases c2 : p = n + i + 1
      · have eh : hookF n i p = n + i := by unfold hookF; rw [if_neg (by omega), if_neg (by omega), if_neg c1, if_pos c2]
        have ek : hkF (n + i) (n + i + 1) A p = n + i := by unfold hkF; rw [if_neg c1, if_pos c2]
        rw [eh, wk_f, if_pos (by omega), ek, show n + (n + i) - n = n + i by omega]
        exact ⟨ps, rfl, Wd.refl hl, fun e h => by omega, fun _ _ h => absurd c2 h⟩
      · have eh : hookF n i p = p - n := by unfold hookF; rw [if_neg (by omega), if_neg (by omega), if_neg c1, if_neg c2, if_neg c]
        rw [eh, wk_f, if_neg (by omega), show n + (p - n) = p by omega]
        have t0 : Tq A n i (p - n) := .inl ⟨by omega, by omega⟩
        have w0 := (Wd.refl (A := A) (i := i) hl).set (j := p - n) (by omega) t0
        obtain ⟨ps', e, w, h⟩ := walk_in (f := f) (ps := ps.set (p - n) true) hA hi hp c1 c2 w0.len
        refine ⟨ps', e, ⟨w.len, fun q hq => w.up q (w0.up q hq), fun q hq => (w.dn q hq).elim (w0.dn q) .inr⟩, h, fun _ _ _ => w.up _ ?_⟩
        rw [bt_set (by omega), if_pos rfl]
theorem wk_congr {A H H' : Nat → Nat} {n : Nat} (hA : ∀ p, p < 2 * n → A p < 2 * n) (hH : ∀ q, q < 2 * n → H q = H' q ∧ H q < 2 * n) : ∀ (f : Nat) (b : Bool) (a : Nat) (ps : List Bool), a < 2 * n → wk A H n n f b a ps = wk A H' n n f b a ps
  | 0, _, _, _, _ => rfl
  | f + 1, true, a, ps, h => by
    rw [wk_t, wk_t]
    split
    · rfl
    · rw [(hH (a - n) (by omega)).1.symm]
      exact wk_congr hA hH f false _ _ (hH (a - n) (by omega)).2
  | f + 1, false, a, ps, h => by
    rw [wk_f, wk_f]
    split
    · rfl
    · exact wk_congr hA hH f true _ _ (hA _ (by omega))
/-- the row of a hook -/
def hookR (n i : Nat) : List Nat := ((((strR n).set i (i + 1)).set (i + 1) i).set (n + i) (n + i + 1)).set (n + i + 1) (n + i)
theorem strR_len (n : Nat) : (strR n).length = 2 * n := (strR_pr n).1
theorem strR_get {n q : Nat} (hq : q < 2 * n) : rowF (strR n) q = if q < n then n + q else q - n := by
  unfold rowF strR
  rw [List.getD_eq_getElem?_getD]
  by_cases h : q < n
  · rw [List.getElem?_append_left (by simpa using h)]
    simp [h]
  · rw [List.getElem?_append_right (by simp; omega)]
    simp only [List.length_map, List.length_range, if_neg h]
    rw [List.getElem?_range (by omega)]
    rfl
theorem hookR_len (n i : Nat) : (hookR n i).length = 2 * n := by
  unfold hookR
  simp only [List.length_set]
  exact strR_len n
theorem hookR_get {n i q : Nat} (hi : i + 1 < n) (hq : q < 2 * n) : rowF (hookR n i) q = hookF n i q := by
  have l := strR_len n
  have g : ∀ q, (strR n).getD q 0 = rowF (strR n) q := fun _ => rfl
  unfold rowF hookR
  rw [getD_set (by simp only [List.length_set]; omega), getD_set (by simp only [List.length_set]; omega), getD_set (by simp only [List.length_set]; omega), getD_set (by omega), g, strR_get hq]
  unfold hookF
  grind
theorem hookF_lt {n i q : Nat} (hi : i + 1 < n) (hq : q < 2 * n) : hookF n i q < 2 * n := by
  unfold hookF
  split
  · omega
  · split
    · omega
    · split
      · omega
      · split
        · omega
        · split <;> omega
theorem hkL_map {n i : Nat} {row : List Nat} (h : PrR n row) (hi : i + 1 < n) : (List.range (2 * n)).map (hkF (n + i) (n + i + 1) (rowF row)) = hkL n i row := by
  refine row_ext (N := 2 * n) (by simp) (by rw [hkL_len]; exact h.1) fun p hp => ?_
  rw [hkL_get h hi hp]
  unfold rowF
  simp [List.getD_eq_getElem?_getD, hp]
end VS
set_option Elab.async false
set_option linter.all false
set_option maxRecDepth 100000
namespace VS
/-! ### strings whose ends meet are joined, pair by pair -/
/-- a and b meet: what hangs on both is one string -/
def jn (a b : Nat) (e : Nat → Nat) (x : Nat) : Nat :=
  if x = a then a else if x = b then b else if x = e a then e b else if x = e b then e a else e x
def el (s : Nat × (Nat → Nat)) (p : Nat × Nat) : Nat × (Nat → Nat) :=
  (if s.2 p.1 = p.2 then s.1 + 1 else s.1, jn p.1 p.2 s.2)
def Iv (e : Nat → Nat) : Prop := ∀ x, e (e x) = x
theorem jn_iv {a b : Nat} {e : Nat → Nat} (h : Iv e) (hab : a ≠ b) (ha : e a ≠ a) (hb : e b ≠ b) : Iv (jn a b e) := by
  intro x
  have h1 := h x; have h2 := h a; have h3 := h b
  unfold jn
  grind (splits := 40)
theorem jn_fix {a b x : Nat} {e : Nat → Nat} (h : Iv e) (hab : a ≠ b) (ha : e a ≠ a) (hb : e b ≠ b) : jn a b e x = x ↔ x = a ∨ x = b ∨ e x = x := by
  have h1 := h x; have h2 := h a; have h3 := h b
  unfold jn
  grind (splits := 40)
theorem jn_out {a b x : Nat} {e : Nat → Nat} (h : Iv e) (hx : x ≠ a) (hy : x ≠ b) (h1 : e x ≠ a) (h2 : e x ≠ b) : jn a b e x = e x := by
  have q1 := h x; have q2 := h a; have q3 := h b
  unfold jn
  grind (splits := 40)
theorem jn_a {a b x : Nat} {e : Nat → Nat} (h : Iv e) (hx : x ≠ a) (hy : x ≠ b) (h1 : e x = a) : jn a b e x = e b := by
  have q1 := h x
  unfold jn
  grind (splits := 40)
theorem jn_b {a b x : Nat} {e : Nat → Nat} (h : Iv e) (hx : x ≠ a) (hy : x ≠ b) (h1 : e x = b) (hb : e b ≠ b) : jn a b e x = e a := by
  have q1 := h x; have q2 := h a
  unfold jn
  grind (splits := 40)
theorem jn_comm {a b c d : Nat} {e : Nat → Nat} (h : Iv e) (hab : a ≠ b) (hcd : c ≠ d) (hac : a ≠ c) (had : a ≠ d) (hbc : b ≠ c) (hbd : b ≠ d) (ha : e a ≠ a) (hb : e b ≠ b) (hc : e c ≠ c) (hd : e d ≠ d) : jn c d (jn a b e) = jn a b (jn c d e) := by
  funext x
  have h1 := h x; have h2 := h a; have h3 := h b; have h4 := h c; have h5 := h d
  unfold jn
  grind (splits := 40)
theorem el_comm {r a b c d : Nat} {e : Nat → Nat} (h : Iv e) (hab : a ≠ b) (hcd : c ≠ d) (hac : a ≠ c) (had : a ≠ d) (hbc : b ≠ c) (hbd : b ≠ d) (ha : e a ≠ a) (hb : e b ≠ b) (hc : e c ≠ c) (hd : e d ≠ d) : el (el (r, e) (a, b)) (c, d) = el (el (r, e) (c, d)) (a, b) := by
  unfold el
  refine Prod.ext ?_ (jn_comm h hab hcd hac had hbc hbd ha hb hc hd)
  have h2 := h a; have h3 := h b; have h4 := h c; have h5 := h d
  show (if jn a b e c = d then _ else _) = (if jn c d e a = b then _ else _)
  simp only []
  unfold jn
  grind (splits := 40)
/-- pairs with no end in common -/
def Ap (p q : Nat × Nat) : Prop := p.1 ≠ q.1 ∧ p.1 ≠ q.2 ∧ p.2 ≠ q.1 ∧ p.2 ≠ q.2
theorem Ap.symm {p q : Nat × Nat} (h : Ap p q) : Ap q p := ⟨fun z => h.1 z.symm, fun z => h.2.2.1 z.symm, fun z => h.2.1 z.symm, fun z => h.2.2.2 z.symm⟩
structure OkL (e : Nat → Nat) (L : List (Nat × Nat)) : Prop where
  iv : Iv e
  pw : L.Pairwise Ap
  own : ∀ p ∈ L, p.1 ≠ p.2 ∧ e p.1 ≠ p.1 ∧ e p.2 ≠ p.2
def elL (s : Nat × (Nat → Nat)) (L : List (Nat × Nat)) : Nat × (Nat → Nat) := L.foldl el s
theorem OkL.tail {e : Nat → Nat} {p : Nat × Nat} {L : List (Nat × Nat)} (h : OkL e (p :: L)) : OkL (jn p.1 p.2 e) L := by
  have hp := h.own p (by simp)
  have hw := List.pairwise_cons.mp h.pw
  refine ⟨jn_iv h.iv hp.1 hp.2.1 hp.2.2, hw.2, fun q hq => ⟨(h.own q (by simp [hq])).1, fun z => ?_, fun z => ?_⟩⟩
  · have hq' := h.own q (by simp [hq])
    have ap := hw.1 q hq
    rcases (jn_fix h.iv hp.1 hp.2.1 hp.2.2).mp z with z | z | z
    · exact ap.1 z.symm
    · exact ap.2.2.1 z.symm
    · exact hq'.2.1 z
  · have hq' := h.own q (by simp [hq])
    have ap := hw.1 q hq
    rcases (jn_fix h.iv hp.1 hp.2.1 hp.2.2).mp z with z | z | z
    · exact ap.2.1 z.symm
    · exact ap.2.2.2 z.symm
    · exact hq'.2.2 z
theorem OkL.perm {e : Nat → Nat} {L M : List (Nat × Nat)} (h : OkL e L) (p : L.Perm M) : OkL e M :=
  ⟨h.iv, (p.pairwise_iff fun {a b} => Ap.symm).mp h.pw, fun q hq => h.own q (p.mem_iff.mpr hq)⟩
theorem elL_perm {L M : List (Nat × Nat)} (p : L.Perm M) : ∀ {s : Nat × (Nat → Nat)}, OkL s.2 L → elL s L = elL s M := by
  induction p with
  | nil => intro s h; rfl
  | cons a p ih => intro s h; exact ih (s := el s a) h.tail
  | swap a b l =>
    intro s h
    have ha := h.own a (by simp)
    have hb := h.own b (by simp)
    have ap := (List.pairwise_cons.mp h.pw).1 a (by simp)
    show elL (el (el s b) a) l = elL (el (el s a) b) l
    have := el_comm (r := s.1) h.iv hb.1 ha.1 ap.1 ap.2.1 ap.2.2.1 ap.2.2.2 hb.2.1 hb.2.2 ha.2.1 ha.2.2
    rw [show el (el s b) a = el (el s a) b from this]
  | trans p q ih1 ih2 => intro s h; rw [ih1 h, ih2 (h.perm p)]
theorem elL_snoc (s : Nat × (Nat → Nat)) (L : List (Nat × Nat)) (p : Nat × Nat) : elL s (L ++ [p]) = el (elL s L) p := by
  unfold elL; rw [List.foldl_append]; rfl
theorem elL_app (s : Nat × (Nat → Nat)) (L M : List (Nat × Nat)) : elL s (L ++ M) = elL (elL s L) M := by
  unfold elL; rw [List.foldl_append]
/-- an end of one of the pairs -/
def Pt (L : List (Nat × Nat)) (x : Nat) : Prop := ∃ p ∈ L, x = p.1 ∨ x = p.2
theorem elL_iv : ∀ {L : List (Nat × Nat)} {s : Nat × (Nat → Nat)}, OkL s.2 L → Iv (elL s L).2
  | [], _, h => h.iv
  | p :: L, s, h => elL_iv (L := L) (s := el s p) h.tail
theorem elL_fix : ∀ {L : List (Nat × Nat)} {s : Nat × (Nat → Nat)} {x : Nat}, OkL s.2 L → ((elL s L).2 x = x ↔ Pt L x ∨ s.2 x = x)
  | [], s, x, h => by
    show s.2 x = x ↔ _
    constructor
    · exact .inr
    · rintro (⟨p, hp, _⟩ | h)
      · cases hp
      · exact h
  | p :: L, s, x, h => by
    have ih := elL_fix (L := L) (s := el s p) (x := x) h.tail
    have hp := h.own p (by simp)
    show (elL (el s p) L).2 x = x ↔ _
    rw [ih]
    have jf := jn_fix (x := x) h.iv hp.1 hp.2.1 hp.2.2
    show (Pt L x ∨ jn p.1 p.2 s.2 x = x) ↔ _
    rw [jf]
    constructor
    · rintro (⟨q, hq, z⟩ | z | z | z)
      · exact .inl ⟨q, by simp [hq], z⟩
      · exact .inl ⟨p, by simp, .inl z⟩
      · exact .inl ⟨p, by simp, .inr z⟩
      · exact .inr z
    · rintro (⟨q, hq, z⟩ | z)
      · rcases List.mem_cons.mp hq with rfl | hq
        · rcases z with z | z
          · exact .inr (.inl z)
          · exact .inr (.inr (.inl z))
        · exact .inl ⟨q, hq, z⟩
      · exact .inr (.inr (.inr z))
theorem OkL.init {e : Nat → Nat} {L M : List (Nat × Nat)} (h : OkL e (L ++ M)) : OkL e L := ⟨h.iv, (List.pairwise_append.mp h.pw).1, fun p hp => h.own p (by simp [hp])⟩
theorem OkL.sub {e : Nat → Nat} {L M : List (Nat × Nat)} (h : OkL e M) (hs : L.Sublist M) : OkL e L := ⟨h.iv, h.pw.sublist hs, fun p hp => h.own p (hs.subset hp)⟩
/-! ### the way along the strings -/
def Gl (L : List (Nat × Nat)) (y z : Nat) : Prop := (y, z) ∈ L ∨ (z, y) ∈ L
inductive Wl (e : Nat → Nat) (L : List (Nat × Nat)) : Nat → Nat → Nat → Prop
  | stop {y : Nat} : ¬ Pt L y → Wl e L 0 y y
  | step {k y z w : Nat} : Gl L y z → Wl e L k (e z) w → Wl e L (k + 1) y w
theorem Gl.pt {L : List (Nat × Nat)} {y z : Nat} (h : Gl L y z) : Pt L y := by
  rcases h with h | h
  · exact ⟨_, h, .inl rfl⟩
  · exact ⟨_, h, .inr rfl⟩
theorem Wl.glue {e : Nat → Nat} {L : List (Nat × Nat)} {p : Nat × Nat} {a b k2 w : Nat} (hg : Gl (L ++ [p]) a b) : ∀ {k y : Nat}, Wl e L k y a → Wl e (L ++ [p]) k2 (e b) w → Wl e (L ++ [p]) (k + 1 + k2) y w := by
  intro k y h h2
  induction h with
  | stop _ => rw [show 0 + 1 + k2 = k2 + 1 by omega]; exact .step hg h2
  | @step k y z w' g r ih =>
    rw [show k + 1 + 1 + k2 = (k + 1 + k2) + 1 by omega]
    refine .step ?_ (ih hg)
    rcases g with g | g
    · exact .inl (List.mem_append_left _ g)
    · exact .inr (List.mem_append_left _ g)
theorem Wl.more {e : Nat → Nat} {L : List (Nat × Nat)} {p : Nat × Nat} {k y w : Nat} (h : Wl e L k y w) (hw : ¬ Pt (L ++ [p]) w) : Wl e (L ++ [p]) k y w := by
  induction h with
  | stop _ => exact .stop hw
  | @step k y z w' g r ih =>
    refine .step ?_ (ih hw)
    rcases g with g | g
    · exact .inl (List.mem_append_left _ g)
    · exact .inr (List.mem_append_left _ g)
theorem pt_snoc {L : List (Nat × Nat)} {p : Nat × Nat} {x : Nat} : Pt (L ++ [p]) x ↔ Pt L x ∨ x = p.1 ∨ x = p.2 := by
  constructor
  · rintro ⟨q, hq, z⟩
    rcases List.mem_append.mp hq with h | h
    · exact .inl ⟨q, h, z⟩
    · obtain rfl := List.mem_singleton.mp h
      exact .inr z
  · rintro (⟨q, hq, z⟩ | z)
    · exact ⟨q, by simp [hq], z⟩
    · exact ⟨p, by simp, z⟩
/-- where the way leads -/
theorem way_ok {e : Nat → Nat} {r : Nat} : ∀ (L : List (Nat × Nat)), OkL e L.reverse → ∀ x, ¬ Pt L.reverse x → e x ≠ x → ∃ k, k + 1 ≤ 2 ^ L.length ∧ Wl e L.reverse k (e x) ((elL (r, e) L.reverse).2 x)
  | [], h, x, hx, he => ⟨0, by simp, .stop fun ⟨p, hp, _⟩ => by cases hp⟩
  | p :: L, h, x, hx, he => by
    rw [List.reverse_cons] at h hx ⊢
    have h0 := h.init
    have ih := way_ok (r := r) L h0
    obtain ⟨F, hF⟩ : ∃ F, F = (elL (r, e) L.reverse).2 := ⟨_, rfl⟩
    have iv : Iv F := hF ▸ elL_iv (s := (r, e)) h0
    have fix : ∀ y, F y = y ↔ Pt L.reverse y ∨ e y = y := fun y => hF ▸ elL_fix (s := (r, e)) h0
    rw [elL_snoc]
    show ∃ k, _ ∧ Wl e _ k (e x) (jn p.1 p.2 (elL (r, e) L.reverse).2 x)
    simp only [← hF] at ih ⊢
    have hxL : ¬ Pt L.reverse x := fun z => hx (pt_snoc.mpr (.inl z))
    have hx1 : x ≠ p.1 := fun z => hx (pt_snoc.mpr (.inr (.inl z)))
    have hx2 : x ≠ p.2 := fun z => hx (pt_snoc.mpr (.inr (.inr z)))
    have own := h.own p (by simp)
    have pw := (List.pairwise_append.mp h.pw).2.2
    have n1 : ¬ Pt L.reverse p.1 := by
      rintro ⟨q, hq, z⟩
      have := pw q hq p (by simp)
      rcases z with z | z
      · exact this.1 z.symm
      · exact this.2.2.1 z.symm
    have n2 : ¬ Pt L.reverse p.2 := by
      rintro ⟨q, hq, z⟩
      have := pw q hq p (by simp)
      rcases z with z | z
      · exact this.2.1 z.symm
      · exact this.2.2.2 z.symm
    have f1 : F p.1 ≠ p.1 := fun z => by rcases (fix _).mp z with z | z; exact n1 z; exact own.2.1 z
    have f2 : F p.2 ≠ p.2 := fun z => by rcases (fix _).mp z with z | z; exact n2 z; exact own.2.2 z
    have fx : F x ≠ x := fun z => by rcases (fix _).mp z with z | z; exact hxL z; exact he z
    obtain ⟨k, hk, w⟩ := ih x hxL he
    have far : ∀ y, F y ≠ y → F y ≠ p.1 → F y ≠ p.2 → ¬ Pt (L.reverse ++ [p]) (F y) := fun y hy q1 q2 z => by
      rcases pt_snoc.mp z with z | z | z
      · exact hy ((iv y).symm.trans ((fix _).mpr (.inl z)) |>.symm)
      · exact q1 z
      · exact q2 z
    have pow : 2 ^ (p :: L).length = 2 ^ L.length + 2 ^ L.length := by rw [List.length_cons, Nat.pow_succ]; omega
    by_cases c1 : F x = p.1
    · obtain ⟨k2, hk2, w2⟩ := ih p.2 n2 own.2.2
      rw [jn_a iv hx1 hx2 c1]
      rw [c1] at w
      refine ⟨k + 1 + k2, by omega, Wl.glue (.inl (by simp)) w (w2.more (far _ f2 (fun z => ?_) f2))⟩
      have : p.2 = F p.1 := by rw [← z, iv]
      exact hx2 (by rw [this, ← c1, iv])
    · by_cases c2 : F x = p.2
      · obtain ⟨k2, hk2, w2⟩ := ih p.1 n1 own.2.1
        rw [jn_b iv hx1 hx2 c2 f2]
        rw [c2] at w
        refine ⟨k + 1 + k2, by omega, Wl.glue (.inr (by simp)) w (w2.more (far _ f1 f1 fun z => ?_))⟩
        have : p.1 = F p.2 := by rw [← z, iv]
        exact hx1 (by rw [this, ← c2, iv])
      · rw [jn_out iv hx1 hx2 c1 c2]
        exact ⟨k, by omega, w.more (far _ fx c1 c2)⟩
end VS
set_option Elab.async false
set_option linter.all false
set_option maxRecDepth 100000
namespace VS
/-! ### a mat behind another one: ends 0 .. n-1 above, n .. n+m-1 below the one, n+m .. n+2m-1 above the other, then those below it -/
section
variable (A H : Nat → Nat) (n m k : Nat)
def e0 (x : Nat) : Nat := if x < n + m then A x else if x < n + 2 * m + k then n + m + H (x - (n + m)) else x
def prs (Q : List Nat) : List (Nat × Nat) := Q.map fun q => (n + q, n + m + q)
def bhF : Nat × (Nat → Nat) := elL (0, e0 A H n m k) (prs n m (List.range m))
def Oue (x : Nat) : Prop := x < n ∨ (n + 2 * m ≤ x ∧ x < n + 2 * m + k)
def xp (p : Nat) : Nat := if p < n then p else p + 2 * m
def num (z : Nat) : Nat := if z < n then z else z - 2 * m
end
variable {A H : Nat → Nat} {n m k : Nat}
theorem e0_iv (hA : Pr (n + m) A) (hH : Pr (m + k) H) : Iv (e0 A H n m k) := by
  intro x
  unfold e0
  by_cases h1 : x < n + m
  · have := hA x h1
    rw [if_pos h1, if_pos this.1, this.2.2]
  · rw [if_neg h1]
    by_cases h2 : x < n + 2 * m + k
    · have := hH (x - (n + m)) (by omega)
      rw [if_pos h2, if_neg (by omega), if_pos (by omega), show n + m + H (x - (n + m)) - (n + m) = H (x - (n + m)) by omega, this.2.2]
      omega
    · rw [if_neg h2, if_neg h1, if_neg h2]
theorem e0_ne (hA : Pr (n + m) A) (hH : Pr (m + k) H) {x : Nat} (h : x < n + 2 * m + k) : e0 A H n m k x ≠ x := by
  unfold e0
  by_cases h1 : x < n + m
  · have := hA x h1
    rw [if_pos h1]; exact this.2.1
  · have := hH (x - (n + m)) (by omega)
    rw [if_neg h1, if_pos h]; omega
theorem e0_lt (hA : Pr (n + m) A) (hH : Pr (m + k) H) {x : Nat} (h : x < n + 2 * m + k) : e0 A H n m k x < n + 2 * m + k := by
  unfold e0
  by_cases h1 : x < n + m
  · have := hA x h1
    rw [if_pos h1]; omega
  · have := hH (x - (n + m)) (by omega)
    rw [if_neg h1, if_pos h]; omega
theorem prs_mem {Q : List Nat} {p : Nat × Nat} : p ∈ prs n m Q ↔ ∃ q ∈ Q, p = (n + q, n + m + q) := by
  unfold prs
  rw [List.mem_map]
  exact ⟨fun ⟨q, h, e⟩ => ⟨q, h, e.symm⟩, fun ⟨q, h, e⟩ => ⟨q, h, e.symm⟩⟩
theorem pt_prs {Q : List Nat} {y : Nat} : Pt (prs n m Q) y ↔ ∃ q ∈ Q, y = n + q ∨ y = n + m + q := by
  constructor
  · rintro ⟨p, hp, z⟩
    obtain ⟨q, hq, rfl⟩ := prs_mem.mp hp
    exact ⟨q, hq, z⟩
  · rintro ⟨q, hq, z⟩
    exact ⟨_, prs_mem.mpr ⟨q, hq, rfl⟩, z⟩
theorem pt_near {Q : List Nat} {q : Nat} (hl : ∀ q ∈ Q, q < m) (hq : q < m) : Pt (prs n m Q) (n + q) ↔ q ∈ Q := by
  rw [pt_prs]
  constructor
  · rintro ⟨p, hp, z⟩
    have := hl p hp
    obtain rfl : p = q := by omega
    exact hp
  · intro h; exact ⟨q, h, .inl rfl⟩
theorem pt_far {Q : List Nat} {q : Nat} (hl : ∀ q ∈ Q, q < m) (hq : q < m) : Pt (prs n m Q) (n + m + q) ↔ q ∈ Q := by
  rw [pt_prs]
  constructor
  · rintro ⟨p, hp, z⟩
    have := hl p hp
    obtain rfl : p = q := by omega
    exact hp
  · intro h; exact ⟨q, h, .inr rfl⟩
theorem out_pt {Q : List Nat} {x : Nat} (hl : ∀ q ∈ Q, q < m) (h : Oue n m k x) : ¬ Pt (prs n m Q) x := by
  rw [pt_prs]
  rintro ⟨p, hp, z⟩
  have := hl p hp
  unfold Oue at h
  omega
theorem prs_ok (hA : Pr (n + m) A) (hH : Pr (m + k) H) {Q : List Nat} (nd : Q.Nodup) (hl : ∀ q ∈ Q, q < m) : OkL (e0 A H n m k) (prs n m Q) := by
  refine ⟨e0_iv hA hH, ?_, fun p hp => ?_⟩
  · unfold prs
    rw [List.pairwise_map]
    refine List.Pairwise.imp_of_mem ?_ nd
    intro a b ha hb hab
    have h1 := hl a ha
    have h2 := hl b hb
    refine ⟨?_, ?_, ?_, ?_⟩ <;> simp only [] <;> omega
  · obtain ⟨q, hq, rfl⟩ := prs_mem.mp hp
    have := hl q hq
    exact ⟨by simp only []; omega, e0_ne hA hH (by simp only []; omega), e0_ne hA hH (by simp only []; omega)⟩
theorem prs_snoc (Q : List Nat) (q : Nat) : prs n m (Q ++ [q]) = prs n m Q ++ [(n + q, n + m + q)] := by
  unfold prs; rw [List.map_append]; rfl
theorem pt_step {Q : List Nat} {q y : Nat} : Pt (prs n m (Q ++ [q])) y ↔ Pt (prs n m Q) y ∨ y = n + q ∨ y = n + m + q := by
  rw [prs_snoc]; exact pt_snoc
/-- what stands after some pairs are joined -/
structure Sd (A H : Nat → Nat) (n m k : Nat) (Q : List Nat) (ps : List Bool) : Prop where
  nd : Q.Nodup
  lt : ∀ q ∈ Q, q < m
  len : ps.length = m
  fl : ∀ q, bt ps q = true ↔ q ∈ Q
/-- the numbers of rings and the ends -/
def fQ (A H : Nat → Nat) (n m k : Nat) (Q : List Nat) : Nat × (Nat → Nat) := elL (0, e0 A H n m k) (prs n m Q)
theorem fQ_snoc (Q : List Nat) (q : Nat) : fQ A H n m k (Q ++ [q]) = el (fQ A H n m k Q) (n + q, n + m + q) := by
  unfold fQ; rw [prs_snoc, elL_snoc]
theorem fQ_fix (hA : Pr (n + m) A) (hH : Pr (m + k) H) {Q : List Nat} (nd : Q.Nodup) (hl : ∀ q ∈ Q, q < m) {x : Nat} (hx : x < n + 2 * m + k) : (fQ A H n m k Q).2 x = x ↔ Pt (prs n m Q) x := by
  unfold fQ
  rw [elL_fix (prs_ok hA hH nd hl)]
  exact ⟨fun h => h.resolve_right (e0_ne hA hH hx), .inl⟩
theorem fQ_iv (hA : Pr (n + m) A) (hH : Pr (m + k) H) {Q : List Nat} (nd : Q.Nodup) (hl : ∀ q ∈ Q, q < m) : Iv (fQ A H n m k Q).2 := elL_iv (s := (0, e0 A H n m k)) (prs_ok hA hH nd hl)
theorem fQ_way (hA : Pr (n + m) A) (hH : Pr (m + k) H) {Q : List Nat} (nd : Q.Nodup) (hl : ∀ q ∈ Q, q < m) {x : Nat} (hx : x < n + 2 * m + k) (hp : ¬ Pt (prs n m Q) x) : ∃ j, j + 1 ≤ 2 ^ Q.length ∧ Wl (e0 A H n m k) (prs n m Q) j (e0 A H n m k x) ((fQ A H n m k Q).2 x) := by
  have := way_ok (r := 0) (prs n m Q).reverse (by rw [List.reverse_reverse]; exact prs_ok hA hH nd hl) x (by rwa [List.reverse_reverse]) (e0_ne hA hH hx)
  rw [List.reverse_reverse, List.length_reverse, show (prs n m Q).length = Q.length by simp [prs]] at this
  exact this
/-- what leads outside stays -/
theorem fQ_keep {Q : List Nat} {q x : Nat} (iv : Iv (fQ A H n m k Q).2) (hq : q < m) (hx : Oue n m k x) (hz : Oue n m k ((fQ A H n m k Q).2 x)) : (fQ A H n m k (Q ++ [q])).2 x = (fQ A H n m k Q).2 x := by
  rw [fQ_snoc]
  unfold Oue at hx hz
  exact jn_out iv (by simp only []; omega) (by simp only []; omega) (by simp only []; omega) (by simp only []; omega)
theorem fQ_keeps (hA : Pr (n + m) A) (hH : Pr (m + k) H) {x : Nat} (hx : Oue n m k x) : ∀ (R Q : List Nat), (Q ++ R).Nodup → (∀ q ∈ Q ++ R, q < m) → Oue n m k ((fQ A H n m k Q).2 x) → (fQ A H n m k (Q ++ R)).2 x = (fQ A H n m k Q).2 x
  | [], Q, _, _, _ => by rw [List.append_nil]
  | r :: R, Q, nd, hl, hz => by
    have e : Q ++ r :: R = (Q ++ [r]) ++ R := by simp
    rw [e] at nd hl ⊢
    have n1 : (Q ++ [r]).Nodup := nd.sublist (List.sublist_append_left _ _)
    have n0 : Q.Nodup := n1.sublist (List.sublist_append_left _ _)
    have k1 := fQ_keep (fQ_iv hA hH n0 fun q hq => hl q (by simp [hq])) (hl r (by simp)) hx hz
    rw [fQ_keeps hA hH hx R (Q ++ [r]) nd hl (by rw [k1]; exact hz), k1]
/-- all pairs, in whatever order -/
theorem nodup_full {Q : List Nat} (nd : Q.Nodup) (hl : ∀ q ∈ Q, q < m) : ∃ R, (Q ++ R).Nodup ∧ (∀ q ∈ Q ++ R, q < m) ∧ (Q ++ R).Perm (List.range m) := by
  refine ⟨(List.range m).filter (fun q => decide (q ∉ Q)), ?_, ?_, ?_⟩
  · rw [List.nodup_append]
    refine ⟨nd, List.nodup_range.filter _, fun a ha b hb e => ?_⟩
    subst e
    have := (List.mem_filter.mp hb).2
    exact (of_decide_eq_true this) ha
  · intro q hq
    rcases List.mem_append.mp hq with h | h
    · exact hl q h
    · exact List.mem_range.mp (List.mem_filter.mp h).1
  · refine (List.perm_ext_iff_of_nodup ?_ List.nodup_range).mpr fun q => ?_
    · rw [List.nodup_append]
      refine ⟨nd, List.nodup_range.filter _, fun a ha b hb e => ?_⟩
      subst e
      have := (List.mem_filter.mp hb).2
      exact (of_decide_eq_true this) ha
    · rw [List.mem_append, List.mem_filter, List.mem_range]
      constructor
      · rintro (h | h)
        · exact hl q h
        · exact h.1
      · intro h
        by_cases c : q ∈ Q
        · exact .inl c
        · exact .inr ⟨h, decide_eq_true c⟩
theorem fQ_perm (hA : Pr (n + m) A) (hH : Pr (m + k) H) {Q R : List Nat} (nd : Q.Nodup) (hl : ∀ q ∈ Q, q < m) (p : Q.Perm R) : fQ A H n m k Q = fQ A H n m k R :=
  elL_perm (p.map _) (prs_ok hA hH nd hl)
theorem fQ_full (hA : Pr (n + m) A) (hH : Pr (m + k) H) {Q : List Nat} (nd : Q.Nodup) (hl : ∀ q ∈ Q, q < m) {x : Nat} (hx : Oue n m k x) (hz : Oue n m k ((fQ A H n m k Q).2 x)) : (bhF A H n m k).2 x = (fQ A H n m k Q).2 x := by
  obtain ⟨R, h1, h2, h3⟩ := nodup_full nd hl
  rw [← fQ_keeps hA hH hx R Q h1 h2 hz, fQ_perm hA hH h1 h2 h3]
  rfl
/-! ### the way from one peg outside to another, marked -/
def pt (n m : Nat) (b : Bool) (a : Nat) : Nat := if b = true then a else n + m + a
theorem sd_set {Q : List Nat} {ps : List Bool} {q : Nat} (h : Sd A H n m k Q ps) (hq : q < m) (hn : q ∉ Q) : Sd A H n m k (Q ++ [q]) (ps.set q true) := by
  refine ⟨?_, fun x hx => ?_, by rw [List.length_set]; exact h.len, fun x => ?_⟩
  · rw [List.nodup_append]
    exact ⟨h.nd, by simp, fun a ha b hb e => by rw [List.mem_singleton] at hb; subst e; subst hb; exact hn ha⟩
  · rcases List.mem_append.mp hx with z | z
    · exact h.lt x z
    · rw [List.mem_singleton.mp z]; exact hq
  · rw [bt_set (by rw [h.len]; exact hq)]
    by_cases c : x = q
    · subst c; simp
    · rw [if_neg c, h.fl]
      simp [c]
theorem sd_same {Q : List Nat} {ps : List Bool} {q : Nat} (h : Sd A H n m k Q ps) (hq : q ∈ Q) : Sd A H n m k Q (ps.set q true) := by
  refine ⟨h.nd, h.lt, by rw [List.length_set]; exact h.len, fun x => ?_⟩
  rw [bt_set (by rw [h.len]; exact h.lt q hq)]
  by_cases c : x = q
  · subst c; simp [hq]
  · rw [if_neg c, h.fl]
theorem wk_all (hA : Pr (n + m) A) (hH : Pr (m + k) H) {x : Nat} (hx : Oue n m k x) {c r : Nat} {ps' : List Bool} : ∀ (f : Nat) (b : Bool) (a : Nat) (ps : List Bool) (Q : List Nat), Sd A H n m k Q ps → pt n m b a < n + 2 * m + k → (b = true → a < n + m) → (∃ j, Wl (e0 A H n m k) (prs n m Q) j (pt n m b a) ((fQ A H n m k Q).2 x)) → (∀ y, Pt (prs n m Q) y → Oue n m k (e0 A H n m k y) ∨ Pt (prs n m Q) (e0 A H n m k y) ∨ e0 A H n m k y = pt n m b a) → (Oue n m k (e0 A H n m k (pt n m b a)) ∨ Pt (prs n m Q) (e0 A H n m k (pt n m b a))) → (fQ A H n m k Q).1 = c → wk A H n m f b a ps = some (r, ps') →
    ∃ R, Sd A H n m k (Q ++ R) ps' ∧ (∀ y, Pt (prs n m (Q ++ R)) y → Oue n m k (e0 A H n m k y) ∨ Pt (prs n m (Q ++ R)) (e0 A H n m k y)) ∧ (fQ A H n m k (Q ++ R)).1 = c ∧ Oue n m k ((fQ A H n m k (Q ++ R)).2 x) ∧ r = num n m ((fQ A H n m k (Q ++ R)).2 x)
  | 0, b, a, ps, Q, h, hb, ha, hw, hc, hc2, h1, hk => by cases hk
  | f + 1, b, a, ps, Q, h, hb, ha, ⟨j, hw⟩, hc, hc2, h1, hk => by
    -- at an end outside
    have fin : ∀ z, Oue n m k z → z = pt n m b a → (fQ A H n m k Q).2 x = z := fun z hz e => by
      rw [← e] at hw
      cases hw with
      | stop _ => rfl
      | step g _ => exact absurd g.pt (out_pt h.lt hz)
    have fin2 : Oue n m k (pt n m b a) → ∀ y, Pt (prs n m Q) y → Oue n m k (e0 A H n m k y) ∨ Pt (prs n m Q) (e0 A H n m k y) := fun ho y hy => by
      rcases hc y hy with z | z | z
      · exact .inl z
      · exact .inr z
      · rw [z]; exact .inl ho
    -- at a pair: c0 the end, d0 its partner
    have go : ∀ (q c0 d0 : Nat) (b' : Bool) (a' : Nat), q < m → c0 = pt n m b a → (c0 = n + q ∧ d0 = n + m + q ∨ c0 = n + m + q ∧ d0 = n + q) → e0 A H n m k d0 = pt n m b' a' → (b' = true → a' < n + m) → wk A H n m f b' a' (ps.set q true) = some (r, ps') → ∃ R, Sd A H n m k (Q ++ R) ps' ∧ (∀ y, Pt (prs n m (Q ++ R)) y → Oue n m k (e0 A H n m k y) ∨ Pt (prs n m (Q ++ R)) (e0 A H n m k y)) ∧ (fQ A H n m k (Q ++ R)).1 = c ∧ Oue n m k ((fQ A H n m k (Q ++ R)).2 x) ∧ r = num n m ((fQ A H n m k (Q ++ R)).2 x) := by
      intro q c0 d0 b' a' hq hc0 hcd he hb' hk
      have dl : d0 < n + 2 * m + k := by omega
      have ptb : pt n m b' a' < n + 2 * m + k := by rw [← he]; exact e0_lt hA hH dl
      have cd : ∀ y, y = n + q ∨ y = n + m + q ↔ y = c0 ∨ y = d0 := fun y => by omega
      by_cases hin : q ∈ Q
      · have cin : Pt (prs n m Q) c0 := pt_prs.mpr ⟨q, hin, (cd c0).mpr (.inl rfl)⟩
        have din : Pt (prs n m Q) d0 := pt_prs.mpr ⟨q, hin, (cd d0).mpr (.inr rfl)⟩
        refine wk_all hA hH hx f b' a' _ Q (sd_same h hin) ptb hb' ?_ (fun y hy => ?_) ?_ h1 hk
        · rw [← hc0] at hw
          cases hw with
          | stop z => exact absurd cin z
          | @step j' _ z _ g w =>
            have : z = d0 := by
              rcases g with g | g
              · obtain ⟨q', hq', e⟩ := prs_mem.mp g
                have := h.lt q' hq'
                have e1 := (Prod.mk.inj e).1
                have e2 := (Prod.mk.inj e).2
                omega
              · obtain ⟨q', hq', e⟩ := prs_mem.mp g
                have := h.lt q' hq'
                have e1 := (Prod.mk.inj e).1
                have e2 := (Prod.mk.inj e).2
                omega
            subst this
            rw [he] at w
            exact ⟨_, w⟩
        · rcases hc y hy with z | z | z
          · exact .inl z
          · exact .inr (.inl z)
          · rw [z, ← hc0]; exact .inr (.inl cin)
        · rw [← he, e0_iv hA hH]; exact .inr din
      · have cnin : ¬ Pt (prs n m Q) c0 := fun z => by
          rcases hcd with e | e
          · rw [e.1, pt_near h.lt hq] at z; exact hin z
          · rw [e.1, pt_far h.lt hq] at z; exact hin z
        have dnin : ¬ Pt (prs n m Q) d0 := fun z => by
          rcases hcd with e | e
          · rw [e.2, pt_far h.lt hq] at z; exact hin z
          · rw [e.2, pt_near h.lt hq] at z; exact hin z
        have fx : (fQ A H n m k Q).2 x = c0 := by
          rw [← hc0] at hw
          cases hw with
          | stop _ => rfl
          | step g _ => exact absurd g.pt cnin
        have iv := fQ_iv hA hH h.nd h.lt
        have fc : (fQ A H n m k Q).2 c0 = x := by rw [← fx, iv]
        have nd := sd_set h hq hin
        have xo : x ≠ n + q ∧ x ≠ n + m + q := by unfold Oue at hx; omega
        have ring : (fQ A H n m k (Q ++ [q])).1 = c := by
          rw [fQ_snoc]
          show (if (fQ A H n m k Q).2 (n + q) = n + m + q then _ else _) = c
          rw [if_neg, h1]
          intro z
          rcases hcd with e | e
          · rw [← e.1, fc] at z; exact xo.2 z
          · have : (fQ A H n m k Q).2 (n + m + q) = n + q := by rw [← z, iv]
            rw [← e.1, fc] at this; exact xo.1 this
        have f1 : (fQ A H n m k Q).2 d0 ≠ d0 := fun z => dnin ((fQ_fix hA hH h.nd h.lt dl).mp z)
        have fx2 : (fQ A H n m k (Q ++ [q])).2 x = (fQ A H n m k Q).2 d0 := by
          rw [fQ_snoc]
          rcases hcd with e | e
          · rw [e.2]; exact jn_a iv xo.1 xo.2 (fx.trans e.1)
          · rw [e.2]; exact jn_b iv xo.1 xo.2 (fx.trans e.1) (by rw [← e.1, fc]; rw [e.1]; exact xo.2)
        obtain ⟨R, q1, q2, q3, q4, q5⟩ := wk_all hA hH hx f b' a' _ (Q ++ [q]) nd ptb hb' (by
          obtain ⟨j2, _, w2⟩ := fQ_way hA hH h.nd h.lt dl dnin
          rw [he] at w2
          rw [fx2, prs_snoc]
          refine ⟨j2, w2.more fun z => ?_⟩
          have fd : (fQ A H n m k Q).2 ((fQ A H n m k Q).2 d0) = d0 := iv d0
          have dlt : (fQ A H n m k Q).2 d0 < n + 2 * m + k := by
            rcases Nat.lt_or_ge ((fQ A H n m k Q).2 d0) (n + 2 * m + k) with q | q
            · exact q
            · have : (fQ A H n m k Q).2 ((fQ A H n m k Q).2 d0) = (fQ A H n m k Q).2 d0 := by
                refine (elL_fix (s := (0, e0 A H n m k)) (prs_ok hA hH h.nd h.lt)).mpr (.inr ?_)
                show e0 A H n m k _ = _
                unfold e0
                rw [if_neg (by omega), if_neg (by omega)]
              exact absurd (this.symm.trans fd) f1
          rcases pt_snoc.mp z with z | z
          · have := (fQ_fix hA hH h.nd h.lt dlt).mpr z
            exact f1 (this.symm.trans fd)
          · rcases (cd _).mp z with z | z
            · rw [z, fc] at fd
              have := (cd d0).mpr (.inr rfl)
              omega
            · exact f1 z) (fun y hy => by
          rcases pt_step.mp hy with z | z
          · rcases hc y z with z | z | z
            · exact .inl z
            · exact .inr (.inl (pt_step.mpr (.inl z)))
            · rw [z, ← hc0]; exact .inr (.inl (pt_step.mpr (.inr ((cd c0).mpr (.inl rfl)))))
          · rcases (cd y).mp z with z | z
            · rw [z, hc0]
              rcases hc2 with z | z
              · exact .inl z
              · exact .inr (.inl (pt_step.mpr (.inl z)))
            · rw [z]; exact .inr (.inr he)) (by rw [← he, e0_iv hA hH]; exact .inr (pt_step.mpr (.inr ((cd d0).mpr (.inr rfl))))) ring hk
        have e : Q ++ [q] ++ R = Q ++ (q :: R) := by simp
        rw [e] at q1 q2 q3 q4 q5
        exact ⟨q :: R, q1, q2, q3, q4, q5⟩
    cases b with
    | true =>
      rw [wk_t] at hk
      have pb : pt n m true a = a := rfl
      have ha := ha rfl
      by_cases c1 : a < n
      · rw [if_pos c1] at hk
        cases hk
        have ho : Oue n m k (pt n m true r) := .inl c1
        have e := fin _ ho rfl
        refine ⟨[], by rw [List.append_nil]; exact h, by rw [List.append_nil]; exact fin2 ho, by rw [List.append_nil]; exact h1, by rw [List.append_nil, e]; exact ho, ?_⟩
        rw [List.append_nil, e]
        unfold num; rw [pb, if_pos c1]
      · rw [if_neg c1] at hk
        have hh := hH (a - n) (by omega)
        refine go (a - n) a (n + m + (a - n)) false (H (a - n)) (by omega) pb.symm (.inl ⟨by omega, rfl⟩) ?_ (fun z => by cases z) hk
        unfold e0 pt
        rw [if_neg (by omega), if_pos (by omega), if_neg (by simp), show n + m + (a - n) - (n + m) = a - n by omega]
    | false =>
      rw [wk_f] at hk
      have pb : pt n m false a = n + m + a := rfl
      by_cases c1 : m ≤ a
      · rw [if_pos c1] at hk
        cases hk
        have ho : Oue n m k (pt n m false a) := .inr ⟨by omega, hb⟩
        have e := fin _ ho rfl
        refine ⟨[], by rw [List.append_nil]; exact h, by rw [List.append_nil]; exact fin2 ho, by rw [List.append_nil]; exact h1, by rw [List.append_nil, e]; exact ho, ?_⟩
        rw [List.append_nil, e]
        unfold num; rw [pb, if_neg (by omega)]; omega
      · rw [if_neg c1] at hk
        have hh := hA (n + a) (by omega)
        refine go a (n + m + a) (n + a) true (A (n + a)) (by omega) pb.symm (.inr ⟨rfl, rfl⟩) ?_ (fun _ => hh.1) hk
        unfold e0 pt
        rw [if_pos (by omega), if_pos rfl]
/-- the way ends -/
theorem wk_some (hA : Pr (n + m) A) (hH : Pr (m + k) H) {w : Nat} (hw : Oue n m k w) {j y : Nat} (h : Wl (e0 A H n m k) (prs n m (List.range m)) j y w) : ∀ (b : Bool) (a : Nat) (ps : List Bool), y = pt n m b a → (b = true → a < n + m) → y < n + 2 * m + k → ∃ r ps', wk A H n m (j + 1) b a ps = some (r, ps') := by
  induction h with
  | @stop y hy =>
    intro b a ps e ha hb
    subst e
    cases b with
    | true =>
      have pb : pt n m true a = a := rfl
      have := ha rfl
      rw [wk_t, if_pos (by unfold Oue at hw; omega)]
      exact ⟨_, _, rfl⟩
    | false =>
      have pb : pt n m false a = n + m + a := rfl
      rw [wk_f, if_pos (by unfold Oue at hw; omega)]
      exact ⟨_, _, rfl⟩
  | @step j y z w' g r ih =>
    intro b a ps e ha hb
    have ih := ih hw
    have yz : ∃ q, q < m ∧ (y = n + q ∧ z = n + m + q ∨ y = n + m + q ∧ z = n + q) := by
      rcases g with g | g
      · obtain ⟨q', hq', e⟩ := prs_mem.mp g
        exact ⟨q', List.mem_range.mp hq', .inl ⟨(Prod.mk.inj e).1, (Prod.mk.inj e).2⟩⟩
      · obtain ⟨q', hq', e⟩ := prs_mem.mp g
        exact ⟨q', List.mem_range.mp hq', .inr ⟨(Prod.mk.inj e).2, (Prod.mk.inj e).1⟩⟩
    obtain ⟨q, hq, yz⟩ := yz
    subst e
    have ez : e0 A H n m k z < n + 2 * m + k := e0_lt hA hH (by omega)
    cases b with
    | true =>
      have pb : pt n m true a = a := rfl
      have := ha rfl
      rw [wk_t, if_neg (by omega)]
      refine ih false (H (a - n)) _ ?_ (fun z => by cases z) ez
      unfold e0 pt
      rw [if_neg (by omega), if_pos (by omega), if_neg (by simp), show z - (n + m) = a - n by omega]
    | false =>
      have pb : pt n m false a = n + m + a := rfl
      rw [wk_f, if_neg (by omega)]
      have hh := hA (n + a) (by omega)
      refine ih true (A (n + a)) _ ?_ (fun _ => hh.1) ez
      unfold e0 pt
      rw [if_pos (by omega), if_pos rfl, show z = n + a by omega]
/-- all pegs outside -/
structure Md (A H : Nat → Nat) (n m k : Nat) (Q : List Nat) (ps : List Bool) : Prop where
  sd : Sd A H n m k Q ps
  cl : ∀ y, Pt (prs n m Q) y → Oue n m k (e0 A H n m k y) ∨ Pt (prs n m Q) (e0 A H n m k y)
theorem far_all (hA : Pr (n + m) A) (hH : Pr (m + k) H) {Q : List Nat} {ps : List Bool} {p c : Nat} (h : Md A H n m k Q ps) (hc : (fQ A H n m k Q).1 = c) (hp : p < n + k) : ∃ ps' R, wk A H n m (2 ^ m + 1) (wkS A H n m p).1 (wkS A H n m p).2 ps = some (num n m ((bhF A H n m k).2 (xp n m p)), ps') ∧ Md A H n m k (Q ++ R) ps' ∧ (fQ A H n m k (Q ++ R)).1 = c ∧ Oue n m k ((fQ A H n m k (Q ++ R)).2 (xp n m p)) := by
  have hx : Oue n m k (xp n m p) := by unfold Oue xp; split <;> omega
  have xl : xp n m p < n + 2 * m + k := by unfold xp; split <;> omega
  have st : pt n m (wkS A H n m p).1 (wkS A H n m p).2 = e0 A H n m k (xp n m p) := by
    by_cases c1 : p < n
    · have e1 : xp n m p = p := if_pos c1
      have e2 : wkS A H n m p = (true, A p) := if_pos c1
      rw [e1, e2]
      show A p = e0 A H n m k p
      unfold e0
      rw [if_pos (by omega)]
    · have e1 : xp n m p = p + 2 * m := if_neg c1
      have e2 : wkS A H n m p = (false, H (m + p - n)) := if_neg c1
      rw [e1, e2]
      show n + m + H (m + p - n) = e0 A H n m k (p + 2 * m)
      unfold e0
      rw [if_neg (by omega), if_pos (by omega), show p + 2 * m - (n + m) = m + p - n by omega]
  have sb : (wkS A H n m p).1 = true → (wkS A H n m p).2 < n + m := fun z => by
    unfold wkS at z ⊢
    by_cases c1 : p < n
    · rw [if_pos c1]; exact (hA p (by omega)).1
    · rw [if_neg c1] at z; cases z
  have full := fQ_way hA hH (Q := List.range m) (List.nodup_range) (fun q hq => List.mem_range.mp hq) xl (out_pt (fun q hq => List.mem_range.mp hq) hx)
  obtain ⟨j, hj, w⟩ := full
  have zo : Oue n m k ((fQ A H n m k (List.range m)).2 (xp n m p)) := by
    have iv := fQ_iv hA hH (Q := List.range m) List.nodup_range (fun q hq => List.mem_range.mp hq)
    have f0 : (fQ A H n m k (List.range m)).2 (xp n m p) ≠ xp n m p := fun z => out_pt (fun q hq => List.mem_range.mp hq) hx ((fQ_fix hA hH List.nodup_range (fun q hq => List.mem_range.mp hq) xl).mp z)
    have fl : (fQ A H n m k (List.range m)).2 (xp n m p) < n + 2 * m + k := by
      rcases Nat.lt_or_ge ((fQ A H n m k (List.range m)).2 (xp n m p)) (n + 2 * m + k) with q | q
      · exact q
      · have : (fQ A H n m k (List.range m)).2 ((fQ A H n m k (List.range m)).2 (xp n m p)) = (fQ A H n m k (List.range m)).2 (xp n m p) := by
          refine (elL_fix (s := (0, e0 A H n m k)) (prs_ok hA hH List.nodup_range (fun q hq => List.mem_range.mp hq))).mpr (.inr ?_)
          show e0 A H n m k _ = _
          unfold e0
          rw [if_neg (by omega), if_neg (by omega)]
        exact absurd (this.symm.trans (iv _)) f0
    have np : ¬ Pt (prs n m (List.range m)) ((fQ A H n m k (List.range m)).2 (xp n m p)) := fun z => f0 (((fQ_fix hA hH List.nodup_range (fun q hq => List.mem_range.mp hq) fl).mpr z).symm.trans (iv _))
    unfold Oue
    rcases Nat.lt_or_ge ((fQ A H n m k (List.range m)).2 (xp n m p)) n with q | q
    · exact .inl q
    · refine .inr ⟨?_, fl⟩
      rcases Nat.lt_or_ge ((fQ A H n m k (List.range m)).2 (xp n m p)) (n + 2 * m) with q2 | q2
      · exfalso
        apply np
        rw [pt_prs]
        rcases Nat.lt_or_ge ((fQ A H n m k (List.range m)).2 (xp n m p)) (n + m) with q3 | q3
        · exact ⟨(fQ A H n m k (List.range m)).2 (xp n m p) - n, List.mem_range.mpr (by omega), .inl (by omega)⟩
        · exact ⟨(fQ A H n m k (List.range m)).2 (xp n m p) - n - m, List.mem_range.mpr (by omega), .inr (by omega)⟩
      · exact q2
  obtain ⟨r, ps', hk⟩ := wk_some hA hH zo w _ _ ps st.symm sb (e0_lt hA hH xl)
  rw [List.length_range] at hj
  have hk : wk A H n m (2 ^ m + 1) (wkS A H n m p).1 (wkS A H n m p).2 ps = some (r, ps') := by
    have mono : ∀ f b a ps r ps', wk A H n m f b a ps = some (r, ps') → wk A H n m (f + 1) b a ps = some (r, ps') := by
      intro f
      induction f with
      | zero => intro b a ps r ps' h; cases h
      | succ f ih =>
        intro b a ps r ps' h
        cases b with
        | true =>
          rw [wk_t] at h ⊢
          split
          · rename_i c; rw [if_pos c] at h; exact h
          · rename_i c; rw [if_neg c] at h; exact ih _ _ _ _ _ h
        | false =>
          rw [wk_f] at h ⊢
          split
          · rename_i c; rw [if_pos c] at h; exact h
          · rename_i c; rw [if_neg c] at h; exact ih _ _ _ _ _ h
    have more : ∀ d, wk A H n m (j + 1 + d) (wkS A H n m p).1 (wkS A H n m p).2 ps = some (r, ps') := by
      intro d
      induction d with
      | zero => exact hk
      | succ d ih => exact mono _ _ _ _ _ _ ih
    have := more (2 ^ m - j)
    rwa [show j + 1 + (2 ^ m - j) = 2 ^ m + 1 by omega] at this
  obtain ⟨R, q1, q2, q3, q4, q5⟩ := wk_all (c := c) hA hH hx _ _ _ _ Q h.sd (by rw [st]; exact e0_lt hA hH xl) sb (by
    obtain ⟨j, _, w⟩ := fQ_way hA hH h.sd.nd h.sd.lt xl (out_pt h.sd.lt hx)
    rw [st]; exact ⟨j, w⟩) (fun y hy => by
      rcases h.cl y hy with z | z
      · exact .inl z
      · exact .inr (.inl z)) (by rw [st, e0_iv hA hH]; exact .inl hx) hc hk
  refine ⟨ps', R, ?_, ⟨q1, q2⟩, q3, q4⟩
  rw [hk, q5, fQ_full hA hH q1.nd q1.lt hx q4]
end VS
set_option Elab.async false
set_option linter.all false
set_option maxRecDepth 100000
namespace VS
variable {A H : Nat → Nat} {n m k : Nat}
/-! ### rings that no way from outside passes -/
theorem nodup_len {Q : List Nat} (nd : Q.Nodup) (hl : ∀ q ∈ Q, q < m) : Q.length ≤ m := by
  obtain ⟨R, _, _, h⟩ := nodup_full nd hl
  have := h.length_eq
  rw [List.length_append, List.length_range] at this
  omega
theorem fQ_big (hA : Pr (n + m) A) (hH : Pr (m + k) H) {Q : List Nat} (nd : Q.Nodup) (hl : ∀ q ∈ Q, q < m) {x : Nat} (hx : x < n + 2 * m + k) (hp : ¬ Pt (prs n m Q) x) : (fQ A H n m k Q).2 x < n + 2 * m + k := by
  have iv := fQ_iv hA hH nd hl
  rcases Nat.lt_or_ge ((fQ A H n m k Q).2 x) (n + 2 * m + k) with q | q
  · exact q
  · have : (fQ A H n m k Q).2 ((fQ A H n m k Q).2 x) = (fQ A H n m k Q).2 x := by
      refine (elL_fix (s := (0, e0 A H n m k)) (prs_ok hA hH nd hl)).mpr (.inr ?_)
      show e0 A H n m k _ = _
      unfold e0
      rw [if_neg (by omega), if_neg (by omega)]
    exact absurd ((fQ_fix hA hH nd hl hx).mp (this.symm.trans (iv x))) hp
structure Lp (A H : Nat → Nat) (n m k : Nat) (Q : List Nat) (s c : Nat) : Prop where
  sQ : s ∉ Q
  sm : s < m
  nd : Q.Nodup
  lt : ∀ q ∈ Q, q < m
  fc : (fQ A H n m k Q).2 (n + s) = c
  c0 : Pt (prs n m Q) (e0 A H n m k c) ∨ e0 A H n m k c = n + s
  cl : ∀ y, Pt (prs n m Q) y → Oue n m k (e0 A H n m k y) ∨ Pt (prs n m Q) (e0 A H n m k y) ∨ e0 A H n m k y = n + s ∨ e0 A H n m k y = c
  s0 : Pt (prs n m Q) (e0 A H n m k (n + s)) ∨ e0 A H n m k (n + s) = c
  no : ∀ x, Oue n m k x → Oue n m k ((fQ A H n m k Q).2 x)
theorem Lp.at (hA : Pr (n + m) A) (hH : Pr (m + k) H) {Q : List Nat} {s c : Nat} (h : Lp A H n m k Q s c) : ¬ Oue n m k c ∧ c < n + 2 * m + k ∧ c ≠ n + s ∧ ¬ Pt (prs n m Q) c := by
  have iv := fQ_iv hA hH h.nd h.lt
  have sl : n + s < n + 2 * m + k := by have := h.sm; omega
  have np : ¬ Pt (prs n m Q) (n + s) := by rw [pt_near h.lt h.sm]; exact h.sQ
  have fb := fQ_big hA hH h.nd h.lt sl np
  rw [h.fc] at fb
  have fcc : (fQ A H n m k Q).2 c = n + s := by rw [← h.fc, iv]
  refine ⟨fun o => ?_, fb, fun z => ?_, fun z => ?_⟩
  · have := h.no c o
    rw [fcc] at this
    have := h.sm
    unfold Oue at *
    omega
  · exact np ((fQ_fix hA hH h.nd h.lt sl).mp (h.fc.trans z))
  · have := (fQ_fix hA hH h.nd h.lt fb).mpr z
    rw [fcc] at this
    exact np (this ▸ z)
theorem Lp.half (hA : Pr (n + m) A) (hH : Pr (m + k) H) {Q : List Nat} {s c d q : Nat} (h : Lp A H n m k Q s c) (hcd : c = n + q ∧ d = n + m + q ∨ c = n + m + q ∧ d = n + q) (hq : q < m) (hs : q ≠ s) : q ∉ Q ∧ Lp A H n m k (Q ++ [q]) s (e0 A H n m k d) ∧ (fQ A H n m k (Q ++ [q])).1 = (fQ A H n m k Q).1 := by
  obtain ⟨a1, a2, a3, a4⟩ := h.at hA hH
  have sm := h.sm
  have iv := fQ_iv hA hH h.nd h.lt
  have ie := e0_iv hA hH
  have hin : q ∉ Q := fun z => a4 (pt_prs.mpr ⟨q, z, by rcases hcd with e | e; exact .inl e.1; exact .inr e.1⟩)
  have dl : d < n + 2 * m + k := by omega
  have dout : ¬ Oue n m k d := by unfold Oue; omega
  have dnin : ¬ Pt (prs n m Q) d := fun z => by
    rcases hcd with e | e
    · rw [e.2, pt_far h.lt hq] at z; exact hin z
    · rw [e.2, pt_near h.lt hq] at z; exact hin z
  have ynin : ¬ Pt (prs n m Q) (e0 A H n m k d) := fun z => by
    rcases h.cl _ z with o | o | o | o
    · rw [ie] at o; exact dout o
    · rw [ie] at o; exact dnin o
    · rw [ie] at o; omega
    · rw [ie] at o; omega
  obtain ⟨j, _, w⟩ := fQ_way hA hH h.nd h.lt dl dnin
  have fd : (fQ A H n m k Q).2 d = e0 A H n m k d := by
    generalize hz : (fQ A H n m k Q).2 d = z at w
    cases w with
    | stop _ => rfl
    | step g _ => exact absurd g.pt ynin
  have fcc : (fQ A H n m k Q).2 c = n + s := by rw [← h.fc, iv]
  have cd : ∀ y, y = n + q ∨ y = n + m + q ↔ y = c ∨ y = d := fun y => by omega
  have fd1 : e0 A H n m k d ≠ d := e0_ne hA hH dl
  refine ⟨hin, ⟨?_, sm, ?_, ?_, ?_, ?_, ?_, ?_, ?_⟩, ?_⟩
  · intro z
    rcases List.mem_append.mp z with z | z
    · exact h.sQ z
    · exact hs (List.mem_singleton.mp z).symm
  · rw [List.nodup_append]
    exact ⟨h.nd, by simp, fun a ha b hb e => by rw [List.mem_singleton] at hb; subst e; subst hb; exact hin ha⟩
  · intro x hx
    rcases List.mem_append.mp hx with z | z
    · exact h.lt x z
    · rw [List.mem_singleton.mp z]; exact hq
  · rw [fQ_snoc]
    rcases hcd with e | e
    · have := jn_a (a := n + q) (b := n + m + q) iv (x := n + s) (by omega) (by omega) (h.fc.trans e.1)
      rw [← e.2, fd] at this
      exact e.2 ▸ this
    · have := jn_b (a := n + q) (b := n + m + q) iv (x := n + s) (by omega) (by omega) (h.fc.trans e.1) (by rw [← e.1, fcc]; omega)
      rw [← e.2, fd] at this
      exact e.2 ▸ this
  · rw [ie]; exact .inl (pt_step.mpr (.inr ((cd d).mpr (.inr rfl))))
  · intro y hy
    rcases pt_step.mp hy with z | z
    · rcases h.cl y z with o | o | o | o
      · exact .inl o
      · exact .inr (.inl (pt_step.mpr (.inl o)))
      · exact .inr (.inr (.inl o))
      · rw [o]; exact .inr (.inl (pt_step.mpr (.inr ((cd c).mpr (.inl rfl)))))
    · rcases (cd y).mp z with z | z
      · rw [z]
        rcases h.c0 with o | o
        · exact .inr (.inl (pt_step.mpr (.inl o)))
        · exact .inr (.inr (.inl o))
      · rw [z]; exact .inr (.inr (.inr rfl))
  · rcases h.s0 with o | o
    · exact .inl (pt_step.mpr (.inl o))
    · rw [o]; exact .inl (pt_step.mpr (.inr ((cd c).mpr (.inl rfl))))
  · intro x hx
    rw [fQ_keep iv hq hx (h.no x hx)]
    exact h.no x hx
  · rw [fQ_snoc]
    show (if (fQ A H n m k Q).2 (n + q) = n + m + q then _ else _) = _
    rw [if_neg]
    intro z
    rcases hcd with e | e
    · rw [← e.1, fcc] at z; omega
    · have : (fQ A H n m k Q).2 (n + m + q) = n + q := by rw [← z, iv]
      rw [← e.1, fcc] at this; omega
/-- a ring is shut -/
theorem Lp.shut (hA : Pr (n + m) A) (hH : Pr (m + k) H) {Q : List Nat} {s : Nat} (h : Lp A H n m k Q s (n + m + s)) : (Q ++ [s]).Nodup ∧ (∀ q ∈ Q ++ [s], q < m) ∧ (fQ A H n m k (Q ++ [s])).1 = (fQ A H n m k Q).1 + 1 ∧ (∀ y, Pt (prs n m (Q ++ [s])) y → Oue n m k (e0 A H n m k y) ∨ Pt (prs n m (Q ++ [s])) (e0 A H n m k y)) ∧ ∀ x, Oue n m k x → Oue n m k ((fQ A H n m k (Q ++ [s])).2 x) := by
  have iv := fQ_iv hA hH h.nd h.lt
  refine ⟨?_, fun x hx => ?_, ?_, fun y hy => ?_, fun x hx => ?_⟩
  · rw [List.nodup_append]
    exact ⟨h.nd, by simp, fun a ha b hb e => by rw [List.mem_singleton] at hb; subst e; subst hb; exact h.sQ ha⟩
  · rcases List.mem_append.mp hx with z | z
    · exact h.lt x z
    · rw [List.mem_singleton.mp z]; exact h.sm
  · rw [fQ_snoc]
    exact if_pos h.fc
  · rcases pt_step.mp hy with z | z | z
    · rcases h.cl y z with o | o | o | o
      · exact .inl o
      · exact .inr (pt_step.mpr (.inl o))
      · rw [o]; exact .inr (pt_step.mpr (.inr (.inl rfl)))
      · rw [o]; exact .inr (pt_step.mpr (.inr (.inr rfl)))
    · rw [z]
      rcases h.s0 with o | o
      · exact .inr (pt_step.mpr (.inl o))
      · rw [o]; exact .inr (pt_step.mpr (.inr (.inr rfl)))
    · rw [z]
      rcases h.c0 with o | o
      · exact .inr (pt_step.mpr (.inl o))
      · rw [o]; exact .inr (pt_step.mpr (.inr (.inl rfl)))
  · rw [fQ_keep iv h.sm hx (h.no x hx)]
    exact h.no x hx
/-- along a loose ring -/
def lrW (A H : Nat → Nat) (n m : Nat) : Nat → Nat → List Bool → Option (List Bool)
  | 0, _, _ => none
  | f + 1, at_, ps => if bt ps at_ = true then some ps else if n ≤ A (n + at_) ∧ A (n + at_) < n + m ∧ H (A (n + at_) - n) < m then lrW A H n m f (H (A (n + at_) - n)) ((ps.set at_ true).set (A (n + at_) - n) true) else none
theorem lrW_e {A H : Nat → Nat} {n m f a : Nat} {ps : List Bool} : lrW A H n m (f + 1) a ps = if bt ps a = true then some ps else if n ≤ A (n + a) ∧ A (n + a) < n + m ∧ H (A (n + a) - n) < m then lrW A H n m f (H (A (n + a) - n)) ((ps.set a true).set (A (n + a) - n) true) else none := rfl
/-- the flags: those joined, and the first one of the ring -/
structure Fl (m : Nat) (Q : List Nat) (s : Nat) (ps : List Bool) : Prop where
  len : ps.length = m
  fl : ∀ q, bt ps q = true ↔ q ∈ Q ∨ q = s
theorem Fl.set {Q : List Nat} {s q : Nat} {ps : List Bool} (h : Fl m Q s ps) (hq : q < m) : Fl m (Q ++ [q]) s (ps.set q true) := by
  refine ⟨by rw [List.length_set, h.len], fun x => ?_⟩
  rw [bt_set (by rw [h.len]; exact hq)]
  by_cases c : x = q
  · subst c; simp
  · rw [if_neg c, h.fl]; simp [c]
theorem e0_near {a : Nat} (h : a < m) : e0 A H n m k (n + a) = A (n + a) := by
  unfold e0; rw [if_pos (by omega)]
theorem e0_far {a : Nat} (h : a < m) : e0 A H n m k (n + m + a) = n + m + H a := by
  unfold e0; rw [if_neg (by omega), if_pos (by omega), show n + m + a - (n + m) = a by omega]
theorem Lp.near (hA : Pr (n + m) A) (hH : Pr (m + k) H) {Q : List Nat} {s a : Nat} (ha : a < m) (h : Lp A H n m k Q s (e0 A H n m k (n + a))) : ∃ q, q < m ∧ q ≠ s ∧ A (n + a) = n + q ∧ e0 A H n m k (n + a) = n + q := by
  obtain ⟨a1, a2, a3, a4⟩ := h.at hA hH
  rw [e0_near ha] at a1 a2 a3 a4 ⊢
  have := (hA (n + a) (by omega)).1
  unfold Oue at a1
  exact ⟨A (n + a) - n, by omega, by omega, by omega, by omega⟩
theorem Lp.far (hA : Pr (n + m) A) (hH : Pr (m + k) H) {Q : List Nat} {s a : Nat} (ha : a < m) (h : Lp A H n m k Q s (e0 A H n m k (n + m + a))) : H a < m ∧ e0 A H n m k (n + m + a) = n + m + H a := by
  obtain ⟨a1, a2, a3, a4⟩ := h.at hA hH
  rw [e0_far ha] at a1 a2 a3 a4 ⊢
  unfold Oue at a1
  exact ⟨by omega, rfl⟩
theorem lrW_in (hA : Pr (n + m) A) (hH : Pr (m + k) H) {s : Nat} : ∀ (f a : Nat) (Q : List Nat) (ps : List Bool), Lp A H n m k Q s (n + m + a) → a < m → Fl m Q s ps → m + 1 ≤ Q.length + f → ∃ ps' R, lrW A H n m f a ps = some ps' ∧ Fl m (Q ++ R) s ps' ∧ Lp A H n m k (Q ++ R) s (n + m + s) ∧ (fQ A H n m k (Q ++ R)).1 = (fQ A H n m k Q).1
  | 0, a, Q, ps, h, ha, hf, hl => by
    have := nodup_len h.nd h.lt
    omega
  | f + 1, a, Q, ps, h, ha, hf, hl => by
    rw [lrW_e]
    by_cases c : a = s
    · subst c
      rw [if_pos ((hf.fl a).mpr (.inr rfl))]
      exact ⟨ps, [], rfl, by rw [List.append_nil]; exact hf, by rw [List.append_nil]; exact h, by rw [List.append_nil]⟩
    · obtain ⟨n1, h1, r1⟩ := h.half hA hH (d := n + a) (.inr ⟨rfl, rfl⟩) ha c
      obtain ⟨q, hq, qs, e1, e2⟩ := h1.near hA hH ha
      rw [e2] at h1
      obtain ⟨n2, h2, r2⟩ := h1.half hA hH (d := n + m + q) (.inl ⟨rfl, rfl⟩) hq qs
      obtain ⟨e3, e4⟩ := h2.far hA hH hq
      rw [e4] at h2
      have nf : ¬ bt ps a = true := fun z => by
        rcases (hf.fl a).mp z with z | z
        · exact n1 z
        · exact c z
      have e5 : A (n + a) - n = q := by omega
      rw [if_neg nf, e5, if_pos ⟨by omega, by omega, e3⟩]
      obtain ⟨ps', R, q1, q2, q3, q4⟩ := lrW_in hA hH f (H q) (Q ++ [a] ++ [q]) _ h2 e3 ((hf.set ha).set hq) (by simp only [List.length_append, List.length_singleton]; omega)
      have e : Q ++ [a] ++ [q] ++ R = Q ++ (a :: q :: R) := by simp
      rw [e] at q2 q3 q4
      exact ⟨ps', a :: q :: R, q1, q2, q3, by rw [q4, r2, r1]⟩
theorem lrW_ok (hA : Pr (n + m) A) (hH : Pr (m + k) H) {s : Nat} {Q : List Nat} {ps : List Bool} (h : Md A H n m k Q ps) (no : ∀ x, Oue n m k x → Oue n m k ((fQ A H n m k Q).2 x)) (hs : s < m) (hb : bt ps s = false) : ∃ ps' R, lrW A H n m (m + 2) s ps = some ps' ∧ Md A H n m k (Q ++ R) ps' ∧ (fQ A H n m k (Q ++ R)).1 = (fQ A H n m k Q).1 + 1 ∧ (∀ x, Oue n m k x → Oue n m k ((fQ A H n m k (Q ++ R)).2 x)) ∧ s ∈ Q ++ R := by
  have sQ : s ∉ Q := fun z => by rw [(h.sd.fl s).mpr z] at hb; cases hb
  have ie := e0_iv hA hH
  have sl : n + s < n + 2 * m + k := by omega
  have np : ¬ Pt (prs n m Q) (n + s) := by rw [pt_near h.sd.lt hs]; exact sQ
  have ynin : ¬ Pt (prs n m Q) (e0 A H n m k (n + s)) := fun z => by
    rcases h.cl _ z with o | o
    · rw [ie] at o; unfold Oue at o; omega
    · rw [ie] at o; exact np o
  have fd : (fQ A H n m k Q).2 (n + s) = e0 A H n m k (n + s) := by
    obtain ⟨j, _, w⟩ := fQ_way hA hH h.sd.nd h.sd.lt sl np
    generalize hz : (fQ A H n m k Q).2 (n + s) = z at w
    cases w with
    | stop _ => rfl
    | step g _ => exact absurd g.pt ynin
  have h0 : Lp A H n m k Q s (e0 A H n m k (n + s)) := ⟨sQ, hs, h.sd.nd, h.sd.lt, fd, .inr (ie _), fun y hy => by
    rcases h.cl y hy with z | z
    · exact .inl z
    · exact .inr (.inl z), .inr rfl, no⟩
  obtain ⟨q, hq, qs, e1, e2⟩ := h0.near hA hH hs
  rw [e2] at h0
  obtain ⟨n2, h2, r2⟩ := h0.half hA hH (d := n + m + q) (.inl ⟨rfl, rfl⟩) hq qs
  obtain ⟨e3, e4⟩ := h2.far hA hH hq
  rw [e4] at h2
  have f0 : Fl m Q s (ps.set s true) := by
    refine ⟨by rw [List.length_set, h.sd.len], fun x => ?_⟩
    rw [bt_set (by rw [h.sd.len]; exact hs)]
    by_cases c : x = s
    · subst c; simp
    · rw [if_neg c, h.sd.fl]; simp [c]
  obtain ⟨ps', R, q1, q2, q3, q4⟩ := lrW_in hA hH (m + 1) (H q) (Q ++ [q]) _ h2 e3 (f0.set hq) (by omega)
  obtain ⟨s1, s2, s3, s4, s5⟩ := q3.shut hA hH
  have e : Q ++ [q] ++ R ++ [s] = Q ++ (q :: R ++ [s]) := by simp
  rw [e] at s1 s2 s3 s4 s5
  refine ⟨ps', q :: R ++ [s], ?_, ⟨⟨s1, s2, q2.len, fun x => ?_⟩, s4⟩, by rw [s3, q4, r2], s5, by simp⟩
  · rw [show m + 2 = (m + 1) + 1 by omega, lrW_e, if_neg (by rw [hb]; simp), show A (n + s) - n = q by omega, if_pos ⟨by omega, by omega, e3⟩, q1]
  · rw [q2.fl, ← e]
    simp only [List.mem_append, List.mem_singleton]
end VS
set_option Elab.async false
set_option linter.all false
set_option maxRecDepth 100000
namespace VS
variable {A H : Nat → Nat} {n m k : Nat}
/-- rings and mates of the other one behind the one -/
def bhL (ra rh : List Nat) (n m k : Nat) : Nat × List Nat :=
  ((bhF (rowF ra) (rowF rh) n m k).1, (List.range (n + k)).map fun p => num n m ((bhF (rowF ra) (rowF rh) n m k).2 (xp n m p)))
theorem bhL_len (ra rh : List Nat) : (bhL ra rh n m k).2.length = n + k := by simp [bhL]
theorem bhL_get {ra rh : List Nat} {p : Nat} (h : p < n + k) : rowF (bhL ra rh n m k).2 p = num n m ((bhF (rowF ra) (rowF rh) n m k).2 (xp n m p)) := by
  show (List.map _ (List.range (n + k))).getD p 0 = _
  rw [List.getD_eq_getElem?_getD, List.getElem?_map, List.getElem?_range h]
  rfl
theorem bhF_out (hA : Pr (n + m) A) (hH : Pr (m + k) H) {x : Nat} (hx : Oue n m k x) : Oue n m k ((bhF A H n m k).2 x) ∧ (bhF A H n m k).2 x ≠ x ∧ (bhF A H n m k).2 ((bhF A H n m k).2 x) = x := by
  have hl : ∀ q ∈ List.range m, q < m := fun q hq => List.mem_range.mp hq
  have iv := fQ_iv hA hH List.nodup_range hl
  have xl : x < n + 2 * m + k := by unfold Oue at hx; omega
  have np := out_pt hl hx
  have f0 : (fQ A H n m k (List.range m)).2 x ≠ x := fun z => np ((fQ_fix hA hH List.nodup_range hl xl).mp z)
  have fb := fQ_big hA hH List.nodup_range hl xl np
  refine ⟨?_, f0, iv x⟩
  have np2 : ¬ Pt (prs n m (List.range m)) ((fQ A H n m k (List.range m)).2 x) := fun z => f0 (((fQ_fix hA hH List.nodup_range hl fb).mpr z).symm.trans (iv x))
  show Oue n m k ((fQ A H n m k (List.range m)).2 x)
  rw [pt_prs] at np2
  unfold Oue
  rcases Nat.lt_or_ge ((fQ A H n m k (List.range m)).2 x) n with q | q
  · exact .inl q
  · refine .inr ⟨?_, fb⟩
    rcases Nat.lt_or_ge ((fQ A H n m k (List.range m)).2 x) (n + 2 * m) with q2 | q2
    · exfalso
      apply np2
      rcases Nat.lt_or_ge ((fQ A H n m k (List.range m)).2 x) (n + m) with q3 | q3
      · exact ⟨(fQ A H n m k (List.range m)).2 x - n, List.mem_range.mpr (by omega), .inl (by omega)⟩
      · exact ⟨(fQ A H n m k (List.range m)).2 x - n - m, List.mem_range.mpr (by omega), .inr (by omega)⟩
    · exact q2
theorem xp_out {p : Nat} (h : p < n + k) : Oue n m k (xp n m p) := by unfold Oue xp; split <;> omega
theorem num_xp {z : Nat} (h : Oue n m k z) : num n m z < n + k ∧ xp n m (num n m z) = z := by
  unfold Oue at h
  by_cases c : z < n
  · have e : num n m z = z := if_pos c
    rw [e]
    exact ⟨by omega, if_pos c⟩
  · have e : num n m z = z - 2 * m := if_neg c
    rw [e]
    exact ⟨by omega, by unfold xp; rw [if_neg (by omega)]; omega⟩
theorem xp_num {p : Nat} : num n m (xp n m p) = p := by
  by_cases c : p < n
  · have e : xp n m p = p := if_pos c
    rw [e]; exact if_pos c
  · have e : xp n m p = p + 2 * m := if_neg c
    rw [e]; unfold num; rw [if_neg (by omega)]; omega
theorem bhL_pr {ra rh : List Nat} (hA : Pr (n + m) (rowF ra)) (hH : Pr (m + k) (rowF rh)) : Pr (n + k) (rowF (bhL ra rh n m k).2) := by
  intro p hp
  obtain ⟨h1, h2, h3⟩ := bhF_out hA hH (xp_out (m := m) hp)
  obtain ⟨h4, h5⟩ := num_xp h1
  rw [bhL_get hp]
  refine ⟨h4, fun z => h2 ?_, ?_⟩
  · rw [← h5, z]
  · rw [bhL_get h4, h5, h3, xp_num]
/-! ### a hook behind -/
theorem hk_jn {a b c d : Nat} {e : Nat → Nat} (h : Iv e) (hab : a ≠ b) (hcd : c ≠ d) (hac : a ≠ c) (had : a ≠ d) (hbc : b ≠ c) (hbd : b ≠ d) (ha : e a ≠ a) (hb : e b ≠ b) (hc : e c ≠ c) (hd : e d ≠ d) : jn c d (hkF a b e) = hkF a b (jn c d e) := by
  funext x
  have h1 := h x; have h2 := h a; have h3 := h b; have h4 := h c; have h5 := h d
  unfold jn hkF
  grind (splits := 40)
theorem hk_ring {a b c d : Nat} {e : Nat → Nat} (h : Iv e) (hab : a ≠ b) (hcd : c ≠ d) (hac : a ≠ c) (had : a ≠ d) (hbc : b ≠ c) (hbd : b ≠ d) (ha : e a ≠ a) (hb : e b ≠ b) (hc : e c ≠ c) (hd : e d ≠ d) (r : Nat) : (if hkF a b e c = d then r + hkR a b e + 1 else r + hkR a b e) = (if e c = d then r + 1 else r) + hkR a b (jn c d e) := by
  have h2 := h a; have h3 := h b; have h4 := h c; have h5 := h d
  unfold jn hkF hkR
  grind (splits := 40)
theorem elL_hk {a b : Nat} (hab : a ≠ b) : ∀ (L : List (Nat × Nat)) (r : Nat) (e : Nat → Nat), OkL e L → ¬ Pt L a → ¬ Pt L b → e a ≠ a → e b ≠ b → elL (r + hkR a b e, hkF a b e) L = ((elL (r, e) L).1 + hkR a b (elL (r, e) L).2, hkF a b (elL (r, e) L).2)
  | [], r, e, h, _, _, _, _ => rfl
  | p :: L, r, e, h, na, nb, ha, hb => by
    have hp := h.own p (by simp)
    have a1 : a ≠ p.1 := fun z => na ⟨p, by simp, .inl z⟩
    have a2 : a ≠ p.2 := fun z => na ⟨p, by simp, .inr z⟩
    have b1 : b ≠ p.1 := fun z => nb ⟨p, by simp, .inl z⟩
    have b2 : b ≠ p.2 := fun z => nb ⟨p, by simp, .inr z⟩
    have e1 : el (r + hkR a b e, hkF a b e) p = ((el (r, e) p).1 + hkR a b (el (r, e) p).2, hkF a b (el (r, e) p).2) :=
      Prod.ext (hk_ring h.iv hab hp.1 a1 a2 b1 b2 ha hb hp.2.1 hp.2.2 r) (hk_jn h.iv hab hp.1 a1 a2 b1 b2 ha hb hp.2.1 hp.2.2)
    show elL (el (r + hkR a b e, hkF a b e) p) L = _
    rw [e1]
    refine elL_hk hab L _ _ h.tail (fun ⟨q, hq, z⟩ => na ⟨q, by simp [hq], z⟩) (fun ⟨q, hq, z⟩ => nb ⟨q, by simp [hq], z⟩) (fun z => ?_) (fun z => ?_)
    · rcases (jn_fix h.iv hp.1 hp.2.1 hp.2.2).mp z with z | z | z
      · exact a1 z
      · exact a2 z
      · exact ha z
    · rcases (jn_fix h.iv hp.1 hp.2.1 hp.2.2).mp z with z | z | z
      · exact b1 z
      · exact b2 z
      · exact hb z
theorem elL_shift (c : Nat) : ∀ (L : List (Nat × Nat)) (r : Nat) (e : Nat → Nat), elL (r + c, e) L = ((elL (r, e) L).1 + c, (elL (r, e) L).2)
  | [], r, e => rfl
  | p :: L, r, e => by
    show elL (el (r + c, e) p) L = ((elL (el (r, e) p) L).1 + c, (elL (el (r, e) p) L).2)
    have : el (r + c, e) p = ((el (r, e) p).1 + c, (el (r, e) p).2) := by
      unfold el
      refine Prod.ext ?_ rfl
      simp only []
      split <;> omega
    rw [this]
    exact elL_shift c L _ _
theorem hkR_01 {a b : Nat} {f : Nat → Nat} : hkR a b f = if f a = b then 1 else 0 := rfl
/-- a hook behind the other one is a hook behind both -/
theorem bh_hook {ra rh : List Nat} {i : Nat} (hA : Pr (n + n) (rowF ra)) (hH : PrR n rh) (hi : i + 1 < n) : (bhL ra (hkL n i rh) n n n).1 + hkN n i rh = (bhL ra rh n n n).1 + hkN n i (bhL ra rh n n n).2 ∧ (bhL ra (hkL n i rh) n n n).2 = hkL n i (bhL ra rh n n n).2 := by
  have hH2 : Pr (n + n) (rowF rh) := by have := hH.2; rwa [show 2 * n = n + n by omega] at this
  obtain ⟨a, ha⟩ : ∃ a, a = n + n + (n + i) := ⟨_, rfl⟩
  obtain ⟨b, hb⟩ : ∃ b, b = n + n + (n + i + 1) := ⟨_, rfl⟩
  have hk : ∀ p, p < 2 * n → rowF (hkL n i rh) p = hkF (n + i) (n + i + 1) (rowF rh) p := fun p hp => by
    rw [← hkL_map hH hi]
    unfold rowF
    simp [List.getD_eq_getElem?_getD, hp]
  have ee : e0 (rowF ra) (rowF (hkL n i rh)) n n n = hkF a b (e0 (rowF ra) (rowF rh) n n n) := by
    funext x
    have hx := hA x
    have hh := hH2 (x - (n + n))
    have e1 : e0 (rowF ra) (rowF rh) n n n a = n + n + rowF rh (n + i) := by
      unfold e0; rw [if_neg (by omega), if_pos (by omega), show a - (n + n) = n + i by omega]
    have e2 : e0 (rowF ra) (rowF rh) n n n b = n + n + rowF rh (n + i + 1) := by
      unfold e0; rw [if_neg (by omega), if_pos (by omega), show b - (n + n) = n + i + 1 by omega]
    unfold hkF
    rw [e1, e2]
    unfold e0
    by_cases c1 : x < n + n
    · have := (hx c1).1
      rw [if_pos c1, if_pos c1, if_neg (by omega), if_neg (by omega), if_neg (by omega), if_neg (by omega)]
    · rw [if_neg c1, if_neg c1]
      by_cases c2 : x < n + 2 * n + n
      · rw [if_pos c2, if_pos c2, hk _ (by omega)]
        unfold hkF
        grind
      · rw [if_neg c2, if_neg c2, if_neg (by omega), if_neg (by omega), if_neg (by omega), if_neg (by omega)]
  have hl : ∀ q ∈ List.range n, q < n := fun q hq => List.mem_range.mp hq
  have ok := prs_ok hA hH2 (Q := List.range n) List.nodup_range hl
  have oa : Oue n n n a := .inr ⟨by omega, by omega⟩
  have ob : Oue n n n b := .inr ⟨by omega, by omega⟩
  have key := elL_hk (a := a) (b := b) (by omega) (prs n n (List.range n)) 0 (e0 (rowF ra) (rowF rh) n n n) ok (out_pt hl oa) (out_pt hl ob) (e0_ne hA hH2 (by omega)) (e0_ne hA hH2 (by omega))
  rw [← ee, elL_shift] at key
  have k1 : (bhF (rowF ra) (rowF (hkL n i rh)) n n n).1 + hkR a b (e0 (rowF ra) (rowF rh) n n n) = (bhF (rowF ra) (rowF rh) n n n).1 + hkR a b (bhF (rowF ra) (rowF rh) n n n).2 := congrArg Prod.fst key
  have k2 : (bhF (rowF ra) (rowF (hkL n i rh)) n n n).2 = hkF a b (bhF (rowF ra) (rowF rh) n n n).2 := congrArg Prod.snd key
  have xa : xp n n (n + i) = a := by unfold xp; rw [if_neg (by omega)]; omega
  have xb : xp n n (n + i + 1) = b := by unfold xp; rw [if_neg (by omega)]; omega
  have na : num n n a = n + i := by rw [← xa, xp_num]
  have nb : num n n b = n + i + 1 := by rw [← xb, xp_num]
  have prB : PrR n (bhL ra rh n n n).2 := ⟨by rw [bhL_len]; omega, by have := bhL_pr hA hH2; rwa [show n + n = 2 * n by omega] at this⟩
  have eq : ∀ x y, Oue n n n x → Oue n n n y → (num n n x = num n n y ↔ x = y) := fun x y hx hy => by
    constructor
    · intro h; rw [← (num_xp hx).2, ← (num_xp hy).2, h]
    · intro h; rw [h]
  have fo := fun {x} h => (bhF_out hA hH2 (x := x) h).1
  constructor
  · have r1 : hkN n i rh = hkR a b (e0 (rowF ra) (rowF rh) n n n) := by
      show hkR (n + i) (n + i + 1) (rowF rh) = _
      have e1 : e0 (rowF ra) (rowF rh) n n n a = n + n + rowF rh (n + i) := by
        unfold e0; rw [if_neg (by omega), if_pos (by omega), show a - (n + n) = n + i by omega]
      unfold hkR
      rw [e1]
      by_cases c : rowF rh (n + i) = n + i + 1
      · rw [if_pos c, if_pos (by omega)]
      · rw [if_neg c, if_neg (by omega)]
    have r2 : hkN n i (bhL ra rh n n n).2 = hkR a b (bhF (rowF ra) (rowF rh) n n n).2 := by
      show hkR (n + i) (n + i + 1) (rowF _) = _
      unfold hkR
      rw [bhL_get (by omega), xa]
      have := eq _ _ (fo oa) ob
      rw [nb] at this
      simp only [this]
    rw [r1, r2]
    exact k1
  · refine row_ext (N := n + n) (bhL_len _ _) (by rw [← hkL_map prB hi]; simp; omega) fun p hp => ?_
    have e3 : rowF (hkL n i (bhL ra rh n n n).2) p = hkF (n + i) (n + i + 1) (rowF (bhL ra rh n n n).2) p := by
      rw [← hkL_map prB hi]
      unfold rowF
      simp [List.getD_eq_getElem?_getD, show p < 2 * n by omega]
    have ox := xp_out (m := n) hp
    rw [e3, bhL_get hp, k2]
    unfold hkF
    rw [bhL_get hp, bhL_get (p := n + i) (by omega), bhL_get (p := n + i + 1) (by omega), xa, xb]
    have q1 : (xp n n p = a) ↔ p = n + i := by rw [← eq _ _ ox oa, xp_num, na]
    have q2 : (xp n n p = b) ↔ p = n + i + 1 := by rw [← eq _ _ ox ob, xp_num, nb]
    have q3 := eq _ _ (fo ox) oa
    have q4 := eq _ _ (fo ox) ob
    rw [na] at q3
    rw [nb] at q4
    simp only [q1, q2, q3, q4]
    split
    · exact nb
    · split
      · exact na
      · split
        · rfl
        · split
          · rfl
          · rfl
/-- a straight mat behind -/
theorem bh_straight {ra : List Nat} (hA : PrR n ra) : bhL ra (strR n) n n n = (0, ra) := by
  have hA2 : Pr (n + n) (rowF ra) := by have := hA.2; rwa [show 2 * n = n + n by omega] at this
  have hS := (strR_pr n).2
  have hS2 : Pr (n + n) (rowF (strR n)) := by rwa [show 2 * n = n + n by omega] at hS
  have hl : ∀ q ∈ List.range n, q < n := fun q hq => List.mem_range.mp hq
  have far : ∀ q, q < n → e0 (rowF ra) (rowF (strR n)) n n n (n + n + q) = 3 * n + q := fun q hq => by
    rw [e0_far hq, strR_get (by omega), if_pos hq]; omega
  have low : ∀ q, q < n → e0 (rowF ra) (rowF (strR n)) n n n (3 * n + q) = n + n + q := fun q hq => by
    unfold e0
    rw [if_neg (by omega), if_pos (by omega), show 3 * n + q - (n + n) = n + q by omega, strR_get (by omega), if_neg (by omega)]; omega
  have cnt : ∀ j, j ≤ n → (fQ (rowF ra) (rowF (strR n)) n n n (List.range j)).1 = 0 ∧ ∀ q, j ≤ q → q < n → (fQ (rowF ra) (rowF (strR n)) n n n (List.range j)).2 (n + n + q) = 3 * n + q := by
    intro j
    induction j with
    | zero => intro _; exact ⟨rfl, fun q _ hq => far q hq⟩
    | succ j ih =>
      intro hj
      obtain ⟨i1, i2⟩ := ih (by omega)
      have iv := fQ_iv hA2 hS2 (Q := List.range j) List.nodup_range (fun q hq => by have := List.mem_range.mp hq; omega)
      rw [List.range_succ, fQ_snoc]
      have fj := i2 j (Nat.le_refl _) (by omega)
      refine ⟨?_, fun q h1 h2 => ?_⟩
      · show (if (fQ (rowF ra) (rowF (strR n)) n n n (List.range j)).2 (n + j) = n + n + j then _ else _) = 0
        rw [if_neg, i1]
        intro z
        have : (fQ (rowF ra) (rowF (strR n)) n n n (List.range j)).2 (n + n + j) = n + j := by rw [← z, iv]
        omega
      · have fq := i2 q (by omega) h2
        show jn _ _ _ _ = _
        rw [jn_out iv (by simp only []; omega) (by simp only []; omega) (by simp only []; omega) (by simp only []; omega), fq]
  refine Prod.ext (cnt n (Nat.le_refl _)).1 (row_ext (N := n + n) (bhL_len _ _) (by rw [hA.1]; omega) fun p hp => ?_)
  rw [bhL_get hp]
  have ox := xp_out (m := n) hp
  have xl : xp n n p < n + 2 * n + n := by unfold Oue at ox; omega
  obtain ⟨j, _, w⟩ := fQ_way hA2 hS2 (Q := List.range n) List.nodup_range hl xl (out_pt hl ox)
  have fin : ∀ {j y w}, Oue n n n y → Wl (e0 (rowF ra) (rowF (strR n)) n n n) (prs n n (List.range n)) j y w → w = y := fun {j y w} ho h => by
    cases h with
    | stop _ => rfl
    | step g _ => exact absurd g.pt (out_pt hl ho)
  have stp : ∀ {j q c d w}, q < n → (c = n + q ∧ d = n + n + q ∨ c = n + n + q ∧ d = n + q) → Wl (e0 (rowF ra) (rowF (strR n)) n n n) (prs n n (List.range n)) j c w → ∃ j', Wl (e0 (rowF ra) (rowF (strR n)) n n n) (prs n n (List.range n)) j' (e0 (rowF ra) (rowF (strR n)) n n n d) w := fun {j q c d w} hq hcd h => by
    cases h with
    | stop z => exact absurd (pt_prs.mpr ⟨q, List.mem_range.mpr hq, by omega⟩) z
    | @step j' _ z _ g w =>
      have : z = d := by
        rcases g with g | g
        · obtain ⟨q', hq', e⟩ := prs_mem.mp g
          have := hl q' hq'
          have e1 := (Prod.mk.inj e).1
          have e2 := (Prod.mk.inj e).2
          omega
        · obtain ⟨q', hq', e⟩ := prs_mem.mp g
          have := hl q' hq'
          have e1 := (Prod.mk.inj e).1
          have e2 := (Prod.mk.inj e).2
          omega
      exact ⟨j', this ▸ w⟩
  -- from a string of the one on
  have one : ∀ {j a w}, a < n + n → Wl (e0 (rowF ra) (rowF (strR n)) n n n) (prs n n (List.range n)) j a w → num n n w = a := fun {j a w} ha h => by
    by_cases c : a < n
    · rw [fin (.inl c) h]; exact if_pos c
    · obtain ⟨j', h⟩ := stp (q := a - n) (by omega) (.inl ⟨by omega, rfl⟩) h
      rw [far _ (by omega)] at h
      rw [fin (.inr ⟨by omega, by omega⟩) h]
      unfold num
      rw [if_neg (by omega)]; omega
  have w : Wl (e0 (rowF ra) (rowF (strR n)) n n n) (prs n n (List.range n)) j (e0 (rowF ra) (rowF (strR n)) n n n (xp n n p)) ((bhF (rowF ra) (rowF (strR n)) n n n).2 (xp n n p)) := w
  by_cases c : p < n
  · have e1 : xp n n p = p := if_pos c
    rw [e1] at w ⊢
    have e2 : e0 (rowF ra) (rowF (strR n)) n n n p = rowF ra p := by unfold e0; rw [if_pos (by omega)]
    rw [e2] at w
    exact one (hA2 p hp).1 w
  · have e1 : xp n n p = 3 * n + (p - n) := by unfold xp; rw [if_neg c]; omega
    rw [e1] at w ⊢
    rw [low _ (by omega)] at w
    obtain ⟨j', w⟩ := stp (q := p - n) (by omega) (.inr ⟨rfl, rfl⟩) w
    rw [e0_near (by omega), show n + (p - n) = p by omega] at w
    exact one (hA2 p hp).1 w
/-- a word in two parts -/
theorem valW_pr {n : Nat} {w : List Nat} (hw : ∀ x ∈ w, x + 1 < n) : PrR n (valW n w).2 := by
  have : ∀ (w : List Nat) (s : Nat × List Nat), PrR n s.2 → (∀ x ∈ w, x + 1 < n) → PrR n (valF n s w).2 := by
    intro w
    induction w with
    | nil => intro s h _; exact h
    | cons i w ih => intro s h hw; exact ih (stepV n s i) (hkL_pr h (hw i (by simp))) fun x hx => hw x (by simp [hx])
  exact this w _ (strR_pr n) hw
theorem valW_snoc (n : Nat) (w : List Nat) (i : Nat) : valW n (w ++ [i]) = stepV n (valW n w) i := by
  unfold valW valF; rw [List.foldl_append]; rfl
theorem bh_words {n : Nat} {u : List Nat} (hu : ∀ x ∈ u, x + 1 < n) : ∀ v : List Nat, (∀ x ∈ v.reverse, x + 1 < n) → (valW n (u ++ v.reverse)).1 = (valW n u).1 + (valW n v.reverse).1 + (bhL (valW n u).2 (valW n v.reverse).2 n n n).1 ∧ (valW n (u ++ v.reverse)).2 = (bhL (valW n u).2 (valW n v.reverse).2 n n n).2
  | [], _ => by
    rw [List.reverse_nil, List.append_nil]
    have : bhL (valW n u).2 (valW n []).2 n n n = (0, (valW n u).2) := bh_straight (valW_pr hu)
    rw [this]
    exact ⟨rfl, rfl⟩
  | i :: v, hv => by
    rw [List.reverse_cons] at hv ⊢
    have hv0 : ∀ x ∈ v.reverse, x + 1 < n := fun x hx => hv x (by simp [hx])
    have hi : i + 1 < n := hv i (by simp)
    obtain ⟨i1, i2⟩ := bh_words hu v hv0
    have pu := valW_pr hu
    have pu2 : Pr (n + n) (rowF (valW n u).2) := by have := pu.2; rwa [show 2 * n = n + n by omega] at this
    obtain ⟨h1, h2⟩ := bh_hook pu2 (valW_pr hv0) hi
    rw [← List.append_assoc, valW_snoc, valW_snoc]
    have e1 : (stepV n (valW n v.reverse) i).2 = hkL n i (valW n v.reverse).2 := rfl
    have e2 : (stepV n (valW n v.reverse) i).1 = (valW n v.reverse).1 + hkN n i (valW n v.reverse).2 := rfl
    have e3 : (stepV n (valW n (u ++ v.reverse)) i).2 = hkL n i (valW n (u ++ v.reverse)).2 := rfl
    have e4 : (stepV n (valW n (u ++ v.reverse)) i).1 = (valW n (u ++ v.reverse)).1 + hkN n i (valW n (u ++ v.reverse)).2 := rfl
    rw [e1, e2, e3, e4, i2, h2]
    exact ⟨by omega, rfl⟩
end VS
set_option Elab.async false
set_option linter.all false
set_option maxRecDepth 100000
namespace VS
open PySem PySem.Spec PyProof.Rows L2 RZ
theorem powOk_of {a n : Int} (h0 : 0 ≤ n) (h1 : n ≤ 100) (h2 : a.natAbs < 2 ^ 100000) : powOk a n = true := by
  unfold powOk
  have hb : (Builtin.Int.intBits a : Nat) ≤ 100001 := by
    unfold Builtin.Int.intBits
    split
    · omega
    · rename_i h
      have h : a.natAbs ≠ 0 := by simp at h; omega
      have : a.natAbs.log2 < 100000 := (Nat.log2_lt h).mpr h2
      omega
  simp only [Bool.and_eq_true, decide_eq_true_eq]
  refine ⟨h0, ?_⟩
  have : (Builtin.Int.intBits a : Int) ≤ 100001 := by omega
  have : (Builtin.Int.intBits a : Int) * n ≤ 100001 * n := Int.mul_le_mul_of_nonneg_right this h0
  omega
theorem lt_pow100 {a : Nat} (h : a < 2 ^ 1000) : a < 2 ^ 100000 := Nat.lt_of_lt_of_le h (Nat.pow_le_pow_right (by decide) (by decide))
@[simp] theorem powOk_10_43 : powOk 10 43 = true := by decide +kernel
@[simp] theorem powOk_10_41 : powOk 10 41 = true := by decide +kernel
@[simp] theorem powOk_10_7 : powOk 10 7 = true := by decide +kernel
@[simp] theorem powOk_10_18 : powOk 10 18 = true := by decide +kernel
@[simp] theorem powOk_10_33 : powOk 10 33 = true := by decide +kernel
/-- a well from which so many draws can be made -/
theorem fmod_in {a b : Int} (h : 0 < b) : 0 ≤ a.fmod b ∧ a.fmod b < b := ⟨Int.fmod_nonneg_of_pos a h, Int.fmod_lt_of_pos a h⟩
def natD (i : Nat) : D := .int (i : Nat)
def spD (s : Nat × Nat) : D := .tup [.int (s.1 : Nat), .int (s.2 : Nat)]
def prD (p : (Nat × Nat) × (Nat × Nat)) : D := .tup [spD p.1, spD p.2]
def matD (n m : Nat) (row : List Nat) : D := .tup [.int (n : Nat), .int (m : Nat), .tup (row.map natD)]
@[simp] theorem noOwn_natD (i : Nat) : noOwn (natD i) = true := by simp [natD]
@[simp] theorem noOwn_spD (s : Nat × Nat) : noOwn (spD s) = true := by simp [spD]
@[simp] theorem noOwn_prD (p : (Nat × Nat) × (Nat × Nat)) : noOwn (prD p) = true := by simp [prD]
@[simp] theorem noOwns_natDs (xs : List Nat) : noOwns (xs.map natD) = true := noOwns_map noOwn_natD xs
@[simp] theorem noOwns_spDs (xs : List (Nat × Nat)) : noOwns (xs.map spD) = true := noOwns_map noOwn_spD xs
@[simp] theorem noOwns_prDs (xs : List ((Nat × Nat) × (Nat × Nat))) : noOwns (xs.map prD) = true := noOwns_map noOwn_prD xs
@[simp] theorem freezes_natDs (xs : List Nat) : freezes (xs.map natD) = xs.map natD := freezes_of (noOwns_natDs xs)
@[simp] theorem freezes_spDs (xs : List (Nat × Nat)) : freezes (xs.map spD) = xs.map spD := freezes_of (noOwns_spDs xs)
@[simp] theorem freezes_prDs (xs : List ((Nat × Nat) × (Nat × Nat))) : freezes (xs.map prD) = xs.map prD := freezes_of (noOwns_prDs xs)
@[simp] theorem noOwn_matD (n m : Nat) (row : List Nat) : noOwn (matD n m row) = true := by simp [matD]
theorem intsTo_natD (n : Nat) : intsTo 0 n = (List.range n).map natD := intsTo_map n
theorem goLc_mapI {α : Type} {vs : List Nat} {fg : D → Env → Option Env} {fe : FE} {ρ : Env} (enc e : α → D) (xs : List α) (h : ∀ x ∈ xs, lcTurn vs fg fe (enc x) ρ = some (e x, ρ)) : goLc vs fg yesF fe (xs.map enc) ρ = some (xs.map e, ρ) := by
  induction xs with
  | nil => rfl
  | cons x xs ih =>
    have h1 := h x (by simp)
    unfold lcTurn bd at h1
    show (fg (enc x) ρ).bind _ = _
    cases hg : fg (enc x) ρ with
    | none => rw [hg] at h1; cases h1
    | some ρ1 =>
      rw [hg] at h1
      simp only [Option.bind_some] at h1 ⊢
      show ((some (true, ρ1) : Option (Bool × Env)).bind _) = _
      simp only [Option.bind_some, if_true]
      cases hf : fe ρ1 with
      | none => rw [hf] at h1; cases h1
      | some q =>
        rw [hf] at h1
        simp only [Option.bind_some, Option.some.injEq, Prod.mk.injEq] at h1 ⊢
        rw [h1.2, ih fun d hd => h d (by simp [hd])]
        simp [h1.1]
theorem intsBy_down (lo : Int) (n : Nat) : intsBy lo (-1) n = (List.range n).map fun i => D.int (lo - (i : Nat)) := by
  unfold intsBy
  apply List.map_congr_left
  intro i _
  congr 1
  omega
theorem range_rev' (n : Nat) : (List.range n).reverse = (List.range n).map fun i => n - 1 - i := (range_rev n).symm
theorem intsBy_rev (lo n : Nat) : intsBy ((lo : Int) + n - 1) (-1) n = (List.range n).reverse.map fun i => natD (lo + i) := by
  rw [intsBy_down, range_rev', List.map_map]
  apply List.map_congr_left
  intro i hi
  have := List.mem_range.mp hi
  simp only [Function.comp_apply, natD]
  congr 1
  omega
theorem rng1_nat {u : Nat} (hu : u ≤ 100000) : rng1D [.int (u : Nat)] = some ((List.range u).map natD) := by
  rw [rng1D_e (by omega) (by omega), Int.toNat_natCast, intsTo_natD]
theorem rng3_down {lo n : Nat} {i j : Int} (hl : lo ≤ 100000) (hn : n ≤ 100000) (hi : i = lo + n - 1) (hj : j = lo - 1) : rng3D [.int i, .int j, .int (-1)] = some ((List.range n).reverse.map fun i => natD (lo + i)) := by
  rw [rng3D_e (by omega) (by omega) (by omega) (by omega), ← intsBy_rev, hi, hj]
  have e2 : ((lo : Int) + n - 1 - (lo - 1)).toNat = n := by omega
  rw [e2]
theorem small_le {n : Nat} (h : n ≤ 100000) : decide (n ≤ smallL) = true := decide_eq_true h
theorem partD_L {o : Bool} {xs : List D} {i : Nat} (h : noOwns xs = true) (hi : i ≤ xs.length) : partD true false [.lst o xs, .int (i : Nat)] = some (.lst true (xs.drop i)) := by
  show (if noOwns xs = true then some (D.lst true (cutD xs (some (i : Nat)) none)) else none) = _
  rw [if_pos h]
  congr 2
  unfold cutD
  rw [HT.sIx_nat, HT.sIx_none, Nat.min_eq_left hi]
  exact List.take_of_length_le (by simp)
theorem partD_H {o : Bool} {xs : List D} {i : Nat} (h : noOwns xs = true) (hi : i ≤ xs.length) : partD false true [.lst o xs, .int (i : Nat)] = some (.lst true (xs.take i)) := by
  show (if noOwns xs = true then some (D.lst true (cutD xs none (some (i : Nat)))) else none) = _
  rw [if_pos h]
  congr 2
  unfold cutD
  rw [HT.sIx_nat, HT.sIx_none, Nat.min_eq_left hi]
  simp
theorem atI_mapN {α : Type} {f : α → D} {xs : List α} {i : Nat} {z : α} (h : i < xs.length) : atI (xs.map f) (i : Nat) = some (f (xs.getD i z)) :=
  atI_nat (by simp [h])
theorem atI_mapE {α : Type} {f : α → D} {xs : List α} {i : Nat} {z : α} (h : i < xs.length) : atI (xs.map f) (-1 - (i : Nat)) = some (f (xs.getD (xs.length - 1 - i) z)) := by
  refine atI_neg (by omega) (by rw [List.length_map]; omega) ?_
  rw [List.length_map]
  have : (-1 - (i : Nat) + (xs.length : Nat) : Int).toNat = xs.length - 1 - i := by omega
  rw [this]
  have : xs.length - 1 - i < xs.length := by omega
  simp [this]
theorem natD_i (i : Nat) : natD i = .int (i : Nat) := rfl
theorem split2 {α : Type} {xs : List α} {v : Nat} (h : v + 1 < xs.length) : ∃ l a b r, xs = l ++ a :: b :: r ∧ l.length = v := by
  refine ⟨xs.take v, xs[v]'(by omega), xs[v + 1]'h, xs.drop (v + 2), ?_, by simp; omega⟩
  have h1 : xs.drop v = xs[v]'(by omega) :: xs.drop (v + 1) := List.drop_eq_getElem_cons (by omega)
  have h2 : xs.drop (v + 1) = xs[v + 1]'h :: xs.drop (v + 2) := List.drop_eq_getElem_cons (by omega)
  rw [← h2, ← h1, List.take_append_drop]
theorem map_setN (xs : List Nat) (i j : Nat) : (xs.map natD).set i (.int (j : Nat)) = (xs.set i j).map natD := by
  rw [List.map_set]; rfl
theorem isiTD_tup (xs : List D) : isiTD ["list", "tuple"] [.tup xs] = some (.bl true) := by
  show (if ["list", "tuple"].length ≤ smallL then _ else none) = _
  rw [if_pos (by decide)]; rfl
theorem isiTD_lst (o : Bool) (xs : List D) : isiTD ["list", "tuple"] [.lst o xs] = some (.bl true) := by
  show (if ["list", "tuple"].length ≤ smallL then _ else none) = _
  rw [if_pos (by decide)]; rfl
theorem isiTD_int (i : Int) : isiTD ["list", "tuple"] [.int i] = some (.bl false) := by
  show (if ["list", "tuple"].length ≤ smallL then _ else none) = _
  rw [if_pos (by decide)]; rfl
theorem isiTD_bl (i : Bool) : isiTD ["list", "tuple"] [.bl i] = some (.bl false) := by
  show (if ["list", "tuple"].length ≤ smallL then _ else none) = _
  rw [if_pos (by decide)]; rfl
theorem isiD_l_tup (xs : List D) : isiD "list" [.tup xs] = some (.bl false) := rfl
theorem isiD_l_lst (o : Bool) (xs : List D) : isiD "list" [.lst o xs] = some (.bl true) := rfl
theorem isiD_s_int (i : Int) : isiD "str" [.int i] = some (.bl false) := rfl
theorem isiD_s_bl (i : Bool) : isiD "str" [.bl i] = some (.bl false) := rfl
theorem isiD_b_int (i : Int) : isiD "bool" [.int i] = some (.bl false) := rfl
theorem isiD_b_bl (i : Bool) : isiD "bool" [.bl i] = some (.bl true) := rfl
theorem isiD_i_int (i : Int) : isiD "int" [.int i] = some (.bl true) := rfl
theorem isiD_i_bl (i : Bool) : isiD "int" [.bl i] = some (.bl true) := rfl
theorem deq_eqs {x y : Bool} : deq (.bl x) (.bl x) = true := by simp
/-! what may be compared -/
def EqB (k : Nat) (d : D) : Prop := noTy d = true ∧ (pyD d).canLay0 = true ∧ (pyD d).depth ≤ k
theorem EqB.ok {k : Nat} {d : D} (h : EqB k d) (hk : k ≤ 64) : eqOk d = true := by
  unfold eqOk SeqAt.shaped
  rw [h.1, h.2.1]
  simp
  exact Nat.le_trans h.2.2 hk
theorem EqB.all {k : Nat} : ∀ {xs : List D}, (∀ x ∈ xs, EqB k x) → noTys xs = true ∧ PyData.canLayAll0 (pyDs xs) = true ∧ PyData.depthAll (pyDs xs) ≤ k
  | [], _ => ⟨by simp [noTys], by simp [pyDs, PyData.canLayAll0], by simp [pyDs, PyData.depthAll]⟩
  | x :: xs, h => by
    obtain ⟨a, b, c⟩ := h x (by simp)
    obtain ⟨a', b', c'⟩ := EqB.all (xs := xs) fun y hy => h y (by simp [hy])
    refine ⟨by simp [noTys, a, a'], by simp [pyDs, PyData.canLayAll0, b, b'], ?_⟩
    simp only [pyDs, PyData.depthAll]
    omega
theorem EqB.int {k : Nat} (i : Int) : EqB k (.int i) := ⟨rfl, rfl, Nat.zero_le _⟩
theorem EqB.bl {k : Nat} (i : Bool) : EqB k (.bl i) := ⟨rfl, rfl, Nat.zero_le _⟩
theorem EqB.non {k : Nat} : EqB k .non := ⟨rfl, rfl, Nat.zero_le _⟩
theorem EqB.lst {k : Nat} {o : Bool} {xs : List D} (h : ∀ x ∈ xs, EqB k x) : EqB (k + 1) (.lst o xs) := by
  obtain ⟨a, b, c⟩ := EqB.all h
  exact ⟨by simp [noTy, a], by simp [pyD, PyData.canLay0, b], by simp only [pyD, PyData.depth]; omega⟩
theorem EqB.tup {k : Nat} {xs : List D} (h : ∀ x ∈ xs, EqB k x) : EqB (k + 1) (.tup xs) := by
  obtain ⟨a, b, c⟩ := EqB.all h
  exact ⟨by simp [noTy, a], by simp [pyD, PyData.canLay0, b], by simp only [pyD, PyData.depth]; omega⟩
theorem eqB_nats (xs : List Nat) : ∀ x ∈ xs.map natD, EqB 0 x := fun x hx => by
  obtain ⟨i, _, rfl⟩ := List.mem_map.mp hx
  exact .int _
theorem eqOk_nats (o : Bool) (xs : List Nat) : eqOk (.lst o (xs.map natD)) = true := (EqB.lst (eqB_nats xs)).ok (by omega)
theorem eqOk_natsT (xs : List Nat) : eqOk (.tup (xs.map natD)) = true := (EqB.tup (eqB_nats xs)).ok (by omega)
theorem eqOk_emp (o : Bool) : eqOk (.lst o []) = true := eqOk_nats o []
theorem deq_emp (o o' : Bool) (xs : List D) : deq (.lst o xs) (.lst o' []) = xs.isEmpty := by
  unfold deq
  cases xs <;> simp [pyD, pyDs, PyData.eqv, PyData.eqvAll]
/-! the pegs round about -/
theorem atI_last {α : Type} (xs : List α) (x : α) : atI (xs ++ [x]) (-1) = some x := by
  refine atI_neg (by omega) (by rw [List.length_append, List.length_singleton]; omega) ?_
  have : (-1 + ((xs ++ [x]).length : Nat) : Int).toNat = xs.length := by rw [List.length_append, List.length_singleton]; omega
  rw [this]
  simp
theorem enum_get {row : List Nat} {i : Nat} {d : D} (h : (enumL (row.map natD))[i]? = some d) : ∃ j, row[i]? = some j ∧ d = .tup [.int (i : Nat), .int (j : Nat)] := by
  unfold enumL at h
  rw [List.getElem?_map] at h
  obtain ⟨q, h1, rfl⟩ := Option.map_eq_some_iff.mp h
  obtain ⟨h2, h3⟩ := List.getElem?_zip_eq_some.mp h1
  rw [List.getElem?_map] at h3
  obtain ⟨j, h4, h5⟩ := Option.map_eq_some_iff.mp h3
  rw [intsTo_map, List.getElem?_map] at h2
  obtain ⟨k, h6, h7⟩ := Option.map_eq_some_iff.mp h2
  have : k = i := by
    have := (List.getElem?_eq_some_iff.mp h6).2
    simpa using this.symm
  subst this
  refine ⟨j, h4, ?_⟩
  rw [← h5, ← h7]
  rfl
/-- the mat of strings -/
def M (u d : Nat) (ps : List ((Nat × Nat) × (Nat × Nat))) : List Nat := madeL u ps (List.replicate (u + d) 0)
theorem getD_app {xs ys : List Nat} {i : Nat} : (xs ++ ys).getD i 0 = if i < xs.length then xs.getD i 0 else ys.getD (i - xs.length) 0 := by
  simp only [List.getD_eq_getElem?_getD]
  split
  · rename_i h; rw [List.getElem?_append_left h]
  · rename_i h; rw [List.getElem?_append_right (by omega)]
theorem getD_range {n i : Nat} (h : i < n) : (List.range n).getD i 0 = i := by simp [h]
theorem getD_rangeA {n k i : Nat} (h : i < n) : ((List.range n).map fun i => k + i).getD i 0 = k + i := by simp [h]
theorem getD_rangeR {n i : Nat} (h : i < n) : (List.range n).reverse.getD i 0 = n - 1 - i := by
  rw [range_rev']; simp [h]
theorem getD_rangeRA {n k i : Nat} (h : i < n) : ((List.range n).reverse.map fun i => k + i).getD i 0 = k + (n - 1 - i) := by
  rw [range_rev', List.map_map]; simp [h]
def upL (n m : Nat) : List Nat := ((List.range n).map fun i => m + i) ++ List.range m
theorem upL_get {n m i : Nat} (h : i < n + m) : (upL n m).getD i 0 = if i < n then m + i else i - n := by
  unfold upL
  rw [getD_app]
  simp only [List.length_map, List.length_range]
  split
  · rename_i h; rw [getD_rangeA h]
  · rw [getD_range (by omega)]
def leL (n m : Nat) : List Nat := (List.range n).reverse ++ (List.range m).reverse.map fun i => n + i
theorem leL_get {n m i : Nat} (h : i < n + m) : (leL n m).getD i 0 = if i < n then n - 1 - i else n + (m - 1 - (i - n)) := by
  unfold leL
  rw [getD_app]
  simp only [List.length_reverse, List.length_range]
  split
  · rename_i h; rw [getD_rangeR h]
  · rw [getD_rangeRA (by omega)]
theorem rng2_nat {lo n : Nat} (hl : lo ≤ 100000) (hn : n ≤ 100000) : rng2D [.int (lo : Nat), .int ((lo : Nat) + (n : Nat))] = some ((List.range n).map fun i => natD (lo + i)) := by
  rw [rng2D_e (by omega) (by omega) (by omega) (by omega)]
  have : ((lo : Int) + (n : Int) - (lo : Int)).toNat = n := by omega
  rw [this]
  unfold intsTo
  congr 1
theorem ends_len {α : Type} (ps : List (α × α)) : (ends ps).length = 2 * ps.length := by
  induction ps with
  | nil => rfl
  | cons p ps ih =>
    show (p.1 :: p.2 :: ends ps).length = _
    simp only [List.length_cons, ih]; omega
theorem putB_t1 (f : FE) (d : D) (os : List (Option D)) (ρ : Env) : putB [.t f] [d] os ρ = ρ := by cases os <;> rfl
theorem turns_ok {len : Nat} : ∃ k : Nat, (k : Int) = (if (if (30 : Int) < (len : Int) then 30 else (len : Int)) > 3 then (if (30 : Int) < (len : Int) then 30 else (len : Int)) else 3) ∧ k ≤ 100 := by
  refine ⟨(if (if (30 : Int) < (len : Int) then 30 else (len : Int)) > 3 then (if (30 : Int) < (len : Int) then 30 else (len : Int)) else 3).toNat, ?_, ?_⟩ <;> split <;> split <;> omega
/-! ### a comprehension with an if -/
def flK3 (vs : List Nat) : D × Env → Option (Option D × Env) := fun q => some (some q.1, wipeD q.2 vs)
@[simp] theorem flK3_e (vs : List Nat) (d : D) (ρ : Env) : flK3 vs (d, ρ) = some (some d, wipeD ρ vs) := nrfl rfl
def flK (vs : List Nat) (fe : FE) : Bool × Env → Option (Option D × Env) := fun b => if b.1 = true then bd (fe b.2) (flK3 vs) else some (none, wipeD b.2 vs)
@[simp] theorem flK_t (vs : List Nat) (fe : FE) (ρ : Env) : flK vs fe (true, ρ) = bd (fe ρ) (flK3 vs) := nrfl rfl
@[simp] theorem flK_f (vs : List Nat) (fe : FE) (ρ : Env) : flK vs fe (false, ρ) = some (none, wipeD ρ vs) := nrfl rfl
def lcTurnF (vs : List Nat) (fg : D → Env → Option Env) (ft : FB) (fe : FE) (d : D) (ρ : Env) : Option (Option D × Env) := bd (bd (fg d ρ) ft) (flK vs fe)
theorem lcTurnF_e (vs : List Nat) (fg : D → Env → Option Env) (ft : FB) (fe : FE) (d : D) (ρ : Env) : lcTurnF vs fg ft fe d ρ = bd (bd (fg d ρ) ft) (flK vs fe) := rfl
theorem goLc_filt {α : Type} {vs : List Nat} {fg : D → Env → Option Env} {ft : FB} {fe : FE} {ρ : Env} (enc e : α → D) (b : α → Bool) : ∀ (xs : List α), (∀ x ∈ xs, lcTurnF vs fg ft fe (enc x) ρ = some (if b x = true then some (e x) else none, ρ)) → goLc vs fg ft fe (xs.map enc) ρ = some ((xs.filter b).map e, ρ)
  | [], _ => rfl
  | x :: xs, h => by
    have h1 := h x (by simp)
    have ih := goLc_filt enc e b xs fun y hy => h y (by simp [hy])
    unfold lcTurnF bd at h1
    show (fg (enc x) ρ).bind _ = _
    cases hg : fg (enc x) ρ with
    | none => rw [hg] at h1; cases h1
    | some ρ1 =>
      rw [hg] at h1
      simp only [Option.bind_some] at h1 ⊢
      cases ht : ft ρ1 with
      | none => rw [ht] at h1; cases h1
      | some q =>
        obtain ⟨c, ρ2⟩ := q
        rw [ht] at h1
        simp only [Option.bind_some] at h1 ⊢
        cases c with
        | false =>
          rw [flK_f] at h1
          simp only [Option.some.injEq, Prod.mk.injEq] at h1
          simp only [Bool.false_eq_true, if_false]
          rw [h1.2, ih]
          have hb : b x = false := by
            cases hb : b x with
            | false => rfl
            | true => rw [hb] at h1; simp at h1
          simp [List.filter_cons, hb]
        | true =>
          rw [flK_t] at h1
          unfold bd at h1
          simp only [if_true]
          cases hf : fe ρ2 with
          | none => rw [hf] at h1; cases h1
          | some r =>
            rw [hf] at h1
            simp only [Option.bind_some, flK3, Option.some.injEq, Prod.mk.injEq] at h1 ⊢
            rw [h1.2, ih]
            have hb : b x = true := by
              cases hb : b x with
              | true => rfl
              | false => rw [hb] at h1; simp at h1
            rw [hb] at h1
            simp only [if_true, Option.some.injEq] at h1
            simp [List.filter_cons, hb, h1.1]
/-! ### the draws -/
def wlD (ns : List Int) (p l s : Int) : D := .lst true [.lst false (ns.map .int), .int p, .int l, .int s]
def DOk (d : D) : Prop := ∃ (ns : List Int) (p l s : Int), d = wlD ns p l s ∧ ns.length ≤ 63 ∧ 0 ≤ p ∧ p ≤ ns.length ∧ 0 ≤ l ∧ 0 ≤ s ∧ s < 2147483647
theorem DOk.own {d : D} (h : DOk d) : noOwn d = false := by
  obtain ⟨_, _, _, _, rfl, _⟩ := h
  simp [wlD]
theorem fmod_rng {a b : Int} (h : 0 < b) : 0 ≤ a.fmod b ∧ a.fmod b < b := ⟨Int.fmod_nonneg_of_pos a h, Int.fmod_lt_of_pos a h⟩
def dipH : FS := (ifF (andF (bT (opF (ltD) [.t (opF ixD [.b 0, .t (litF (.int 2))]), .t (litF (.int 2))])) (bT (opF (ltD) [.t (opF ixD [.b 0, .t (litF (.int 1))]), .t (opF lenD [.t (opF ixD [.b 0, .t (litF (.int 0))])])]))) (seqF (asgF (opF ixD [.t (opF ixD [.b 0, .t (litF (.int 0))]), .t (opF ixD [.b 0, .t (litF (.int 1))])]) (tgN 2)) <|
  seqF (asgF (opF addD [.t (opF ixD [.b 0, .t (litF (.int 1))]), .t (litF (.int 1))]) (tgSub 0 (.t (litF (.int 1))))) <|
  ifF (bT (opF (geD) [.b 2, .t (opF powD [.t (litF (.int 10)), .t (litF (.int 18))])])) (asgF (varF 2) (tgSub 0 (.t (litF (.int 2))))) (asgF (opF modD [.t (opF intD [.t (opF addD [.t (opF addD [.t (opF mulD [.t (opF ixD [.b 0, .t (litF (.int 3))]), .t (litF (.int 69621))]), .t (opF powD [.t (opF modD [.t (opF intD [.b 2]), .t (litF (.int 2147483629))]), .t (litF (.int 3))])]), .t (opF mulD [.t (litF (.int 7919)), .t (opF ixD [.b 0, .t (litF (.int 1))])])])]), .t (litF (.int 2147483647))]) (tgSub 0 (.t (litF (.int 3)))))) (passF))
theorem F_dip_e : F_dip = (seqF dipH <|
  seqF (ifF (bT (opF (gtD) [.t (opF ixD [.b 0, .t (litF (.int 2))]), .t (litF (.int 1))])) (seqF (asgF (opF modD [.t (opF intD [.t (opF ixD [.b 0, .t (litF (.int 2))])]), .b 1]) (tgN 3)) <|
  seqF (asgF (opF fdivD [.t (opF ixD [.b 0, .t (litF (.int 2))]), .b 1]) (tgSub 0 (.t (litF (.int 2))))) <|
  retF (movF 3)) (passF)) <|
  seqF (asgF (opF modD [.t (opF intD [.t (opF addD [.t (opF mulD [.t (opF ixD [.b 0, .t (litF (.int 3))]), .t (litF (.int 48271))]), .t (litF (.int 11))])]), .t (litF (.int 2147483647))]) (tgSub 0 (.t (litF (.int 3))))) <|
  retF (opF modD [.t (opF fdivD [.t (opF modD [.t (opF intD [.t (opF mulD [.t (opF ixD [.b 0, .t (litF (.int 3))]), .t (opF ixD [.b 0, .t (litF (.int 3))])])]), .t (litF (.int 2147483629))]), .t (litF (.int 64))]), .b 1])) := rfl
theorem dip_head {ns : List Int} {p l s : Int} {lim : Int} (h1 : ns.length ≤ 63) (h2 : 0 ≤ p) (h3 : p ≤ ns.length) (h4 : 0 ≤ l) (h5 : 0 ≤ s) (h6 : s < 2147483647) {A2 A3 : Option D} :
    ∃ w A2', DOk w ∧ dipH [some (wlD ns p l s), some (.int lim), A2, A3] = some (.nx [some w, some (.int lim), A2', A3]) := by
  have no := noOwns_ints ns
  have ll : (ns.map D.int).length = ns.length := by simp
  have a3 : ∀ (x a b c : D), atI [x, a, b, c] 3 = some c := fun x a b c => rfl
  have i3 : ixN 4 3 = some 3 := rfl
  by_cases hc : l < 2 ∧ p < ns.length
  · obtain ⟨c1, c2⟩ := hc
    obtain ⟨q, rfl⟩ : ∃ q : Nat, p = (q : Nat) := ⟨p.toNat, by omega⟩
    have hq : q < ns.length := by omega
    have hat : atI (ns.map D.int) ((q : Nat) : Int) = some (.int ns[q]) := atI_nat (by simp [hq])
    generalize ns[q] = cell at hat
    by_cases hb : (1000000000000000000 : Int) ≤ cell
    · refine ⟨wlD ns ((q : Nat) + 1) cell s, some (.int cell), ⟨ns, _, cell, s, rfl, h1, by omega, by omega, by omega, h5, h6⟩, ?_⟩
      unfold wlD dipH
      generalize hX : ns.map D.int = X at *
      simp [c1, c2, no, ll, hat, hb]
    · have m1 : mulOk s 69621 = true := mulOk_r (by omega) (by omega)
      have m2 : mulOk 7919 ((q : Int) + 1) = true := mulOk_l (by omega) (by omega)
      have hr := fmod_rng (a := cell) (b := 2147483629) (by omega)
      have p1 : powOk (cell.fmod 2147483629) 3 = true := powOk_of (by omega) (by omega) (lt_pow100 (by omega))
      have key : ∃ x : Int, dipH [some (wlD ns (q : Nat) l s), some (.int lim), A2, A3] = some (.nx [some (wlD ns ((q : Nat) + 1) l (x.fmod 2147483647)), some (.int lim), some (.int cell), A3]) := by
        unfold wlD dipH
        generalize hX : ns.map D.int = X at *
        simp [c1, c2, no, ll, hat, hb, m1, m2, p1, a3, i3]
        exact ⟨_, rfl⟩
      obtain ⟨x, key⟩ := key
      have hx := fmod_rng (a := x) (b := 2147483647) (by omega)
      exact ⟨_, _, ⟨ns, _, l, _, rfl, h1, by omega, by omega, h4, hx.1, hx.2⟩, key⟩
  · refine ⟨wlD ns p l s, A2, ⟨ns, p, l, s, rfl, h1, h2, h3, h4, h5, h6⟩, ?_⟩
    unfold wlD dipH
    generalize hX : ns.map D.int = X at *
    by_cases c1 : l < 2
    · have c2 : ¬ p < ns.length := fun z => hc ⟨c1, z⟩
      simp [c1, c2, no, ll]
    · simp [c1, no, ll]
theorem dip_ok {w : D} {lim : Int} (hw : DOk w) (hl : 0 < lim) (hl2 : lim < 1000000) :
    ∃ v w', fn_dip.sem [w, .int lim] = some (.int v, [some w', some (.int lim)]) ∧ 0 ≤ v ∧ v < lim ∧ DOk w' := by
  obtain ⟨ns, p, l, s, rfl, h1, h2, h3, h4, h5, h6⟩ := hw
  obtain ⟨w1, A2', ⟨ns, p, l, s, rfl, h1, h2, h3, h4, h5, h6⟩, e⟩ := dip_head (lim := lim) (A2 := none) (A3 := none) h1 h2 h3 h4 h5 h6
  have no := noOwns_ints ns
  have a3 : ∀ (x a b c : D), atI [x, a, b, c] 3 = some c := fun x a b c => rfl
  have i3 : ixN 4 3 = some 3 := rfl
  have hz : lim ≠ 0 := by omega
  have f1 : fdivOk lim = true := fdivOk_s (by omega) (by omega) (by omega)
  by_cases hc : 1 < l
  · refine ⟨l.fmod lim, wlD ns p (l.fdiv lim) s, ?_, (fmod_rng hl).1, (fmod_rng hl).2, ⟨ns, p, _, s, rfl, h1, h2, h3, Int.fdiv_nonneg h4 (by omega), h5, h6⟩⟩
    unfold fn_dip
    rw [bodyFn_sem, F_dip_e]
    unfold wlD at *
    generalize hX : ns.map D.int = X at *
    simp [e, hc, no, hz, f1]
  · have m1 : mulOk s 48271 = true := mulOk_r (by omega) (by omega)
    have hx := fmod_rng (a := s * 48271 + 11) (b := 2147483647) (by omega)
    have m2 : mulOk ((s * 48271 + 11).fmod 2147483647) ((s * 48271 + 11).fmod 2147483647) = true := mulOk_l (by omega) (by omega)
    have f2 : fdivOk 64 = true := by decide +kernel
    refine ⟨_, wlD ns p l ((s * 48271 + 11).fmod 2147483647), ?_, (fmod_rng (a := (((s * 48271 + 11).fmod 2147483647 * (s * 48271 + 11).fmod 2147483647).fmod 2147483629).fdiv 64) hl).1, (fmod_rng hl).2, ⟨ns, p, l, _, rfl, h1, h2, h3, h4, hx.1, hx.2⟩⟩
    unfold fn_dip
    rw [bodyFn_sem, F_dip_e]
    unfold wlD at *
    generalize hX : ns.map D.int = X at *
    simp [e, hc, no, hz, m1, m2, f1, f2, a3, i3]
theorem well_ok {ns : List Int} (h : ns.length ≤ 63) : ∃ w, fn_well.sem [.scr ns] = some (w, [some (.scr ns)]) ∧ DOk w := by
  refine ⟨wlD ns 0 0 90001, ?_, ⟨ns, 0, 0, 90001, rfl, h, by omega, by omega, by omega, by omega, by omega⟩⟩
  have no := noOwns_ints ns
  have fz := freezes_of no
  have hl : listSD [.scr ns] = some (.lst true (ns.map D.int)) := rfl
  unfold fn_well F_well wlD
  rw [bodyFn_sem]
  generalize hX : ns.map D.int = X at *
  simp [hl, no, fz, freeze, small_le (n := 4) (by omega)]
def asIntK : D × Env → Option (D × Env) := fun p => match p.1 with
  | .int i => some (.int i, p.2)
  | _ => none
@[simp] theorem asIntK_e (i : Int) (ρ : Env) : asIntK (.int i, ρ) = some (.int i, ρ) := nrfl rfl
@[simp] theorem asInt_e (f : FE) (ρ : Env) : asInt f ρ = bd (f ρ) asIntK := nrfl rfl
/-! ### slices of tuples -/
theorem drop_min {α : Type} (xs : List α) (i : Nat) : xs.drop (min i xs.length) = xs.drop i := by
  rcases Nat.le_total i xs.length with h | h
  · rw [Nat.min_eq_left h]
  · rw [Nat.min_eq_right h, List.drop_length, List.drop_of_length_le h]
theorem take_min {α : Type} (xs : List α) (i : Nat) : xs.take (min i xs.length) = xs.take i := by
  rcases Nat.le_total i xs.length with h | h
  · rw [Nat.min_eq_left h]
  · rw [Nat.min_eq_right h, List.take_length, List.take_of_length_le h]
theorem partT_L {xs : List D} {i : Nat} (h : noOwns xs = true) : partD true false [.tup xs, .int (i : Nat)] = some (.tup (xs.drop i)) := by
  show (if noOwns xs = true then some (D.tup (cutD xs (some (i : Nat)) none)) else none) = _
  rw [if_pos h]
  congr 2
  unfold cutD
  rw [HT.sIx_nat, HT.sIx_none, drop_min]
  refine List.take_of_length_le ?_
  rw [List.length_drop]
  have := Nat.min_le_left i xs.length
  omega
theorem partT_H {xs : List D} {i : Nat} (h : noOwns xs = true) : partD false true [.tup xs, .int (i : Nat)] = some (.tup (xs.take i)) := by
  show (if noOwns xs = true then some (D.tup (cutD xs none (some (i : Nat)))) else none) = _
  rw [if_pos h]
  congr 2
  unfold cutD
  rw [HT.sIx_nat, HT.sIx_none, Nat.sub_zero, List.drop_zero, take_min]
theorem partT_B {xs : List D} {i j : Nat} (h : noOwns xs = true) (hij : i ≤ j) : partD true true [.tup xs, .int (i : Nat), .int (j : Nat)] = some (.tup ((xs.drop i).take (j - i))) := by
  show (if noOwns xs = true then some (D.tup (cutD xs (some (i : Nat)) (some (j : Nat)))) else none) = _
  rw [if_pos h]
  congr 2
  unfold cutD
  rw [HT.sIx_nat, HT.sIx_nat, drop_min]
  have hl := List.length_drop (i := i) (l := xs)
  rcases Nat.le_total j xs.length with h1 | h1
  · rw [Nat.min_eq_left h1, Nat.min_eq_left (by omega)]
  · rw [Nat.min_eq_right h1, List.take_of_length_le (i := j - i) (by omega)]
    rcases Nat.le_total i xs.length with h2 | h2
    · rw [Nat.min_eq_left h2, List.take_of_length_le (by omega)]
    · rw [Nat.min_eq_right h2, List.drop_of_length_le h2]; simp
/-! ### words and moves -/
abbrev Mv := Str × Int
def wordD (w : List Nat) : D := .tup (w.map natD)
def mvD (m : Mv) : D := .tup [.str m.1, .int m.2]
@[simp] theorem noOwn_wordD (w : List Nat) : noOwn (wordD w) = true := by simp [wordD]
@[simp] theorem noOwn_mvD (m : Mv) : noOwn (mvD m) = true := by simp [mvD]
@[simp] theorem noOwns_mvDs (ms : List Mv) : noOwns (ms.map mvD) = true := noOwns_map noOwn_mvD ms
def MvOk (m : Mv) : Prop := PyData.strOk m.1 = true
theorem EqB.str {k : Nat} {s : Str} (h : PyData.strOk s = true) : EqB k (.str s) := ⟨rfl, h, Nat.zero_le _⟩
theorem eqB_mv {m : Mv} (h : MvOk m) : EqB 1 (mvD m) := EqB.tup (k := 0) fun x hx => by
  rcases List.mem_cons.mp hx with rfl | hx
  · exact EqB.str h
  · rcases List.mem_cons.mp hx with rfl | hx
    · exact EqB.int _
    · cases hx
theorem eqOk_mv {m : Mv} (h : MvOk m) : eqOk (mvD m) = true := (eqB_mv h).ok (by omega)
theorem eqOk_mvs {o : Bool} {ms : List Mv} (h : ∀ m ∈ ms, MvOk m) : eqOk (.lst o (ms.map mvD)) = true := (EqB.lst (k := 1) fun x hx => by
  obtain ⟨m, hm, rfl⟩ := List.mem_map.mp hx
  exact eqB_mv (h m hm)).ok (by omega)
theorem deq_str (a b : Str) : deq (.str a) (.str b) = decide (a = b) := by
  unfold deq
  simp only [pyD, PyData.eqv]
  by_cases h : a = b <;> simp [h]
theorem deq_mv (a b : Mv) : deq (mvD a) (mvD b) = decide (a = b) := by
  unfold deq mvD
  simp only [pyD, pyDs, PyData.eqv, PyData.eqvAll, Bool.and_true]
  obtain ⟨a1, a2⟩ := a
  obtain ⟨b1, b2⟩ := b
  by_cases h : a1 = b1 <;> by_cases h2 : a2 = b2 <;> simp [h, h2]
theorem eqOk_s2 : eqOk (.str "two") = true := by decide +kernel
theorem eqOk_sf : eqOk (.str "far") = true := by decide +kernel
theorem eqOk_sn : eqOk (.str "neighbours") = true := by decide +kernel
theorem ne_2f : ("two" : Str) ≠ "far" := by decide +kernel
theorem ne_2n : ("two" : Str) ≠ "neighbours" := by decide +kernel
theorem ne_fn : ("far" : Str) ≠ "neighbours" := by decide +kernel
def stepAt (w : List Nat) (i : Nat) : List Mv :=
  if w.getD i 0 = w.getD (i + 1) 0 then [(("two" : Str), (i : Int))]
  else if w.getD i 0 + 1 < w.getD (i + 1) 0 ∨ w.getD (i + 1) 0 + 1 < w.getD i 0 then [(("far" : Str), (i : Int))]
  else if i + 2 < w.length ∧ w.getD (i + 2) 0 = w.getD i 0 then [(("neighbours" : Str), (i : Int))] else []
def stepsL (w : List Nat) : List Mv := (List.range (w.length - 1)).flatMap (stepAt w)
def mvLe (a b : Mv) : Bool := PySem.W.dataLe false pyD (mvD a) (mvD b)
def stepsS (w : List Nat) : List Mv := (stepsL w).mergeSort mvLe
theorem mem_stepsS {w : List Nat} {m : Mv} : m ∈ stepsS w ↔ m ∈ stepsL w := (List.mergeSort_perm _ _).mem_iff
theorem steps_kind {w : List Nat} {m : Mv} (h : m ∈ stepsS w) : ∃ i, i + 1 < w.length ∧ (m = (("two" : Str), (i : Int)) ∨ m = (("far" : Str), (i : Int)) ∨ (m = (("neighbours" : Str), (i : Int)) ∧ i + 2 < w.length ∧ w.getD (i + 2) 0 = w.getD i 0)) := by
  rw [mem_stepsS] at h
  unfold stepsL at h
  obtain ⟨i, hi, hm⟩ := List.mem_flatMap.mp h
  rw [List.mem_range] at hi
  refine ⟨i, by omega, ?_⟩
  unfold stepAt at hm
  split at hm
  · exact .inl (List.mem_singleton.mp hm)
  · split at hm
    · exact .inr (.inl (List.mem_singleton.mp hm))
    · split at hm
      · rename_i q
        exact .inr (.inr ⟨List.mem_singleton.mp hm, q.1, q.2⟩)
      · cases hm
theorem steps_mok {w : List Nat} {m : Mv} (h : m ∈ stepsS w) : MvOk m := by
  obtain ⟨i, _, rfl | rfl | ⟨rfl, _⟩⟩ := steps_kind h
  · show PyData.strOk "two" = true
    decide +kernel
  · show PyData.strOk "far" = true
    decide +kernel
  · show PyData.strOk "neighbours" = true
    decide +kernel
theorem sort_mvs (o : Bool) (ms : List Mv) : sortedMD [.lst o (ms.map mvD)] = some (.lst true ((ms.mergeSort mvLe).map mvD)) := by
  have h1 := noOwns_mvDs ms
  have h2 : noTys (ms.map mvD) = true := by
    induction ms with
    | nil => rfl
    | cons m ms ih => rw [List.map_cons, noTys, ih (noOwns_mvDs ms)]; rfl
  have h3 : shapeOk (pyDs (ms.map mvD)) = true := by
    rw [pyDs_map, List.map_map]
    unfold shapeOk
    rw [Bool.and_eq_true, Bool.and_eq_true]
    refine ⟨List.all_eq_true.mpr fun d hd => List.all_eq_true.mpr fun e he => ?_, List.all_eq_true.mpr fun d hd => ?_, List.all_eq_true.mpr fun d hd => ?_⟩
    · obtain ⟨r, _, rfl⟩ := List.mem_map.mp hd
      obtain ⟨s, _, rfl⟩ := List.mem_map.mp he
      simp [Function.comp_apply, mvD, pyD, pyDs, PySem.W.alike, PySem.W.alikeAll]
    · obtain ⟨r, _, rfl⟩ := List.mem_map.mp hd
      rfl
    · obtain ⟨r, _, rfl⟩ := List.mem_map.mp hd
      simp [Function.comp_apply, mvD, pyD, pyDs, PyData.depth, PyData.depthAll]
  show (if _ then _ else _) = _
  rw [if_pos ⟨h1, h2, h3⟩]
  congr 2
  exact (List.map_mergeSort (r := mvLe) (s := PySem.W.dataLe false pyD) (f := mvD) (l := ms) fun a _ b _ => rfl).symm
def bodySt : FS := (seqF (asgF (opF absD [.t (opF subD [.t (opF ixD [.b 0, .b 2]), .t (opF ixD [.b 0, .t (opF addD [.b 2, .t (litF (.int 1))])])])]) (tgN 3)) <|
  seqF (ifF (bT (opF (eqD) [.b 3, .t (litF (.int 0))])) (dropF (mutF 1 appD [.t (tupF [.t (litF (.str "two")), .t (varF 2)])])) (passF)) <|
  seqF (ifF (bT (opF (gtD) [.b 3, .t (litF (.int 1))])) (dropF (mutF 1 appD [.t (tupF [.t (litF (.str "far")), .t (varF 2)])])) (passF)) <|
  ifF (andF (bT (opF (eqD) [.b 3, .t (litF (.int 1))])) (andF (bT (opF (ltD) [.t (opF addD [.b 2, .t (litF (.int 2))]), .t (opF lenD [.b 0])])) (bT (opF (eqD) [.t (opF ixD [.b 0, .t (opF addD [.b 2, .t (litF (.int 2))])]), .t (opF ixD [.b 0, .b 2])])))) (dropF (mutF 1 appD [.t (tupF [.t (litF (.str "neighbours")), .t (varF 2)])])) (passF))
def bodySo : FS := (seqF (asgF (opF absD [.t (opF subD [.t (opF ixD [.b 0, .b 2]), .t (opF ixD [.b 0, .t (opF addD [.b 2, .t (litF (.int 1))])])])]) (tgN 3)) <|
  ifF (bT (opF (eqD) [.b 3, .t (litF (.int 0))])) (dropF (mutF 1 appD [.t (tupF [.t (litF (.str "two")), .t (varF 2)])])) (ifF (bT (opF (gtD) [.b 3, .t (litF (.int 1))])) (dropF (mutF 1 appD [.t (tupF [.t (litF (.str "far")), .t (varF 2)])])) (ifF (bT (opF (eqD) [.t (opF (partD true true) [.b 0, .t (asInt (opF addD [.b 2, .t (litF (.int 2))])), .t (asInt (opF addD [.b 2, .t (litF (.int 3))]))]), .t (opF (partD true true) [.b 0, .t (asInt (varF 2)), .t (asInt (opF addD [.b 2, .t (litF (.int 1))]))])])) (dropF (mutF 1 appD [.t (tupF [.t (litF (.str "neighbours")), .t (varF 2)])])) (passF))))
theorem word_at {w : List Nat} {i : Nat} (h : i < w.length) : atI (w.map natD) ((i : Nat) : Int) = some (.int (w.getD i 0 : Nat)) := atI_mapN (z := 0) h
theorem tup_mv (s : Str) (i : Nat) : D.tup [.str s, .int (i : Nat)] = mvD (s, (i : Int)) := rfl
theorem word_sl {w : List Nat} {i : Nat} (h : i < w.length) : (w.drop i).take 1 = [w.getD i 0] := by
  rw [List.drop_eq_getElem_cons h, List.take_succ_cons, List.take_zero]
  simp [List.getD_eq_getElem?_getD, h]
theorem St_turn {w : List Nat} {i : Nat} {L : List D} {A2 A3 : Option D} (hi : i + 1 < w.length) (hl : L.length < 90000) :
    ∃ B3, turn (tgN 2) bodySt (natD i) [some (wordD w), some (.lst true L), A2, A3] = some (.nx [some (wordD w), some (.lst true (L ++ (stepAt w i).map mvD)), some (natD i), B3]) := by
  have x0 := word_at (w := w) (i := i) (by omega)
  have x1 : atI (w.map natD) ((i : Int) + 1) = some (.int (w.getD (i + 1) 0 : Nat)) := word_at (w := w) (i := i + 1) (by omega)
  have x2 : i + 2 < w.length → atI (w.map natD) ((i : Int) + 2) = some (.int (w.getD (i + 2) 0 : Nat)) := fun h => word_at (w := w) (i := i + 2) h
  have ll : (w.map natD).length = w.length := by simp
  have ap : ∀ d, appD L [d] = some (.non, L ++ [d]) := fun d => appD_e d (by omega)
  have sm := small_le (n := 2) (by omega)
  rw [turn_e]
  unfold stepAt wordD natD bodySt
  generalize hX : w.map (fun i => D.int (i : Nat)) = X
  have hX2 : w.map natD = X := hX
  rw [hX2] at x0 x1 x2 ll
  generalize w.getD i 0 = x at *
  generalize w.getD (i + 1) 0 = y at *
  generalize w.getD (i + 2) 0 = z at *
  generalize w.length = len at *
  refine ⟨some (.int (if (x : Int) - y < 0 then -((x : Int) - y) else (x : Int) - y)), ?_⟩
  obtain ⟨a, ha⟩ : ∃ a : Int, a = if (x : Int) - y < 0 then -((x : Int) - y) else (x : Int) - y := ⟨_, rfl⟩
  by_cases c1 : x = y
  · have a1 : a = 0 := by rw [ha]; split <;> omega
    simp [x0, x1, ← ha, a1, ap, sm, c1, mvD]
  · by_cases c2 : x + 1 < y ∨ y + 1 < x
    · have a1 : a ≠ 0 := by rw [ha]; split <;> omega
      have a2 : 1 < a := by rw [ha]; split <;> omega
      have a3 : a ≠ 1 := by omega
      simp [x0, x1, ← ha, a1, a2, a3, ap, sm, c1, c2, mvD]
    · have a1 : a = 1 := by rw [ha]; split <;> omega
      by_cases c3 : i + 2 < len
      · have x2 := x2 c3
        have c3' : (i : Int) + 2 < (len : Int) := by omega
        by_cases c4 : z = x
        · subst c4
          simp [x0, x1, x2, ← ha, a1, ap, sm, c1, c2, c3, c3', ll, mvD]
        · have c4' : ¬ ((z : Int) = x) := by omega
          simp [x0, x1, x2, ← ha, a1, ap, sm, c1, c2, c3, c3', c4, c4', ll, mvD]
      · have c3' : ¬ ((i : Int) + 2 < (len : Int)) := by omega
        simp [x0, x1, ← ha, a1, ap, sm, c1, c2, c3, c3', ll, mvD]
theorem eqvAll_nats : ∀ xs ys : List Nat, PyData.eqvAll (pyDs (xs.map natD)) (pyDs (ys.map natD)) = decide (xs = ys)
  | [], [] => rfl
  | [], y :: ys => by simp [pyDs, PyData.eqvAll]
  | x :: xs, [] => by simp [pyDs, PyData.eqvAll]
  | x :: xs, y :: ys => by
    simp only [List.map_cons, pyDs, PyData.eqvAll, eqvAll_nats xs ys, natD, pyD, PyData.eqv]
    by_cases h1 : x = y <;> by_cases h2 : xs = ys <;> simp [h1, h2]
    intro h; exact absurd (Int.ofNat.inj h) h1
theorem deq_words (v w : List Nat) : deq (wordD v) (wordD w) = decide (v = w) := by
  unfold deq wordD
  simp only [pyD, PyData.eqv]
  exact eqvAll_nats v w
theorem eqOk_word (w : List Nat) : eqOk (wordD w) = true := eqOk_natsT w
theorem So_turn {w : List Nat} {i : Nat} {L : List D} {A2 A3 : Option D} (hi : i + 1 < w.length) (hl : L.length < 90000) :
    ∃ B3, turn (tgN 2) bodySo (natD i) [some (wordD w), some (.lst true L), A2, A3] = some (.nx [some (wordD w), some (.lst true (L ++ (stepAt w i).map mvD)), some (natD i), B3]) := by
  have x0 := word_at (w := w) (i := i) (by omega)
  have x1 : atI (w.map natD) ((i : Int) + 1) = some (.int (w.getD (i + 1) 0 : Nat)) := word_at (w := w) (i := i + 1) (by omega)
  have no := noOwns_natDs w
  have s0 : partD true true [.tup (w.map natD), .int (i : Nat), .int ((i : Int) + 1)] = some (wordD [w.getD i 0]) := by
    have := partT_B (xs := w.map natD) (i := i) (j := i + 1) no (by omega)
    rw [show i + 1 - i = 1 by omega, ← List.map_drop, ← List.map_take, word_sl (by omega)] at this
    exact this
  have s2 : partD true true [.tup (w.map natD), .int ((i : Int) + 2), .int ((i : Int) + 3)] = some (wordD ((w.drop (i + 2)).take 1)) := by
    have := partT_B (xs := w.map natD) (i := i + 2) (j := i + 3) no (by omega)
    rw [show i + 3 - (i + 2) = 1 by omega, ← List.map_drop, ← List.map_take] at this
    exact this
  have e2 : deq (wordD ((w.drop (i + 2)).take 1)) (wordD [w.getD i 0]) = decide (i + 2 < w.length ∧ w.getD (i + 2) 0 = w.getD i 0) := by
    rw [deq_words]
    by_cases h : i + 2 < w.length
    · rw [word_sl h]
      simp [h]
    · rw [List.drop_of_length_le (by omega)]
      simp [h]
  have k1 := eqOk_word ((w.drop (i + 2)).take 1)
  have k2 := eqOk_word [w.getD i 0]
  have ap : ∀ d, appD L [d] = some (.non, L ++ [d]) := fun d => appD_e d (by omega)
  have sm := small_le (n := 2) (by omega)
  rw [turn_e]
  unfold stepAt natD bodySo
  generalize wordD ((w.drop (i + 2)).take 1) = S2 at *
  generalize wordD [w.getD i 0] = S0 at *
  unfold wordD
  generalize hX : w.map natD = X at *
  generalize w.getD i 0 = x at *
  generalize w.getD (i + 1) 0 = y at *
  generalize w.getD (i + 2) 0 = z at *
  generalize w.length = len at *
  refine ⟨some (.int (if (x : Int) - y < 0 then -((x : Int) - y) else (x : Int) - y)), ?_⟩
  obtain ⟨a, ha⟩ : ∃ a : Int, a = if (x : Int) - y < 0 then -((x : Int) - y) else (x : Int) - y := ⟨_, rfl⟩
  by_cases c1 : x = y
  · have a1 : a = 0 := by rw [ha]; split <;> omega
    simp [x0, x1, ← ha, a1, ap, sm, c1, mvD]
  · by_cases c2 : x + 1 < y ∨ y + 1 < x
    · have a1 : a ≠ 0 := by rw [ha]; split <;> omega
      have a2 : 1 < a := by rw [ha]; split <;> omega
      simp [x0, x1, ← ha, a1, a2, ap, sm, c1, c2, mvD]
    · have a1 : a = 1 := by rw [ha]; split <;> omega
      by_cases c3 : i + 2 < len ∧ z = x
      · simp [x0, x1, ← ha, a1, ap, sm, c1, c2, s0, s2, e2, k1, k2, c3, mvD]
      · simp [x0, x1, ← ha, a1, ap, sm, c1, c2, s0, s2, e2, k1, k2, c3, mvD]
theorem stepAt_len (w : List Nat) (i : Nat) : (stepAt w i).length ≤ 1 := by
  unfold stepAt
  split
  · simp
  · split
    · simp
    · split <;> simp
theorem flat_len {α β : Type} (f : α → List β) (h : ∀ a, (f a).length ≤ 1) : ∀ xs : List α, (xs.flatMap f).length ≤ xs.length
  | [] => by simp
  | x :: xs => by
    have := flat_len f h xs
    have := h x
    simp only [List.flatMap_cons, List.length_append, List.length_cons]
    omega
theorem steps_loop {body : FS} {w : List Nat} (hw : w.length ≤ 1000) (hb : ∀ i (L : List D) (A2 A3 : Option D), i + 1 < w.length → L.length < 90000 → ∃ B3, turn (tgN 2) body (natD i) [some (wordD w), some (.lst true L), A2, A3] = some (.nx [some (wordD w), some (.lst true (L ++ (stepAt w i).map mvD)), some (natD i), B3])) :
    ∃ B2 B3, goFor (tgN 2) body ((List.range (w.length - 1)).map natD) [some (wordD w), some (.lst true []), none, none] = some (.nx [some (wordD w), some (.lst true ((stepsL w).map mvD)), B2, B3]) := by
  obtain ⟨ρ', g1, B2, B3, rfl⟩ := for_inv (tg := tgN 2) (body := body) (ds := (List.range (w.length - 1)).map natD) (ρ := [some (wordD w), some (.lst true []), none, none])
    (fun i ρ => ∃ B2 B3, ρ = [some (wordD w), some (.lst true (((List.range i).flatMap (stepAt w)).map mvD)), B2, B3])
    ⟨none, none, rfl⟩ (by
      rintro i d ρ hd ⟨B2, B3, rfl⟩
      rw [List.getElem?_map] at hd
      obtain ⟨i', hi', rfl⟩ := Option.map_eq_some_iff.mp hd
      obtain ⟨hi, hii⟩ := List.getElem?_eq_some_iff.mp hi'
      rw [List.length_range] at hi
      obtain rfl : i' = i := by simpa using hii.symm
      have hl := flat_len (stepAt w) (stepAt_len w) (List.range i')
      rw [List.length_range] at hl
      obtain ⟨C3, e⟩ := hb i' (((List.range i').flatMap (stepAt w)).map mvD) B2 B3 (by omega) (by rw [List.length_map]; omega)
      refine ⟨_, .inl e, some (natD i'), C3, ?_⟩
      rw [List.range_succ, List.flatMap_append, List.map_append]
      simp)
  rw [List.length_map, List.length_range] at g1
  exact ⟨B2, B3, g1⟩
theorem rng_len1 {n : Nat} (h : n ≤ 1000) : rng1D [.int ((n : Int) - 1)] = some ((List.range (n - 1)).map natD) := by
  rw [rng1D_e (by omega) (by omega), ← intsTo_natD]
  congr 2
  omega
/-! a move made -/
def madeW (w : List Nat) (m : Mv) : List Nat :=
  if m.1 = ("two" : Str) then w.take m.2.toNat ++ w.drop (m.2.toNat + 1)
  else if m.1 = ("neighbours" : Str) then w.take m.2.toNat ++ [w.getD m.2.toNat 0] ++ w.drop (m.2.toNat + 3)
  else w.take m.2.toNat ++ [w.getD (m.2.toNat + 1) 0, w.getD m.2.toNat 0] ++ w.drop (m.2.toNat + 2)
theorem madeW_len {w : List Nat} {m : Mv} (h : m ∈ stepsS w) : (madeW w m).length ≤ w.length := by
  obtain ⟨i, hi, h⟩ := steps_kind h
  unfold madeW
  rcases h with rfl | rfl | ⟨rfl, _⟩
  · simp; omega
  · rw [if_neg ne_2f.symm, if_neg ne_fn]; simp; omega
  · rw [if_neg ne_2n.symm, if_pos rfl]; simp; omega
theorem getD_mem {w : List Nat} {i : Nat} (h : i < w.length) : w.getD i 0 ∈ w := by
  rw [List.getD_eq_getElem?_getD, List.getElem?_eq_getElem h]
  exact List.getElem_mem h
theorem madeW_mem {w : List Nat} {m : Mv} (h : m ∈ stepsS w) {x : Nat} (hx : x ∈ madeW w m) : x ∈ w := by
  obtain ⟨i, hi, h⟩ := steps_kind h
  have g0 := getD_mem (w := w) (i := i) (by omega)
  have g1 := getD_mem (w := w) (i := i + 1) (by omega)
  have t := @List.mem_of_mem_take Nat
  have d := @List.mem_of_mem_drop Nat
  unfold madeW at hx
  rcases h with rfl | rfl | ⟨rfl, _⟩
  · rw [if_pos rfl] at hx
    rcases List.mem_append.mp hx with q | q
    · exact t q
    · exact d q
  · rw [if_neg ne_2f.symm, if_neg ne_fn] at hx
    rcases List.mem_append.mp hx with q | q
    · rcases List.mem_append.mp q with q | q
      · exact t q
      · rcases List.mem_cons.mp q with rfl | q
        · exact g1
        · rw [List.mem_singleton.mp q]; exact g0
    · exact d q
  · rw [if_neg ne_2n.symm, if_pos rfl] at hx
    rcases List.mem_append.mp hx with q | q
    · rcases List.mem_append.mp q with q | q
      · exact t q
      · rw [List.mem_singleton.mp q]; exact g0
    · exact d q
theorem add_words (v w : List Nat) (h : v.length + w.length ≤ 100000) : addD [wordD v, wordD w] = some (wordD (v ++ w)) := by
  unfold wordD
  rw [addD_t (noOwns_natDs v) (noOwns_natDs w) (by rw [List.length_map, List.length_map]; exact h), List.map_append]
theorem word_H (w : List Nat) (i : Nat) : partD false true [wordD w, .int (i : Nat)] = some (wordD (w.take i)) := by
  unfold wordD
  rw [partT_H (noOwns_natDs w), List.map_take]
theorem word_L (w : List Nat) (i : Nat) : partD true false [wordD w, .int (i : Nat)] = some (wordD (w.drop i)) := by
  unfold wordD
  rw [partT_L (noOwns_natDs w), List.map_drop]
theorem word_ix {w : List Nat} {i : Nat} (h : i < w.length) : ixD [wordD w, .int (i : Nat)] = some (.int (w.getD i 0 : Nat)) := by
  unfold wordD
  rw [ixD_t, word_at h]
  rfl
theorem mv_0 (m : Mv) : ixD [mvD m, .int 0] = some (.str m.1) := rfl
theorem mv_1 (m : Mv) : ixD [mvD m, .int 1] = some (.int m.2) := rfl
theorem tup1 (a : Nat) : D.tup [.int (a : Nat)] = wordD [a] := rfl
theorem tup2 (a b : Nat) : D.tup [.int (a : Nat), .int (b : Nat)] = wordD [a, b] := rfl
theorem dq_2f : deq (.str "far") (.str "two") = false := by rw [deq_str]; exact decide_eq_false ne_2f.symm
theorem dq_2n : deq (.str "neighbours") (.str "two") = false := by rw [deq_str]; exact decide_eq_false ne_2n.symm
theorem dq_fn : deq (.str "far") (.str "neighbours") = false := by rw [deq_str]; exact decide_eq_false ne_fn
theorem dq_22 : deq (.str "two") (.str "two") = true := by rw [deq_str]; exact decide_eq_true rfl
theorem dq_nn : deq (.str "neighbours") (.str "neighbours") = true := by rw [deq_str]; exact decide_eq_true rfl
inductive PS : Nat → D → Prop
  | non {k : Nat} : PS k .non
  | int {k : Nat} (i : Int) : PS k (.int i)
  | bl {k : Nat} (i : Bool) : PS k (.bl i)
  | str {k : Nat} (s : Str) : PyData.strOk s = true → PS k (.str s)
  | tup {k : Nat} {xs : List D} : (∀ x ∈ xs, PS k x) → xs.length ≤ 1000 → PS (k + 1) (.tup xs)
theorem PS.own {k : Nat} {d : D} (h : PS k d) : noOwn d = true := by
  induction h with
  | non => simp
  | int i => simp
  | bl i => simp
  | str s => simp
  | tup _ _ ih => rw [noOwn_tup]; exact noOwns_all ih
theorem isiT2_tup (xs : List D) : isiTD ["tuple", "list"] [.tup xs] = some (.bl true) := by
  show (if ["tuple", "list"].length ≤ smallL then _ else none) = _
  rw [if_pos (by decide)]; rfl
theorem isiT2_lst (o : Bool) (xs : List D) : isiTD ["tuple", "list"] [.lst o xs] = some (.bl true) := by
  show (if ["tuple", "list"].length ≤ smallL then _ else none) = _
  rw [if_pos (by decide)]; rfl
theorem isi_lst (o : Bool) (xs : List D) : isiD "bool" [.lst o xs] = some (.bl false) ∧ isiD "int" [.lst o xs] = some (.bl false) ∧ isiD "str" [.lst o xs] = some (.bl false) ∧ isiD "tuple" [.lst o xs] = some (.bl false) ∧ isiD "list" [.lst o xs] = some (.bl true) := ⟨rfl, rfl, rfl, rfl, rfl⟩
theorem isi_tup (xs : List D) : isiD "bool" [.tup xs] = some (.bl false) ∧ isiD "int" [.tup xs] = some (.bl false) ∧ isiD "str" [.tup xs] = some (.bl false) ∧ isiD "tuple" [.tup xs] = some (.bl true) ∧ isiD "list" [.tup xs] = some (.bl false) := ⟨rfl, rfl, rfl, rfl, rfl⟩
theorem isi_str (s : Str) : isiD "bool" [.str s] = some (.bl false) ∧ isiD "int" [.str s] = some (.bl false) ∧ isiD "str" [.str s] = some (.bl true) := ⟨rfl, rfl, rfl⟩
theorem isi_int (i : Int) : isiD "bool" [.int i] = some (.bl false) ∧ isiD "int" [.int i] = some (.bl true) := ⟨rfl, rfl⟩
theorem isi_bl (i : Bool) : isiD "bool" [.bl i] = some (.bl true) := rfl
theorem same_pins (n : Nat) : (fn_same_at n).pins = [true, true, true] := by cases n <;> rfl
def bodySm (fn : Fn) : FS := (ifF (notF (tstF (.t (callF fn [.t (opF ixD [.b 0, .b 3]), .t (opF ixD [.b 1, .b 3]), .t (opF subD [.b 2, .t (litF (.int 1))])])))) (retF (litF (.bl false))) (passF))
theorem same_loop {fn : Fn} {d e : D} {dep : Int} (hp : fn.pins = [true, true, true]) (xs : List D) (h0 : ∀ i : Nat, i < xs.length → ixD [d, .int (i : Nat)] = xs[i]? ∧ ixD [e, .int (i : Nat)] = xs[i]?) (hx : ∀ x ∈ xs, noOwn x = true ∧ fn.sem [x, x, .int (dep - 1)] = some (.bl true, [some x, some x, some (.int (dep - 1))])) :
    ∃ A3, goFor (tgN 3) (bodySm fn) ((List.range xs.length).map natD) [some d, some e, some (.int dep), none] = some (.nx [some d, some e, some (.int dep), A3]) := by
  obtain ⟨ρ', g1, A3, rfl⟩ := for_inv (tg := tgN 3) (body := bodySm fn) (ds := (List.range xs.length).map natD) (ρ := [some d, some e, some (.int dep), none])
    (fun i ρ => ∃ A3, ρ = [some d, some e, some (.int dep), A3])
    ⟨none, rfl⟩ (by
      rintro i d0 ρ hd ⟨A3, rfl⟩
      rw [List.getElem?_map] at hd
      obtain ⟨i', hi', rfl⟩ := Option.map_eq_some_iff.mp hd
      obtain ⟨hi, hii⟩ := List.getElem?_eq_some_iff.mp hi'
      rw [List.length_range] at hi
      obtain rfl : i' = i := by simpa using hii.symm
      obtain ⟨a1, a2⟩ := h0 i' hi
      rw [List.getElem?_eq_getElem hi] at a1 a2
      obtain ⟨b1, b2⟩ := hx _ (List.getElem_mem hi)
      generalize xs[i'] = x at *
      refine ⟨[some d, some e, some (.int dep), some (natD i')], .inl ?_, some (natD i'), rfl⟩
      rw [turn_e]
      unfold bodySm natD
      simp [a1, a2, b1, b2, hp])
  exact ⟨A3, g1⟩
theorem F_same_e (fn : Fn) : F_same fn = (seqF (ifF (orF (bT (opF (eqD) [.b 2, .t (litF (.int 0))])) (orF (bT (opF (isNonD) [.b 0, .t (litF .non)])) (bT (opF (isNonD) [.b 1, .t (litF .non)])))) (retF (andV (opF (gtD) [.b 2, .t (litF (.int 0))]) (andV (opF (isNonD) [.b 0, .t (litF .non)]) (opF (isNonD) [.b 1, .t (litF .non)])))) (passF)) <|
  seqF (ifF (orF (tstF (.t (opF (isiD "bool") [.b 0]))) (tstF (.t (opF (isiD "bool") [.b 1])))) (retF (andV (opF (isiD "bool") [.b 0]) (andV (opF (isiD "bool") [.b 1]) (opF (eqD) [.b 0, .b 1])))) (passF)) <|
  seqF (ifF (orF (tstF (.t (opF (isiD "int") [.b 1]))) (tstF (.t (opF (isiD "int") [.b 0])))) (retF (andV (opF (isiD "int") [.b 1]) (andV (opF (isiD "int") [.b 0]) (opF (eqD) [.b 0, .b 1])))) (passF)) <|
  seqF (ifF (orF (tstF (.t (opF (isiD "str") [.b 1]))) (tstF (.t (opF (isiD "str") [.b 0])))) (retF (andV (opF (isiD "str") [.b 1]) (andV (opF (isiD "str") [.b 0]) (opF (eqD) [.b 0, .b 1])))) (passF)) <|
  seqF (ifF (orF (bT (opF (neD) [.t (opF (isiD "tuple") [.b 1]), .t (opF (isiD "tuple") [.b 0])])) (bT (opF (neD) [.t (opF (isiD "list") [.b 1]), .t (opF (isiD "list") [.b 0])]))) (retF (litF (.bl false))) (passF)) <|
  seqF (ifF (orF (notF (tstF (.t (opF (isiTD ["tuple", "list"]) [.b 0])))) (bT (opF (neD) [.t (opF lenD [.b 0]), .t (opF lenD [.b 1])]))) (retF (litF (.bl false))) (passF)) <|
  seqF (forF (itRg rng1D [.t (opF lenD [.b 1])]) (tgN 3) (bodySm fn)) <|
  retF (litF (.bl true))) := rfl
theorem ix_t {xs : List D} (ho : noOwns xs = true) (i : Nat) (h : i < xs.length) : ixD [.tup xs, .int (i : Nat)] = xs[i]? := by
  have := atI_nat (xs := xs) (k := i) (List.getElem?_eq_getElem h)
  rw [ixD_t, this, List.getElem?_eq_getElem h]
  have hx : noOwn xs[i] = true := by
    have := (List.all_eq_true.mp (show xs.all noOwn = true by
      clear this h
      induction xs with
      | nil => rfl
      | cons x xs ih => simp only [noOwns, Bool.and_eq_true] at ho; simp [ho.1, ih ho.2])) xs[i] (List.getElem_mem h)
    exact this
  simp [hx]
theorem ix_l {o : Bool} {xs : List D} (ho : noOwns xs = true) (i : Nat) (h : i < xs.length) : ixD [.lst o xs, .int (i : Nat)] = xs[i]? := by
  rw [← ix_t ho i h, ixD_t, ixD_l]
theorem same_ok : ∀ {k : Nat} {d : D}, PS k d → ∀ n : Nat, k ≤ n → ∀ dep : Int, (k : Int) < dep → (fn_same_at (n + 1)).sem [d, d, .int dep] = some (.bl true, [some d, some d, some (.int dep)])
  | k, _, .non => fun n hn dep hd => by
    have c1 : ¬ dep = 0 := by omega
    have c2 : 0 < dep := by omega
    have n1 := isNonD_e .non
    have n2 : isNon .non = true := rfl
    show (bodyFn 4 3 [true, true, true] (F_same (fn_same_at n))).sem _ = _
    rw [bodyFn_sem, F_same_e]
    simp [c1, c2, n1, n2]
  | k, _, .int i => fun n hn dep hd => by
    have c1 : ¬ dep = 0 := by omega
    have n1 := isNonD_e (.int i)
    show (bodyFn 4 3 [true, true, true] (F_same (fn_same_at n))).sem _ = _
    rw [bodyFn_sem, F_same_e]
    simp [c1, n1, isNon_int, isi_int]
  | k, _, .bl i => fun n hn dep hd => by
    have c1 : ¬ dep = 0 := by omega
    have n1 := isNonD_e (.bl i)
    show (bodyFn 4 3 [true, true, true] (F_same (fn_same_at n))).sem _ = _
    rw [bodyFn_sem, F_same_e]
    simp [c1, n1, isNon_bl, isi_bl]
  | k, _, .str s hs => fun n hn dep hd => by
    have c1 : ¬ dep = 0 := by omega
    have n1 := isNonD_e (.str s)
    have q1 : eqOk (.str s) = true := (EqB.str (k := 0) hs).ok (by omega)
    have q2 : deq (.str s) (.str s) = true := by rw [deq_str]; simp
    show (bodyFn 4 3 [true, true, true] (F_same (fn_same_at n))).sem _ = _
    rw [bodyFn_sem, F_same_e]
    simp [c1, n1, isNon_str, isi_str, q1, q2]
  | k + 1, _, .tup (xs := xs) h hlen => fun n hn dep hd => by
    have ho : noOwns xs = true := noOwns_all fun x hx => (h x hx).own
    obtain ⟨m, rfl⟩ : ∃ m, n = m + 1 := ⟨n - 1, by omega⟩
    obtain ⟨A3, l⟩ := same_loop (fn := fn_same_at (m + 1)) (d := .tup xs) (e := .tup xs) (dep := dep) (same_pins _) xs (fun i hi => ⟨ix_t ho i hi, ix_t ho i hi⟩) fun x hx => ⟨(h x hx).own, same_ok (h x hx) m (by omega) _ (by omega)⟩
    have c1 : ¬ dep = 0 := by omega
    have n1 := isNonD_e (.tup xs)
    have r1 := rng1_nat (u := xs.length) (by omega)
    show (bodyFn 4 3 [true, true, true] (F_same (fn_same_at (m + 1)))).sem _ = _
    rw [bodyFn_sem, F_same_e]
    generalize (List.range xs.length).map natD = RG at *
    simp [c1, n1, isNon_tup, isi_tup, isiT2_tup, ho, r1, l]
theorem same_one {k : Nat} {d : D} (h : PS k d) (hk : k ≤ 8) : fn_same.sem [d, d, .int 9] = some (.bl true, [some d, some d, some (.int 9)]) := same_ok h 19 (by omega) 9 (by omega)
/-- the same list, whoever owns it -/
theorem same_lst {o o' : Bool} {k : Nat} {xs : List D} (h : ∀ x ∈ xs, PS k x) (hk : k ≤ 7) (hl : xs.length ≤ 1000) : fn_same.sem [.lst o xs, .lst o' xs, .int 9] = some (.bl true, [some (.lst o xs), some (.lst o' xs), some (.int 9)]) := by
  have ho : noOwns xs = true := noOwns_all fun x hx => (h x hx).own
  obtain ⟨A3, l⟩ := same_loop (fn := fn_same_at 19) (d := .lst o xs) (e := .lst o' xs) (dep := 9) (same_pins _) xs (fun i hi => ⟨ix_l ho i hi, ix_l ho i hi⟩) fun x hx => ⟨(h x hx).own, same_ok (h x hx) 18 (by omega) _ (by omega)⟩
  have n1 := isNonD_e (.lst o xs)
  have n2 := isNonD_e (.lst o' xs)
  have r1 := rng1_nat (u := xs.length) (by omega)
  show (bodyFn 4 3 [true, true, true] (F_same (fn_same_at 19))).sem _ = _
  rw [bodyFn_sem, F_same_e]
  generalize (List.range xs.length).map natD = RG at *
  simp [n1, n2, isNon_lst, isi_lst, isiT2_lst, r1, l]
theorem ps_mv {m : Mv} (h : MvOk m) : PS 1 (mvD m) := .tup (k := 0) (fun x hx => by
  rcases List.mem_cons.mp hx with rfl | hx
  · exact .str _ h
  · rcases List.mem_cons.mp hx with rfl | hx
    · exact .int _
    · cases hx) (by simp)
theorem same_mvs {o o' : Bool} {ms : List Mv} (h : ∀ m ∈ ms, MvOk m) (hl : ms.length ≤ 1000) : fn_same.sem [.lst o (ms.map mvD), .lst o' (ms.map mvD), .int 9] = some (.bl true, [some (.lst o (ms.map mvD)), some (.lst o' (ms.map mvD)), some (.int 9)]) :=
  same_lst (k := 1) (fun x hx => by
    obtain ⟨m, hm, rfl⟩ := List.mem_map.mp hx
    exact ps_mv (h m hm)) (by omega) (by rw [List.length_map]; exact hl)
theorem same_bls {o o' : Bool} {bs : List Bool} (hl : bs.length ≤ 1000) : fn_same.sem [.lst o (bs.map D.bl), .lst o' (bs.map D.bl), .int 9] = some (.bl true, [some (.lst o (bs.map D.bl)), some (.lst o' (bs.map D.bl)), some (.int 9)]) :=
  same_lst (k := 0) (fun x hx => by
    obtain ⟨m, hm, rfl⟩ := List.mem_map.mp hx
    exact .bl _) (by omega) (by rw [List.length_map]; exact hl)
theorem drop_next {w : List Nat} {i : Nat} (h : i + 2 < w.length) (e : w.getD (i + 2) 0 = w.getD i 0) : w.drop (i + 2) = w.getD i 0 :: w.drop (i + 3) := by
  rw [List.drop_eq_getElem_cons h, ← e]
  simp [h]
theorem any_mv (ms : List Mv) (m : Mv) : ((ms.map mvD).any fun z => deq z (mvD m)) = decide (m ∈ ms) := by
  induction ms with
  | nil => simp
  | cons a ms ih =>
    rw [List.map_cons, List.any_cons, ih, deq_mv]
    by_cases h : a = m
    · subst h; simp
    · have h' : ¬ m = a := fun z => h z.symm
      by_cases h2 : m ∈ ms <;> simp [h, h', h2]
theorem in_steps {w : List Nat} {m : Mv} (hm : MvOk m) : inD true [mvD m, .lst true ((stepsS w).map mvD)] = some (.bl (!decide (m ∈ stepsS w))) := by
  have k1 := eqOk_mv hm
  have k2 := eqOk_mvs (o := true) (ms := stepsS w) fun m hm => steps_mok hm
  rw [inD_l, k1, k2, any_mv]
  rfl
/-! the words' check -/
def bodyCw1 : FS := (ifF (notF (bT (chainF (fun i j => decide (i ≤ j)) (fun i j => decide (i < j)) (.t (litF (.int 0))) (.b 3) (.t (opF subD [.b 0, .t (litF (.int 1))]))))) (neverF) (passF))
def bodyCw : FS := (forF (itSeq (varF 2)) (tgN 3) bodyCw1)
theorem F_check_words_e : F_p_check_words = (seqF (dropF (callF fn_p_check_size [.b 0])) <| forF (itSeq (varF 1)) (tgN 2) bodyCw) := rfl
theorem Cw1_loop {n : Nat} {W V : Option D} : ∀ (w : List Nat) (A3 : Option D), (∀ x ∈ w, x + 1 < n) → ∃ B3, goFor (tgN 3) bodyCw1 (w.map natD) [some (.int (n : Nat)), W, V, A3] = some (.nx [some (.int (n : Nat)), W, V, B3])
  | [], A3, _ => ⟨A3, rfl⟩
  | x :: w, A3, h => by
    obtain ⟨B3, g⟩ := Cw1_loop (n := n) (W := W) (V := V) w (some (natD x)) fun y hy => h y (by simp [hy])
    refine ⟨B3, ?_⟩
    have hx := h x (by simp)
    have c1 : (x : Int) < (n : Int) - 1 := by omega
    have t : turn (tgN 3) bodyCw1 (natD x) [some (.int (n : Nat)), W, V, A3] = some (.nx [some (.int (n : Nat)), W, V, some (natD x)]) := by
      rw [turn_e]
      unfold bodyCw1 natD
      simp [c1]
    rw [List.map_cons, goFor_cons, t, bd_some, loopK_nx, g]
theorem Cw_loop {n : Nat} {W : Option D} : ∀ (ws : List (List Nat)) (A2 A3 : Option D), (∀ w ∈ ws, ∀ x ∈ w, x + 1 < n) → ∃ B2 B3, goFor (tgN 2) bodyCw (ws.map wordD) [some (.int (n : Nat)), W, A2, A3] = some (.nx [some (.int (n : Nat)), W, B2, B3])
  | [], A2, A3, _ => ⟨A2, A3, rfl⟩
  | w :: ws, A2, A3, h => by
    obtain ⟨C3, g1⟩ := Cw1_loop (n := n) (W := W) (V := some (wordD w)) w A3 (h w (by simp))
    obtain ⟨B2, B3, g⟩ := Cw_loop (n := n) (W := W) ws (some (wordD w)) C3 fun y hy => h y (by simp [hy])
    refine ⟨B2, B3, ?_⟩
    have nw := noOwns_natDs w
    have fz := freezes_natDs w
    have t : turn (tgN 2) bodyCw (wordD w) [some (.int (n : Nat)), W, A2, A3] = some (.nx [some (.int (n : Nat)), W, some (wordD w), C3]) := by
      rw [turn_e]
      unfold bodyCw wordD at *
      generalize w.map natD = X at *
      simp [nw, fz, g1]
    rw [List.map_cons, goFor_cons, t, bd_some, loopK_nx, g]
theorem check_words_ok {n : Nat} {ws : List (List Nat)} (hn : 1 ≤ n) (h : ∀ w ∈ ws, ∀ x ∈ w, x + 1 < n) : fn_p_check_words.sem [.int (n : Nat), .tup (ws.map wordD)] = some (.non, [some (.int (n : Nat)), some (.tup (ws.map wordD))]) := by
  obtain ⟨B2, B3, g⟩ := Cw_loop (n := n) (W := some (.tup (ws.map wordD))) ws none none h
  have no : noOwns (ws.map wordD) = true := noOwns_map noOwn_wordD ws
  have fz := freezes_of no
  have c1 : ¬ ((n : Int) < 1) := by omega
  have cs : fn_p_check_size.sem [.int (n : Nat)] = some (.non, [some (.int (n : Nat))]) := by
    unfold fn_p_check_size F_p_check_size
    rw [bodyFn_sem]
    simp [c1]
  have p1 : fn_p_check_size.pins = [true] := rfl
  unfold fn_p_check_words
  rw [bodyFn_sem, F_check_words_e]
  generalize ws.map wordD = WS at *
  simp [cs, p1, no, fz, g]
theorem star_words {n : Nat} {ws : List (List Nat)} (hn : 1 ≤ n) (h : ∀ w ∈ ws, ∀ x ∈ w, x + 1 < n) (hl : ws.length ≤ 10) : starD fn_p_check_words 1 (.int (n : Nat) :: ws.map wordD) = some .non := by
  have no : noOwns (ws.map wordD) = true := noOwns_map noOwn_wordD ws
  refine starD_e (by rw [noOwns_cons, no]; simp) (by simp) (by rw [List.length_cons, List.length_map]; unfold smallL; omega) (check_words_ok hn h) rfl
theorem nat_of {i : Int} (h : 0 ≤ i) : ∃ s : Nat, i = (s : Nat) := ⟨i.toNat, by omega⟩
theorem dip_pins : fn_dip.pins = [true, true] := rfl
def bodyWd : FS := (seqF (asgF (callF fn_dip [.b 0, .t (opF subD [.b 1, .t (litF (.int 1))])]) (tgN 5)) <|
  seqF (asgF (callF fn_dip [.b 0, .t (litF (.int 4))]) (tgN 6)) <|
  seqF (ifF (andF (bT (opF (gtD) [.b 6, .t (litF (.int 1))])) (bT (opF (neD) [.b 3, .t (lstF [])]))) (asgF (opF min2D [.t (opF subD [.b 1, .t (litF (.int 2))]), .t (opF max2D [.t (litF (.int 0)), .t (opF addD [.t (opF ixD [.b 3, .t (opF negD [.t (litF (.int 1))])]), .t (opF ixD [.t (lstF [.t (opF negD [.t (litF (.int 1))]), .t (litF (.int 1))]), .t (opF subD [.b 6, .t (litF (.int 2))])])])])]) (tgN 5)) (ifF (andF (bT (opF (eqD) [.b 6, .t (litF (.int 1))])) (bT (opF (neD) [.b 3, .t (lstF [])]))) (asgF (opF ixD [.b 3, .t (callF fn_dip [.b 0, .t (opF lenD [.b 3])])]) (tgN 5)) (passF))) <|
  dropF (mutF 3 appD [.t (varF 5)]))
theorem F_word_e : F_word = (seqF (ifF (bT (opF (ltD) [.b 1, .t (litF (.int 2))])) (retF (tupF [])) (passF)) <|
  seqF (asgF (lstF []) (tgN 3)) <|
  seqF (forF (itRg rng1D [.t (callF fn_dip [.b 0, .t (opF addD [.b 2, .t (litF (.int 1))])])]) (tgN 4) bodyWd) <|
  retF (opF tupleD [.b 3])) := rfl
theorem Wd_turn {w : D} {n : Nat} {v : List Nat} {d : D} {M A4 A5 A6 : Option D} (hw : DOk w) (hn : 2 ≤ n) (hn2 : n ≤ 1000) (hv : ∀ x ∈ v, x + 1 < n) (hl : v.length < 1000) :
    ∃ w' x B5 B6, turn (tgN 4) bodyWd d [some w, some (.int (n : Nat)), M, some (.lst true (v.map natD)), A4, A5, A6] = some (.nx [some w', some (.int (n : Nat)), M, some (.lst true ((v ++ [x]).map natD)), some d, B5, B6]) ∧ DOk w' ∧ x + 1 < n := by
  obtain ⟨idx, w1, e1, a1, b1, k1⟩ := dip_ok (lim := (n : Int) - 1) hw (by omega) (by omega)
  obtain ⟨way, w2, e2, a2, b2, k2⟩ := dip_ok (lim := 4) k1 (by omega) (by omega)
  obtain ⟨idx, rfl⟩ := nat_of a1
  have p1 := dip_pins
  have o0 := hw.own
  have o1 := k1.own
  have o2 := k2.own
  have q1 := eqOk_nats true v
  have q2 := eqOk_emp true
  have q3 := deq_emp true true (v.map natD)
  have ap : ∀ z, appD (v.map natD) [z] = some (.non, v.map natD ++ [z]) := fun z => appD_e z (by rw [List.length_map]; omega)
  have sm0 := small_le (n := 0) (by omega)
  have sm2 := small_le (n := 2) (by omega)
  have ei : ∀ x : Nat, (v ++ [x]).map natD = v.map natD ++ [.int (x : Nat)] := fun x => by rw [List.map_append]; rfl
  have plain : ∀ B : Bool, (B = false → ∃ w' x B5 B6, turn (tgN 4) bodyWd d [some w, some (.int (n : Nat)), M, some (.lst true (v.map natD)), A4, A5, A6] = some (.nx [some w', some (.int (n : Nat)), M, some (.lst true ((v ++ [x]).map natD)), some d, B5, B6]) ∧ DOk w' ∧ x + 1 < n) ∨ True := fun B => .inr trivial
  rcases List.eq_nil_or_concat v with hv0 | ⟨v', l, hvl⟩
  · refine ⟨w2, idx, some (.int (idx : Nat)), some (.int way), ?_, k2, by omega⟩
    rw [ei]
    rw [turn_e]
    unfold bodyWd
    have q3' : deq (.lst true (v.map natD)) (.lst true []) = true := by rw [q3, hv0]; rfl
    generalize v.map natD = V at *
    have hway : way = 0 ∨ way = 1 ∨ way = 2 ∨ way = 3 := by omega
    rcases hway with rfl | rfl | rfl | rfl <;> simp [e1, e2, p1, o0, o1, o2, q1, q2, q3', ap, sm0]
  · have q3' : deq (.lst true (v.map natD)) (.lst true []) = false := by rw [q3, hvl]; simp
    have hlast : atI (v.map natD) (-1) = some (.int (l : Nat)) := by rw [hvl, List.concat_eq_append, List.map_append]; exact atI_last _ _
    have hl1 : l + 1 < n := hv l (by rw [hvl]; simp)
    have hway : way = 0 ∨ way = 1 ∨ way = 2 ∨ way = 3 := by omega
    rcases hway with rfl | rfl | rfl | rfl
    · refine ⟨w2, idx, some (.int (idx : Nat)), some (.int 0), ?_, k2, by omega⟩
      rw [ei, turn_e]
      unfold bodyWd
      generalize v.map natD = V at *
      simp [e1, e2, p1, o0, o1, o2, q1, q2, q3', ap, sm0]
    · have hlen : 0 < v.length := by rw [hvl]; simp
      obtain ⟨j, w3, e3, a3, b3, k3⟩ := dip_ok (lim := (v.length : Int)) k2 (by omega) (by omega)
      obtain ⟨j, rfl⟩ := nat_of a3
      have hj : j < v.length := by omega
      have x3 := word_at (w := v) (i := j) hj
      have o3 := k3.own
      have ll : (v.map natD).length = v.length := by simp
      refine ⟨w3, v.getD j 0, some (.int (v.getD j 0 : Nat)), some (.int 1), ?_, k3, hv _ (getD_mem hj)⟩
      rw [ei, turn_e]
      unfold bodyWd
      generalize v.getD j 0 = xj at *
      generalize v.map natD = V at *
      simp [e1, e2, e3, p1, o0, o1, o2, o3, q1, q2, q3', ap, sm0, x3, ll]
    · obtain ⟨mx, hmx⟩ : ∃ mx : Int, mx = if (l : Int) + -1 > 0 then (l : Int) + -1 else 0 := ⟨_, rfl⟩
      obtain ⟨mn, hmn⟩ : ∃ mn : Int, mn = if mx < (n : Int) - 2 then mx else (n : Int) - 2 := ⟨_, rfl⟩
      have e5 : max2D [.int 0, .int ((l : Int) + -1)] = some (.int mx) := by rw [hmx]; rfl
      have e6 : min2D [.int ((n : Int) - 2), .int mx] = some (.int mn) := by rw [hmn]; rfl
      have r1 : 0 ≤ mx := by rw [hmx]; split <;> omega
      have r2 : 0 ≤ mn ∧ mn ≤ (n : Int) - 2 := by rw [hmn]; split <;> omega
      obtain ⟨x, rfl⟩ := nat_of r2.1
      refine ⟨w2, x, some (.int (x : Nat)), some (.int 2), ?_, k2, by omega⟩
      rw [ei, turn_e]
      unfold bodyWd
      generalize v.map natD = V at *
      simp [-max2D_i, -min2D_i, e1, e2, p1, o0, o1, o2, q1, q2, q3', ap, sm0, sm2, hlast, e5, e6]
    · obtain ⟨mx, hmx⟩ : ∃ mx : Int, mx = if (l : Int) + 1 > 0 then (l : Int) + 1 else 0 := ⟨_, rfl⟩
      obtain ⟨mn, hmn⟩ : ∃ mn : Int, mn = if mx < (n : Int) - 2 then mx else (n : Int) - 2 := ⟨_, rfl⟩
      have e5 : max2D [.int 0, .int ((l : Int) + 1)] = some (.int mx) := by rw [hmx]; rfl
      have e6 : min2D [.int ((n : Int) - 2), .int mx] = some (.int mn) := by rw [hmn]; rfl
      have r1 : 0 ≤ mx := by rw [hmx]; split <;> omega
      have r2 : 0 ≤ mn ∧ mn ≤ (n : Int) - 2 := by rw [hmn]; split <;> omega
      obtain ⟨x, rfl⟩ := nat_of r2.1
      refine ⟨w2, x, some (.int (x : Nat)), some (.int 3), ?_, k2, by omega⟩
      rw [ei, turn_e]
      unfold bodyWd
      generalize v.map natD = V at *
      simp [-max2D_i, -min2D_i, e1, e2, p1, o0, o1, o2, q1, q2, q3', ap, sm0, sm2, hlast, e5, e6]
/-- a word whose hooks are of n, of at most so many -/
def WOk (n most : Nat) (v : List Nat) : Prop := v.length ≤ most ∧ ∀ x ∈ v, x + 1 < n
theorem word_ok {w : D} {n most : Nat} (hw : DOk w) (hn : 2 ≤ n) (hn2 : n ≤ 1000) (hm : most ≤ 900) :
    ∃ v w', fn_word.sem [w, .int (n : Nat), .int (most : Nat)] = some (wordD v, [some w', some (.int (n : Nat)), some (.int (most : Nat))]) ∧ DOk w' ∧ WOk n most v := by
  obtain ⟨m, w1, e1, a1, b1, k1⟩ := dip_ok (lim := (most : Int) + 1) hw (by omega) (by omega)
  obtain ⟨m, rfl⟩ := nat_of a1
  obtain ⟨ρ', g1, w2, v, B4, B5, B6, rfl, k2, hl, hv⟩ := for_inv (tg := tgN 4) (body := bodyWd) (ds := (List.range m).map natD) (ρ := [some w1, some (.int (n : Nat)), some (.int (most : Nat)), some (.lst true []), none, none, none])
    (fun i ρ => ∃ w' v B4 B5 B6, ρ = [some w', some (.int (n : Nat)), some (.int (most : Nat)), some (.lst true (v.map natD)), B4, B5, B6] ∧ DOk w' ∧ v.length = i ∧ ∀ x ∈ v, x + 1 < n)
    ⟨w1, [], none, none, none, rfl, k1, rfl, by simp⟩ (by
      rintro i d ρ hd ⟨w', v, B4, B5, B6, rfl, k, hl, hv⟩
      have hi : i < m := by
        have := (List.getElem?_eq_some_iff.mp hd).1
        simpa using this
      obtain ⟨w2, x, C5, C6, e, k', hx⟩ := Wd_turn (d := d) (M := some (.int (most : Nat))) (A4 := B4) (A5 := B5) (A6 := B6) k hn hn2 hv (by omega)
      refine ⟨_, .inl e, w2, v ++ [x], some d, C5, C6, rfl, k', by simp [hl], fun y hy => ?_⟩
      rcases List.mem_append.mp hy with q | q
      · exact hv y q
      · rw [List.mem_singleton.mp q]; exact hx)
  rw [List.length_map, List.length_range] at hl
  refine ⟨v, w2, ?_, k2, by omega, hv⟩
  have p1 := dip_pins
  have o0 := hw.own
  have o1 := k1.own
  have o2 := k2.own
  have r1 := rng1_nat (u := m) (by omega)
  have t1 := tupleD_l (o := true) (noOwns_natDs v)
  have c1 : ¬ ((n : Int) < 2) := by omega
  unfold fn_word wordD
  rw [bodyFn_sem, F_word_e]
  generalize (List.range m).map natD = RG at *
  generalize v.map natD = V at *
  simp [c1, e1, p1, o0, o1, o2, r1, g1, t1, small_le (n := 0) (by omega)]
def stNear : FE := (ifE (bT (opF (neD) [.b 2, .t (tupF [])])) (lcF [10] (itSeq (lstF [.t (opF subD [.t (opF ixD [.b 2, .b 7]), .t (litF (.int 1))]), .t (opF addD [.t (opF ixD [.b 2, .b 7]), .t (litF (.int 1))])])) (tgN 10) (andF (bT (opF (leD) [.t (litF (.int 0)), .b 10])) (bT (opF (ltD) [.b 10, .t (opF subD [.b 1, .t (litF (.int 1))])]))) (varF 10)) (lstF []))
theorem deq_wemp (v : List Nat) : deq (wordD v) (.tup []) = v.isEmpty := by
  have := deq_words v []
  have e : wordD [] = .tup [] := rfl
  rw [e] at this
  rw [this]
  cases v <;> rfl
theorem eqOk_temp : eqOk (.tup []) = true := eqOk_word []
def nearOk (n : Nat) (ys : List Int) : Prop := ys.length ≤ 2 ∧ ∀ y ∈ ys, 0 ≤ y ∧ y + 1 < n
theorem stNear_ok {w : D} {n : Nat} {v : List Nat} {at_ : Nat} {M Q A5 A6 A8 A9 A10 : Option D} (hat : v ≠ [] → at_ < v.length) :
    ∃ ys B10, stNear [some w, some (.int (n : Nat)), some (wordD v), M, Q, A5, A6, some (.int (at_ : Nat)), A8, A9, A10] = some (.lst true (ys.map D.int), [some w, some (.int (n : Nat)), some (wordD v), M, Q, A5, A6, some (.int (at_ : Nat)), A8, A9, B10]) ∧ nearOk n ys ∧ (v = [] → ys = []) := by
  have q1 := eqOk_word v
  have q2 := eqOk_temp
  have q3 := deq_wemp v
  by_cases hv : v = []
  · refine ⟨[], A10, ?_, ⟨by simp, by simp⟩, fun _ => rfl⟩
    have q4 : v.isEmpty = true := by rw [hv]; rfl
    rw [q4] at q3
    unfold stNear
    generalize wordD v = V at *
    simp [q1, q2, q3, small_le (n := 0) (by omega)]
  · have h := hat hv
    have x0 := word_ix (w := v) (i := at_) h
    have q4 : v.isEmpty = false := by cases v with | nil => exact absurd rfl hv | cons _ _ => rfl
    rw [q4] at q3
    obtain ⟨x, hx⟩ : ∃ x, x = v.getD at_ 0 := ⟨_, rfl⟩
    rw [← hx] at x0
    refine ⟨[(x : Int) - 1, (x : Int) + 1].filter (fun y => decide (0 ≤ y) && decide (y < (n : Int) - 1)), none, ?_, ⟨List.length_filter_le .., fun y hy => ?_⟩, fun z => absurd z hv⟩
    · have g := goLc_filt (vs := [10]) (fg := tgN 10) (ft := andF (bT (opF (leD) [.t (litF (.int 0)), .b 10])) (bT (opF (ltD) [.b 10, .t (opF subD [.b 1, .t (litF (.int 1))])]))) (fe := varF 10) (ρ := [some w, some (.int (n : Nat)), some (wordD v), M, Q, A5, A6, some (.int (at_ : Nat)), A8, A9, none]) D.int D.int (fun y => decide (0 ≤ y) && decide (y < (n : Int) - 1)) [(x : Int) - 1, (x : Int) + 1] (fun y _ => by
        rw [lcTurnF_e]
        by_cases c1 : 0 ≤ y
        · by_cases c2 : y < (n : Int) - 1 <;> simp [c1, c2]
        · simp [c1])
      have hl : (([(x : Int) - 1, (x : Int) + 1].filter (fun y => decide (0 ≤ y) && decide (y < (n : Int) - 1))).map D.int).length ≤ 100000 := by
        rw [List.length_map]
        exact Nat.le_trans (List.length_filter_le ..) (by simp)
      have hl2 := small_le hl
      rw [show [(x : Int) - 1, (x : Int) + 1].map D.int = [.int ((x : Int) - 1), .int ((x : Int) + 1)] from rfl] at g
      have fz : freezes [.int ((x : Int) - 1), .int ((x : Int) + 1)] = [.int ((x : Int) - 1), .int ((x : Int) + 1)] := freezes_of (by simp)
      unfold stNear
      generalize ([(x : Int) - 1, (x : Int) + 1].filter (fun y => decide (0 ≤ y) && decide (y < (n : Int) - 1))).map D.int = YS at *
      generalize wordD v = V at *
      simp [q1, q2, q3, x0, small_le (n := 2) (by omega), g, hl2, fz]
    · have := (List.mem_filter.mp hy).2
      simp only [Bool.and_eq_true, decide_eq_true_eq] at this
      exact ⟨this.1, by omega⟩
theorem noOwn_ints (o : Bool) (ys : List Int) : noOwns (ys.map D.int) = true := noOwns_ints ys
theorem eqOk_intsL (ys : List Int) : eqOk (.lst true (ys.map D.int)) = true := (EqB.lst (k := 0) (fun x hx => by
  obtain ⟨y, _, rfl⟩ := List.mem_map.mp hx
  exact EqB.int _)).ok (by omega)
/-! ### the drawn moves -/
theorem dq_ff : deq (.str "far") (.str "far") = true := by rw [deq_str]; exact decide_eq_true rfl
theorem steps_len {v : List Nat} : (stepsS v).length ≤ v.length := by
  unfold stepsS
  rw [List.length_mergeSort]
  have := flat_len (stepAt v) (stepAt_len v) (List.range (v.length - 1))
  rw [List.length_range] at this
  unfold stepsL
  omega
theorem straight_ok {n : Nat} (hn : n ≤ 1000) : fn_straight.sem [.int (n : Nat)] = some (matD n n (strR n), [some (.int (n : Nat))]) := by
  have r1 := rng1_nat (u := n) (by omega)
  have r2 : rng2D [.int (n : Nat), .int (2 * (n : Int))] = some ((List.range n).map fun i => natD (n + i)) := by
    rw [show 2 * (n : Int) = (n : Int) + (n : Int) by omega]
    exact rng2_nat (by omega) (by omega)
  have mk : mulOk 2 (n : Int) = true := mulOk_l (by omega) (by omega)
  have e1 : (strR n).map natD = ((List.range n).map fun i => natD (n + i)) ++ (List.range n).map natD := by
    unfold strR
    rw [List.map_append, List.map_map]; rfl
  have n1 : noOwns ((List.range n).map fun i => natD (n + i)) = true := noOwns_map (fun _ => by simp) _
  have n2 := noOwns_natDs (List.range n)
  have l1 : ((List.range n).map fun i => natD (n + i)).length = n := by simp
  have l2 : ((List.range n).map natD).length = n := by simp
  have ad := addD_l (o := true) (o' := true) n1 n2 (by rw [l1, l2]; omega)
  have g1 := lrgK_e (xs := (List.range n).map fun i => natD (n + i)) (by rw [l1]; omega)
  have g2 := lrgK_e (xs := (List.range n).map natD) (by rw [l2]; omega)
  have n3 : noOwns (((List.range n).map fun i => natD (n + i)) ++ (List.range n).map natD) = true := by rw [← e1]; exact noOwns_natDs _
  have t1 := tupleD_l (o := true) n3
  unfold fn_straight F_straight matD
  rw [bodyFn_sem, e1]
  generalize ((List.range n).map fun i => natD (n + i)) = X at *
  generalize (List.range n).map natD = Y at *
  generalize X ++ Y = Z at *
  simp [r1, r2, mk, ad, g1, g2, n3, t1, small_le (n := 3) (by omega)]
theorem hooked_ok {n i : Nat} {row : List Nat} (h : PrR n row) (hi : i + 1 < n) (hn : n ≤ 1000) : fn_hooked.sem [matD n n row, .int (i : Nat)] = some (.tup [.int (hkN n i row : Nat), matD n n (hkL n i row)], [some (matD n n row), some (.int (i : Nat))]) := by
  obtain ⟨hl, hr⟩ := h
  have h1 := hr (n + i) (by omega)
  have h2 := hr (n + i + 1) (by omega)
  have x1 : atI (row.map natD) ((n : Int) + (i : Int)) = some (.int (rowF row (n + i) : Nat)) := atI_mapN (z := 0) (i := n + i) (by omega)
  have x2 : atI (row.map natD) ((n : Int) + (i : Int) + 1) = some (.int (rowF row (n + i + 1) : Nat)) := atI_mapN (z := 0) (i := n + i + 1) (by omega)
  have no := noOwns_natDs row
  have li : listD [.tup (row.map natD)] = some (.lst true (row.map natD)) := if_pos no
  have ll : (row.map natD).length = row.length := by simp
  have no2 := noOwns_natDs (hkL n i row)
  have sm2 := small_le (n := 2) (by omega)
  have sm3 := small_le (n := 3) (by omega)
  by_cases c : rowF row (n + i) = n + i + 1
  · have e1 : hkL n i row = row := if_pos c
    have e2 : hkN n i row = 1 := if_pos c
    have c' : (rowF row (n + i) : Int) = (n : Int) + (i : Int) + 1 := by omega
    rw [e1, e2]
    unfold fn_hooked F_hooked matD
    rw [bodyFn_sem]
    generalize row.map natD = X at *
    generalize rowF row (n + i) = l at *
    generalize rowF row (n + i + 1) = r at *
    simp [no, li, x1, x2, c', sm2]
  · have e2 : hkN n i row = 0 := if_neg c
    have c' : ¬ ((rowF row (n + i) : Int) = (n : Int) + (i : Int) + 1) := by omega
    have e1 : (hkL n i row).map natD = (((((row.map natD).set (rowF row (n + i)) (.int (rowF row (n + i + 1) : Nat))).set (rowF row (n + i + 1)) (.int (rowF row (n + i) : Nat))).set (n + i) (.int ((n : Int) + (i : Int) + 1))).set (n + i + 1) (.int ((n : Int) + (i : Int)))) := by
      unfold hkL
      rw [if_neg c, List.map_set, List.map_set, List.map_set, List.map_set]
      rfl
    have i1 : ixN row.length ((rowF row (n + i) : Nat) : Int) = some (rowF row (n + i)) := ixN_nat (by omega)
    have i2 : ixN row.length ((rowF row (n + i + 1) : Nat) : Int) = some (rowF row (n + i + 1)) := ixN_nat (by omega)
    have i3 : ixN row.length ((n : Int) + (i : Int)) = some (n + i) := ixN_nat (k := n + i) (by omega)
    have i4 : ixN row.length ((n : Int) + (i : Int) + 1) = some (n + i + 1) := ixN_nat (k := n + i + 1) (by omega)
    rw [e2]
    have tl : tupleD [.lst true ((hkL n i row).map natD)] = some (.tup ((hkL n i row).map natD)) := tupleD_l no2
    unfold fn_hooked F_hooked matD
    rw [bodyFn_sem]
    rw [e1] at tl no2 ⊢
    generalize row.map natD = X at *
    generalize rowF row (n + i) = l at *
    generalize rowF row (n + i + 1) = r at *
    simp [no, no2, li, ll, x1, x2, c', sm2, sm3, i1, i2, i3, i4, tl]
def bodyVa : FS := (seqF (asgF (callF fn_hooked [.b 3, .b 4]) (tgT 2 (tgCons (tgN 5) (tgCons (tgN 3) (tgNil))))) <|
  asgF (opF addD [.b 2, .b 5]) (tgN 2))
theorem F_value_e : F_value = (seqF (parF [2, 3] [.t (litF (.int 0)), .t (callF fn_straight [.b 0])]) <|
  seqF (forF (itSeq (varF 1)) (tgN 4) bodyVa) <| retF (tupF [.t (movF 2), .t (movF 3)])) := rfl
theorem Va_loop {n : Nat} {N W : Option D} (hn : n ≤ 1000) : ∀ (w : List Nat) (s : Nat × List Nat) (A4 A5 : Option D), PrR n s.2 → (∀ x ∈ w, x + 1 < n) →
    ∃ B4 B5, goFor (tgN 4) bodyVa (w.map natD) [N, W, some (.int (s.1 : Nat)), some (matD n n s.2), A4, A5] = some (.nx [N, W, some (.int ((valF n s w).1 : Nat)), some (matD n n (valF n s w).2), B4, B5])
  | [], s, A4, A5, _, _ => ⟨A4, A5, rfl⟩
  | x :: w, s, A4, A5, h, hw => by
    have hx := hw x (by simp)
    obtain ⟨B4, B5, g⟩ := Va_loop (N := N) (W := W) hn w (stepV n s x) (some (natD x)) (some (.int (hkN n x s.2 : Nat))) (hkL_pr h hx) fun y hy => hw y (by simp [hy])
    refine ⟨B4, B5, ?_⟩
    have hk := hooked_ok h hx hn
    have p1 : fn_hooked.pins = [true, true] := rfl
    have nm := noOwn_matD n n s.2
    have nm2 := noOwn_matD n n (hkL n x s.2)
    have t : turn (tgN 4) bodyVa (natD x) [N, W, some (.int (s.1 : Nat)), some (matD n n s.2), A4, A5] = some (.nx [N, W, some (.int ((stepV n s x).1 : Nat)), some (matD n n (stepV n s x).2), some (natD x), some (.int (hkN n x s.2 : Nat))]) := by
      rw [turn_e]
      unfold bodyVa stepV natD
      generalize matD n n (hkL n x s.2) = M2 at *
      generalize matD n n s.2 = M1 at *
      simp [hk, p1, nm, nm2]
    rw [List.map_cons, goFor_cons, t, bd_some, loopK_nx, g]
    rfl
def valD (n : Nat) (s : Nat × List Nat) : D := .tup [.int (s.1 : Nat), matD n n s.2]
theorem value_ok {n : Nat} {w : List Nat} (hn : n ≤ 1000) (hw : ∀ x ∈ w, x + 1 < n) : fn_value.sem [.int (n : Nat), wordD w] = some (valD n (valW n w), [some (.int (n : Nat)), some (wordD w)]) := by
  obtain ⟨B4, B5, g⟩ := Va_loop (N := some (.int (n : Nat))) (W := some (wordD w)) hn w (0, strR n) none none (strR_pr n) hw
  have so := straight_ok hn
  have p1 : fn_straight.pins = [true] := rfl
  have nw := noOwns_natDs w
  have fz := freezes_natDs w
  have nm := noOwn_matD n n (strR n)
  have nm2 := noOwn_matD n n (valF n (0, strR n) w).2
  have g' : goFor (tgN 4) bodyVa (w.map natD) [some (.int (n : Nat)), some (wordD w), some (.int 0), some (matD n n (strR n)), none, none] = some (.nx [some (.int (n : Nat)), some (wordD w), some (.int ((valW n w).1 : Nat)), some (matD n n (valW n w).2), B4, B5]) := g
  have nm3 : noOwn (matD n n (valW n w).2) = true := nm2
  unfold fn_value valD wordD at *
  rw [bodyFn_sem, F_value_e]
  generalize matD n n (valW n w).2 = M2 at *
  generalize matD n n (strR n) = M1 at *
  generalize w.map natD = W at *
  simp [so, p1, nw, fz, nm, nm3, g', small_le (n := 2) (by omega)]
/-! what a move does to the value -/
theorem steps_kind2 {w : List Nat} {m : Mv} (h : m ∈ stepsS w) : ∃ i, i + 1 < w.length ∧ ((m = (("two" : Str), (i : Int)) ∧ w.getD i 0 = w.getD (i + 1) 0) ∨ (m = (("far" : Str), (i : Int)) ∧ (w.getD i 0 + 1 < w.getD (i + 1) 0 ∨ w.getD (i + 1) 0 + 1 < w.getD i 0)) ∨ (m = (("neighbours" : Str), (i : Int)) ∧ i + 2 < w.length ∧ w.getD (i + 2) 0 = w.getD i 0 ∧ (w.getD (i + 1) 0 = w.getD i 0 + 1 ∨ w.getD i 0 = w.getD (i + 1) 0 + 1))) := by
  rw [mem_stepsS] at h
  unfold stepsL at h
  obtain ⟨i, hi, hm⟩ := List.mem_flatMap.mp h
  rw [List.mem_range] at hi
  refine ⟨i, by omega, ?_⟩
  unfold stepAt at hm
  split at hm
  · rename_i q
    exact .inl ⟨List.mem_singleton.mp hm, q⟩
  · split at hm
    · rename_i q
      exact .inr (.inl ⟨List.mem_singleton.mp hm, q⟩)
    · split at hm
      · rename_i q1 q2 q
        exact .inr (.inr ⟨List.mem_singleton.mp hm, q.1, q.2, by omega⟩)
      · cases hm
theorem cut2 {w : List Nat} {i : Nat} (h : i + 1 < w.length) : w = w.take i ++ w.getD i 0 :: w.getD (i + 1) 0 :: w.drop (i + 2) := by
  have e1 : w.drop i = w.getD i 0 :: w.drop (i + 1) := by
    rw [List.drop_eq_getElem_cons (by omega)]
    simp [List.getD_eq_getElem?_getD, List.getElem?_eq_getElem (show i < w.length by omega)]
  have e2 : w.drop (i + 1) = w.getD (i + 1) 0 :: w.drop (i + 2) := by
    rw [List.drop_eq_getElem_cons (by omega)]
    simp [List.getD_eq_getElem?_getD, List.getElem?_eq_getElem h]
  rw [← e2, ← e1, List.take_append_drop]
def lessN (m : Mv) : Nat := if m.1 = ("two" : Str) then 1 else 0
theorem val_made {n : Nat} {w : List Nat} {m : Mv} (hm : m ∈ stepsS w) (h : ∀ x ∈ w, x + 1 < n) : valW n w = ((valW n (madeW w m)).1 + lessN m, (valW n (madeW w m)).2) := by
  obtain ⟨i, hi, k⟩ := steps_kind2 hm
  have ht : ∀ y ∈ w.take i, y + 1 < n := fun y hy => h y (List.mem_of_mem_take hy)
  have h0 := h _ (getD_mem (w := w) (i := i) (by omega))
  have h1 := h _ (getD_mem (w := w) (i := i + 1) hi)
  have hc := cut2 hi
  rcases k with ⟨rfl, e⟩ | ⟨rfl, e⟩ | ⟨rfl, e1, e2, e3⟩
  · have em : madeW w (("two" : Str), (i : Int)) = w.take i ++ w.getD i 0 :: w.drop (i + 2) := by
      unfold madeW
      rw [if_pos rfl, Int.toNat_natCast]
      congr 1
      rw [List.drop_eq_getElem_cons hi, e]
      simp [List.getD_eq_getElem?_getD, List.getElem?_eq_getElem hi]
    have el : lessN (("two" : Str), (i : Int)) = 1 := if_pos rfl
    rw [em, el]
    conv => lhs; rw [hc, ← e]
    exact val_two ht h0
  · have em : madeW w (("far" : Str), (i : Int)) = w.take i ++ w.getD (i + 1) 0 :: w.getD i 0 :: w.drop (i + 2) := by
      unfold madeW
      rw [if_neg ne_2f.symm, if_neg ne_fn, Int.toNat_natCast, List.append_assoc]; rfl
    have el : lessN (("far" : Str), (i : Int)) = 0 := if_neg ne_2f.symm
    rw [em, el]
    conv => lhs; rw [hc]
    exact val_far ht h0 h1 e
  · have e4 := drop_next e1 e2
    have em : madeW w (("neighbours" : Str), (i : Int)) = w.take i ++ w.getD i 0 :: w.drop (i + 3) := by
      unfold madeW
      rw [if_neg ne_2n.symm, if_pos rfl, Int.toNat_natCast, List.append_assoc]; rfl
    have el : lessN (("neighbours" : Str), (i : Int)) = 0 := if_neg ne_2n.symm
    rw [em, el]
    conv => lhs; rw [hc, e4]
    exact val_near ht h0 h1 e3
theorem ps_nats (k : Nat) {w : List Nat} (h : w.length ≤ 1000) : PS (k + 1) (.tup (w.map natD)) := .tup (fun x hx => by
  obtain ⟨i, _, rfl⟩ := List.mem_map.mp hx
  exact .int _) (by rw [List.length_map]; exact h)
theorem ps_word {w : List Nat} (h : w.length ≤ 1000) : PS 1 (wordD w) := ps_nats 0 h
theorem ps_mat {n : Nat} {row : List Nat} (h : row.length ≤ 1000) : PS 2 (matD n n row) := .tup (fun x hx => by
  simp only [List.mem_cons, List.not_mem_nil, or_false] at hx
  rcases hx with rfl | rfl | rfl
  · exact .int _
  · exact .int _
  · exact ps_nats 0 h) (by simp)
theorem ps_val {n : Nat} {s : Nat × List Nat} (h : s.2.length ≤ 1000) : PS 3 (valD n s) := .tup (fun x hx => by
  simp only [List.mem_cons, List.not_mem_nil, or_false] at hx
  rcases hx with rfl | rfl
  · exact .int _
  · exact ps_mat h) (by simp)
theorem WOk.le {n a b : Nat} {v : List Nat} (h : WOk n a v) (hab : a ≤ b) : WOk n b v := ⟨Nat.le_trans h.1 hab, h.2⟩
theorem word_any {w : D} {n most : Nat} (hw : DOk w) (hn : 1 ≤ n) (hn2 : n ≤ 1000) (hm : most ≤ 900) :
    ∃ v w', fn_word.sem [w, .int (n : Nat), .int (most : Nat)] = some (wordD v, [some w', some (.int (n : Nat)), some (.int (most : Nat))]) ∧ DOk w' ∧ WOk n most v := by
  by_cases h : 2 ≤ n
  · exact word_ok hw h hn2 hm
  · refine ⟨[], w, ?_, hw, by simp, by simp⟩
    have c1 : (n : Int) < 2 := by omega
    unfold fn_word
    rw [bodyFn_sem, F_word_e]
    simp [c1, small_le (n := 0) (by omega), wordD]
theorem dq_k (m : Mv) : eqOk (.str m.1) = true → deq (.str m.1) (.str "two") = decide (m.1 = ("two" : Str)) := fun _ => deq_str _ _
theorem val_tup {n l : Nat} {a s : Nat × List Nat} (h : a = (s.1 + l, s.2)) : D.tup [.int ((a.1 : Int) - (l : Int)), matD n n a.2] = valD n s := by
  subst h
  unfold valD
  have e : ((s.1 + l : Nat) : Int) - (l : Int) = (s.1 : Int) := by omega
  show D.tup [.int (((s.1 + l : Nat) : Int) - (l : Int)), matD n n s.2] = _
  rw [e]
theorem goWhile_succ (c : FB) (body : FS) (n : Nat) (ρ : Env) : goWhile c body (n + 1) ρ = (c ρ).bind fun p => if p.1 = true then (body p.2).bind fun o => match o with
    | .nx ρ2 => goWhile c body n ρ2
    | .ct ρ2 => goWhile c body n ρ2
    | .bk ρ2 => some (.nx ρ2)
    | .rt d ρ2 => some (.rt d ρ2)
    | .rz n d ρ2 => some (.rz n d ρ2) else some (.nx p.2) := rfl
theorem wh_t {c : FB} {b : FS} {n : Nat} {ρ ρ1 ρ2 : Env} (h1 : c ρ = some (true, ρ1)) (h2 : b ρ1 = some (.nx ρ2)) : goWhile c b (n + 1) ρ = goWhile c b n ρ2 := by
  rw [goWhile_succ, h1]
  simp only [Option.bind_some, if_true, h2]
theorem wh_r {c : FB} {b : FS} {n : Nat} {ρ ρ1 ρ2 : Env} {d : D} (h1 : c ρ = some (true, ρ1)) (h2 : b ρ1 = some (.rt d ρ2)) : goWhile c b (n + 1) ρ = some (.rt d ρ2) := by
  rw [goWhile_succ, h1]
  simp only [Option.bind_some, if_true, h2]
theorem wh_f {c : FB} {b : FS} {n : Nat} {ρ ρ1 : Env} (h1 : c ρ = some (false, ρ1)) : goWhile c b (n + 1) ρ = some (.nx ρ1) := by
  rw [goWhile_succ, h1]
  simp only [Option.bind_some, Bool.false_eq_true, if_false]
def blsD (ps : List Bool) : D := .lst true (ps.map D.bl)
theorem noOwns_bls (ps : List Bool) : noOwns (ps.map D.bl) = true := noOwns_map (fun _ => by simp) _
theorem own_bls (ps : List Bool) : noOwn (blsD ps) = false := by simp [blsD]
theorem set_bls (ps : List Bool) (j : Nat) : (ps.map D.bl).set j (.bl true) = (ps.set j true).map D.bl := by rw [List.map_set]
/-! ### an end of a string -/
def condFe : FB := (tstF (.t (litF (.bl true))))
def bodyFe : FS := (seqF (ifF (tstF (.b 6)) (seqF (ifF (bT (opF (ltD) [.b 7, .b 4])) (retF (movF 7)) (passF)) <|
  seqF (augF 7 isubD (.b 4)) <|
  seqF (asgF (litF (.bl true)) (tgSub 3 (.b 7))) <|
  asgF (opF ixD [.t (opF ixD [.b 1, .t (litF (.int 2))]), .b 7]) (tgN 7)) (seqF (ifF (bT (opF (geD) [.b 7, .b 5])) (retF (opF subD [.t (opF addD [.b 4, .b 7]), .b 5])) (passF)) <|
  seqF (asgF (litF (.bl true)) (tgSub 3 (.b 7))) <|
  asgF (opF ixD [.t (opF ixD [.b 0, .t (litF (.int 2))]), .t (opF addD [.b 4, .b 7])]) (tgN 7))) <|
  asgF (notV (varF 6)) (tgN 6))
theorem F_far_end_e : F_p_far_end = (seqF (parF [4, 5] [.t (opF ixD [.b 0, .t (litF (.int 0))]), .t (opF ixD [.b 0, .t (litF (.int 1))])]) <|
  seqF (asgF (opF (ltD) [.b 2, .b 4]) (tgN 6)) <|
  seqF (asgF (ifE (tstF (.b 6)) (opF ixD [.t (opF ixD [.b 0, .t (litF (.int 2))]), .b 2]) (opF ixD [.t (opF ixD [.b 1, .t (litF (.int 2))]), .t (opF subD [.t (opF addD [.b 5, .b 2]), .b 4])])) (tgN 7)) <|
  whF FUEL condFe bodyFe) := rfl
theorem condFe_e (ρ : Env) : condFe ρ = some (true, ρ) := by
  unfold condFe
  simp
section
variable {n m k : Nat} {ra rh : List Nat} {P : Option D}
/-- the slots while walking -/
def envW (n m k : Nat) (ra rh : List Nat) (P : Option D) (ps : List Bool) (b : Bool) (a : Nat) : Env := [some (matD n m ra), some (matD m k rh), P, some (blsD ps), some (.int (n : Nat)), some (.int (m : Nat)), some (.bl b), some (.int (a : Nat))]
theorem Fe_t1 {ps : List Bool} {a : Nat} (h : a < n) : bodyFe (envW n m k ra rh P ps true a) = some (.rt (.int (a : Nat)) [some (matD n m ra), some (matD m k rh), P, some (blsD ps), some (.int (n : Nat)), some (.int (m : Nat)), some (.bl true), none]) := by
  unfold bodyFe envW
  simp [h]
theorem Fe_t2 {ps : List Bool} {a : Nat} (h : ¬ a < n) (h2 : a - n < m) (hp : ps.length = m) (hl : rh.length = m + k) : bodyFe (envW n m k ra rh P ps true a) = some (.nx (envW n m k ra rh P (ps.set (a - n) true) false (rowF rh (a - n)))) := by
  have x1 : atI (rh.map natD) ((a : Int) - (n : Int)) = some (.int (rowF rh (a - n) : Nat)) := by
    rw [show (a : Int) - (n : Int) = ((a - n : Nat) : Int) by omega]
    exact atI_mapN (z := 0) (by omega)
  have i1 : ixN m ((a : Int) - (n : Int)) = some (a - n) := by
    rw [show (a : Int) - (n : Int) = ((a - n : Nat) : Int) by omega]
    exact ixN_nat h2
  have sb := set_bls ps (a - n)
  have ll : (ps.map D.bl).length = m := by rw [List.length_map]; exact hp
  have no := noOwns_natDs rh
  have nb := noOwns_bls ps
  have c1 : ¬ (a : Int) < (n : Int) := by omega
  unfold bodyFe envW blsD matD
  rw [← sb]
  generalize ps.map D.bl = B at *
  generalize rh.map natD = H at *
  generalize ra.map natD = A at *
  simp [h, c1, x1, i1, ll, no, nb]
theorem Fe_f1 {ps : List Bool} {a : Nat} (h : m ≤ a) : bodyFe (envW n m k ra rh P ps false a) = some (.rt (.int ((n + a - m : Nat) : Nat)) (envW n m k ra rh P ps false a)) := by
  have c1 : (m : Int) ≤ (a : Int) := by omega
  have c2 : ((n + a - m : Nat) : Int) = (n : Int) + (a : Int) - (m : Int) := by omega
  rw [c2]
  unfold bodyFe envW
  simp [h, c1]
theorem Fe_f2 {ps : List Bool} {a : Nat} (h : ¬ m ≤ a) (hp : ps.length = m) (hl : ra.length = n + m) : bodyFe (envW n m k ra rh P ps false a) = some (.nx (envW n m k ra rh P (ps.set a true) true (rowF ra (n + a)))) := by
  have x1 : atI (ra.map natD) ((n : Int) + (a : Int)) = some (.int (rowF ra (n + a) : Nat)) := atI_mapN (z := 0) (i := n + a) (by omega)
  have i1 : ixN m (a : Int) = some a := ixN_nat (by omega)
  have sb := set_bls ps a
  have ll : (ps.map D.bl).length = m := by rw [List.length_map]; exact hp
  have no := noOwns_natDs ra
  have nb := noOwns_bls ps
  have c1 : ¬ (m : Int) ≤ (a : Int) := by omega
  unfold bodyFe envW blsD matD
  rw [← sb]
  generalize ps.map D.bl = B at *
  generalize rh.map natD = H at *
  generalize ra.map natD = A at *
  simp [h, c1, x1, i1, ll, no, nb]
theorem Fe_loop (ha : ra.length = n + m) (hh : rh.length = m + k) (hA : ∀ p, p < n + m → rowF ra p < n + m) (hH : ∀ p, p < m + k → rowF rh p < m + k) : ∀ (f F : Nat) (b : Bool) (a : Nat) (ps : List Bool) (r : Nat) (ps' : List Bool), wk (rowF ra) (rowF rh) n m f b a ps = some (r, ps') → f ≤ F → ps.length = m → (if b = true then a < n + m else a < m + k) →
    ∃ B6 B7, goWhile condFe bodyFe F (envW n m k ra rh P ps b a) = some (.rt (.int (r : Nat)) [some (matD n m ra), some (matD m k rh), P, some (blsD ps'), some (.int (n : Nat)), some (.int (m : Nat)), B6, B7])
  | 0, F, b, a, ps, r, ps', h, _, _, _ => by cases h
  | f + 1, F, true, a, ps, r, ps', h, hF, hp, hb => by
    obtain ⟨F, rfl⟩ : ∃ G, F = G + 1 := ⟨F - 1, by omega⟩
    rw [if_pos rfl] at hb
    rw [wk_t] at h
    by_cases c : a < n
    · rw [if_pos c] at h
      cases h
      exact ⟨_, _, wh_r (condFe_e _) (Fe_t1 c)⟩
    · rw [if_neg c] at h
      obtain ⟨B6, B7, e⟩ := Fe_loop ha hh hA hH f F false (rowF rh (a - n)) (ps.set (a - n) true) r ps' h (by omega) (by rw [List.length_set]; exact hp) (by rw [if_neg (by simp)]; exact hH _ (by omega))
      exact ⟨B6, B7, (wh_t (condFe_e _) (Fe_t2 c (by omega) hp hh)).trans e⟩
  | f + 1, F, false, a, ps, r, ps', h, hF, hp, hb => by
    obtain ⟨F, rfl⟩ : ∃ G, F = G + 1 := ⟨F - 1, by omega⟩
    rw [wk_f] at h
    by_cases c : m ≤ a
    · rw [if_pos c] at h
      cases h
      exact ⟨_, _, wh_r (condFe_e _) (Fe_f1 c)⟩
    · rw [if_neg c] at h
      obtain ⟨B6, B7, e⟩ := Fe_loop ha hh hA hH f F true (rowF ra (n + a)) (ps.set a true) r ps' h (by omega) (by rw [List.length_set]; exact hp) (by rw [if_pos rfl]; exact hA _ (by omega))
      exact ⟨B6, B7, (wh_t (condFe_e _) (Fe_f2 c hp ha)).trans e⟩
theorem far_end_ok {p f r : Nat} {ps ps' : List Bool} (hn : n + m + k ≤ 100000) (ha : ra.length = n + m) (hh : rh.length = m + k) (hA : ∀ p, p < n + m → rowF ra p < n + m) (hH : ∀ p, p < m + k → rowF rh p < m + k) (hp : p < n + k) (hl : ps.length = m) (hf : f ≤ 1000000)
    (hw : wk (rowF ra) (rowF rh) n m f (wkS (rowF ra) (rowF rh) n m p).1 (wkS (rowF ra) (rowF rh) n m p).2 ps = some (r, ps')) :
    fn_p_far_end.sem [matD n m ra, matD m k rh, .int (p : Nat), blsD ps] = some (.int (r : Nat), [some (matD n m ra), some (matD m k rh), some (.int (p : Nat)), some (blsD ps')]) := by
  have noa := noOwns_natDs ra
  have noh := noOwns_natDs rh
  unfold wkS at hw
  by_cases c : p < n
  · rw [if_pos c] at hw
    obtain ⟨B6, B7, e⟩ := Fe_loop (P := some (.int (p : Nat))) ha hh hA hH f FUEL true (rowF ra p) ps r ps' hw hf hl (by rw [if_pos rfl]; exact hA _ (by omega))
    have x1 : atI (ra.map natD) (p : Int) = some (.int (rowF ra p : Nat)) := atI_mapN (z := 0) (by omega)
    have c1 : (p : Int) < (n : Int) := by omega
    unfold fn_p_far_end
    rw [bodyFn_sem, F_far_end_e]
    unfold envW matD at e
    unfold matD
    generalize blsD ps = PS at *
    generalize blsD ps' = PS' at *
    generalize rh.map natD = H at *
    generalize ra.map natD = A at *
    simp [c, c1, x1, noa, noh, e]
  · rw [if_neg c] at hw
    obtain ⟨B6, B7, e⟩ := Fe_loop (P := some (.int (p : Nat))) ha hh hA hH f FUEL false (rowF rh (m + p - n)) ps r ps' hw hf hl (by rw [if_neg (by simp)]; exact hH _ (by omega))
    have x1 : atI (rh.map natD) ((m : Int) + (p : Int) - (n : Int)) = some (.int (rowF rh (m + p - n) : Nat)) := by
      rw [show (m : Int) + (p : Int) - (n : Int) = ((m + p - n : Nat) : Int) by omega]
      exact atI_mapN (z := 0) (by omega)
    have c1 : ¬ (p : Int) < (n : Int) := by omega
    unfold fn_p_far_end
    rw [bodyFn_sem, F_far_end_e]
    unfold envW matD at e
    unfold matD
    generalize blsD ps = PS at *
    generalize blsD ps' = PS' at *
    generalize rh.map natD = H at *
    generalize ra.map natD = A at *
    simp [c, c1, x1, noa, noh, e]
end
theorem bl_at {ps : List Bool} {j : Nat} (h : j < ps.length) : atI (ps.map D.bl) (j : Int) = some (.bl (bt ps j)) := by
  refine atI_nat ?_
  unfold bt
  simp [List.getD_eq_getElem?_getD, h]
section
variable {n i : Nat} {row : List Nat}
theorem far_hook_ok {p : Nat} {ps : List Bool} (h : PrR n row) (hi : i + 1 < n) (hn : n ≤ 1000) (hp : p < 2 * n) (hl : ps.length = n) :
    ∃ ps', fn_p_far_end.sem [matD n n row, matD n n (hookR n i), .int (p : Nat), blsD ps] = some (.int (hkF (n + i) (n + i + 1) (rowF row) p : Nat), [some (matD n n row), some (matD n n (hookR n i)), some (.int (p : Nat)), some (blsD ps')]) ∧ Wd (rowF row) n i ps ps' ∧ (p = rowF row (n + i) → rowF row (n + i) ≠ n + i + 1 → bt ps' i = true ∧ bt ps' (i + 1) = true) ∧ (n ≤ p → p ≠ n + i → p ≠ n + i + 1 → bt ps' (p - n) = true) := by
  have hA : ∀ q, q < 2 * n → rowF row q < 2 * n := fun q hq => (h.2 q hq).1
  have hH : ∀ q, q < 2 * n → rowF (hookR n i) q = hookF n i q ∧ rowF (hookR n i) q < 2 * n := fun q hq => by
    rw [hookR_get hi hq]
    exact ⟨rfl, hookF_lt hi hq⟩
  obtain ⟨ps', e, w, h1, h2⟩ := far_hook (f := 0) h.2 hi hp hl
  refine ⟨ps', ?_, w, h1, h2⟩
  have es : wkS (rowF row) (hookF n i) n n p = wkS (rowF row) (rowF (hookR n i)) n n p := by
    unfold wkS
    split
    · rfl
    · rw [(hH (n + p - n) (by omega)).1]
  have hs : (wkS (rowF row) (rowF (hookR n i)) n n p).2 < 2 * n := by
    unfold wkS
    split
    · exact hA p hp
    · exact (hH (n + p - n) (by omega)).2
  rw [es] at e
  rw [← wk_congr hA hH _ _ _ _ hs] at e
  exact far_end_ok (n := n) (m := n) (k := n) (by omega) (by have := h.1; omega) (by have := hookR_len n i; omega) (fun q hq => by have := hA q (by omega); omega) (fun q hq => by have := (hH q (by omega)).2; omega) (by omega) hl (by omega : 7 ≤ 1000000) e
def bodyPb : FS := (dropF (mutF 5 appD [.t (callF fn_p_far_end [.b 0, .b 1, .b 6, .b 4])]))
structure Pb (n i : Nat) (A : Nat → Nat) (j : Nat) (ps : List Bool) : Prop where
  len : ps.length = n
  dn : ∀ q, bt ps q = true → Tq A n i q
  up : ∀ p, p < j → n ≤ p → p ≠ n + i → p ≠ n + i + 1 → bt ps (p - n) = true
  ho : A (n + i) < j → A (n + i) ≠ n + i + 1 → bt ps i = true ∧ bt ps (i + 1) = true
theorem bt_rep (n q : Nat) : bt (List.replicate n false) q = false := by
  unfold bt
  rw [List.getD_eq_getElem?_getD, List.getElem?_replicate]
  split <;> rfl
theorem Pb_loop (h : PrR n row) (hi : i + 1 < n) (hn : n ≤ 1000) {N K : Option D} :
    ∃ ps B6, goFor (tgN 6) bodyPb ((List.range (n + n)).map natD) [some (matD n n row), some (matD n n (hookR n i)), N, K, some (blsD (List.replicate n false)), some (.lst true []), none] = some (.nx [some (matD n n row), some (matD n n (hookR n i)), N, K, some (blsD ps), some (.lst true ((hkL n i row).map natD)), B6]) ∧ Pb n i (rowF row) (2 * n) ps := by
  obtain ⟨ρ', g1, ps, B6, rfl, hp⟩ := for_inv (tg := tgN 6) (body := bodyPb) (ds := (List.range (n + n)).map natD) (ρ := [some (matD n n row), some (matD n n (hookR n i)), N, K, some (blsD (List.replicate n false)), some (.lst true []), none])
    (fun j ρ => ∃ ps B6, ρ = [some (matD n n row), some (matD n n (hookR n i)), N, K, some (blsD ps), some (.lst true (((List.range j).map (hkF (n + i) (n + i + 1) (rowF row))).map natD)), B6] ∧ Pb n i (rowF row) j ps)
    ⟨List.replicate n false, none, rfl, by simp, fun q hq => (by rw [bt_rep] at hq; cases hq), fun p hp => (by omega), fun hp => (by omega)⟩ (by
      rintro j d ρ hd ⟨ps, B6, rfl, hp⟩
      rw [List.getElem?_map] at hd
      obtain ⟨j', hj', rfl⟩ := Option.map_eq_some_iff.mp hd
      obtain ⟨hj, hjj⟩ := List.getElem?_eq_some_iff.mp hj'
      rw [List.length_range] at hj
      obtain rfl : j' = j := by simpa using hjj.symm
      obtain ⟨ps', e, w, h1, h2⟩ := far_hook_ok h hi hn (p := j') (by omega) hp.len
      have er : ((List.range (j' + 1)).map (hkF (n + i) (n + i + 1) (rowF row))).map natD = ((List.range j').map (hkF (n + i) (n + i + 1) (rowF row))).map natD ++ [.int (hkF (n + i) (n + i + 1) (rowF row) j' : Nat)] := by
        rw [List.range_succ, List.map_append, List.map_append]; rfl
      have ap := appD_e (xs := ((List.range j').map (hkF (n + i) (n + i + 1) (rowF row))).map natD) (.int (hkF (n + i) (n + i + 1) (rowF row) j' : Nat)) (by rw [List.length_map, List.length_map, List.length_range]; omega)
      have p1 : fn_p_far_end.pins = [true, true, true, true] := rfl
      have o1 := own_bls ps
      have o2 := own_bls ps'
      have nm := noOwn_matD n n row
      have nh := noOwn_matD n n (hookR n i)
      refine ⟨[some (matD n n row), some (matD n n (hookR n i)), N, K, some (blsD ps'), some (.lst true (((List.range (j' + 1)).map (hkF (n + i) (n + i + 1) (rowF row))).map natD)), some (natD j')], .inl ?_, ps', some (natD j'), rfl, w.len, fun q hq => (w.dn q hq).elim (hp.dn q) id, fun p hpj a b c => ?_, fun hlt hne => ?_⟩
      · rw [er, turn_e]
        unfold bodyPb
        have e' : fn_p_far_end.sem [matD n n row, matD n n (hookR n i), .int (j' : Nat), blsD ps] = _ := e
        generalize blsD ps = PS at *
        generalize blsD ps' = PS' at *
        generalize matD n n (hookR n i) = MH at *
        generalize matD n n row = MR at *
        generalize ((List.range j').map (hkF (n + i) (n + i + 1) (rowF row))).map natD = L at *
        rw [natD_i]
        simp [e', p1, o1, o2, nm, nh, ap]
      · by_cases hpe : p = j'
        · subst hpe; exact h2 a b c
        · exact w.up _ (hp.up p (by omega) a b c)
      · by_cases hpe : rowF row (n + i) = j'
        · exact h1 hpe.symm hne
        · have q := hp.ho (by omega) hne
          exact ⟨w.up _ q.1, w.up _ q.2⟩)
  refine ⟨ps, B6, ?_, ?_⟩
  · rw [List.length_map, List.length_range, show n + n = 2 * n by omega, hkL_map h hi] at g1
    rw [show n + n = 2 * n by omega]
    exact g1
  · rw [List.length_map, List.length_range, show n + n = 2 * n by omega] at hp
    exact hp
/-! the rings between -/
def condLr : FB := (notF (tstF (.t (opF ixD [.b 2, .b 6]))))
def bodyLr : FS := (seqF (asgF (litF (.bl true)) (tgSub 2 (.b 6))) <|
  seqF (asgF (opF subD [.t (opF ixD [.t (opF ixD [.b 0, .t (litF (.int 2))]), .t (opF addD [.b 3, .b 6])]), .b 3]) (tgN 6)) <|
  seqF (asgF (litF (.bl true)) (tgSub 2 (.b 6))) <|
  asgF (opF ixD [.t (opF ixD [.b 1, .t (litF (.int 2))]), .b 6]) (tgN 6))
def bodyLo : FS := (ifF (notF (tstF (.t (opF ixD [.b 2, .b 5])))) (seqF (augF 4 iaddD (.t (litF (.int 1)))) <|
  seqF (asgF (varF 5) (tgN 6)) <| whF FUEL condLr bodyLr) (passF))
theorem F_loose_e : F_p_loose_rings = (seqF (asgF (opF ixD [.b 0, .t (litF (.int 0))]) (tgN 3)) <|
  seqF (asgF (litF (.int 0)) (tgN 4)) <|
  seqF (forF (itRg rng1D [.t (opF ixD [.b 0, .t (litF (.int 1))])]) (tgN 5) bodyLo) <| retF (movF 4)) := rfl
theorem Lo_pass {ps : List Bool} {s : Nat} {M O N R A5 A6 : Option D} (hs : s < ps.length) (hb : bt ps s = true) : turn (tgN 5) bodyLo (natD s) [M, O, some (blsD ps), N, R, A5, A6] = some (.nx [M, O, some (blsD ps), N, R, some (natD s), A6]) := by
  have x := bl_at hs
  rw [hb] at x
  rw [turn_e]
  unfold bodyLo blsD natD
  generalize ps.map D.bl = B at *
  simp [x]
theorem Lr_one {ps : List Bool} {F : Nat} {R A5 : Option D} (h : PrR n row) (hi : i + 1 < n) (hl : ps.length = n) (hr : rowF row (n + i) = n + i + 1) (hF : 2 ≤ F) (hb : bt ps i = false) :
    ∃ B6, goWhile condLr bodyLr F [some (matD n n row), some (matD n n (hookR n i)), some (blsD ps), some (.int (n : Nat)), R, A5, some (natD i)] = some (.nx [some (matD n n row), some (matD n n (hookR n i)), some (blsD ((ps.set i true).set (i + 1) true)), some (.int (n : Nat)), R, A5, B6]) := by
  obtain ⟨F, rfl⟩ : ∃ G, F = G + 1 + 1 := ⟨F - 2, by omega⟩
  have no := noOwns_natDs row
  have nh := noOwns_natDs (hookR n i)
  have b0 := bl_at (ps := ps) (j := i) (by omega)
  rw [hb] at b0
  have x1 : atI (row.map natD) ((n : Int) + (i : Int)) = some (.int ((n : Int) + (i : Int) + 1)) := by
    have : atI (row.map natD) ((n + i : Nat) : Int) = some (.int (rowF row (n + i) : Nat)) := atI_mapN (z := 0) (by have := h.1; omega)
    rw [hr] at this
    exact this
  have x2 : atI ((hookR n i).map natD) ((i : Int) + 1) = some (.int (i : Nat)) := by
    have : atI ((hookR n i).map natD) ((i + 1 : Nat) : Int) = some (.int (rowF (hookR n i) (i + 1) : Nat)) := atI_mapN (z := 0) (by rw [hookR_len]; omega)
    rw [hookR_get hi (by omega), show hookF n i (i + 1) = i from by unfold hookF; rw [if_neg (by omega), if_pos rfl]] at this
    exact this
  have i1 : ixN n ((i : Nat) : Int) = some i := ixN_nat (by omega)
  have i2 : ixN n ((i : Int) + 1) = some (i + 1) := ixN_nat (k := i + 1) (by omega)
  have ll : (ps.map D.bl).length = n := by rw [List.length_map]; exact hl
  have nb := noOwns_bls ps
  have sb : ((ps.map D.bl).set i (.bl true)).set (i + 1) (.bl true) = ((ps.set i true).set (i + 1) true).map D.bl := by rw [set_bls, set_bls]
  have ee : (n : Int) + (i : Int) + 1 - (n : Int) = (i : Int) + 1 := by omega
  have b1 := bl_at (ps := (ps.set i true).set (i + 1) true) (j := i) (by simp only [List.length_set]; omega)
  rw [bt_set (by simp only [List.length_set]; omega), if_neg (by omega), bt_set (by omega), if_pos rfl] at b1
  refine ⟨some (natD i), ?_⟩
  have s1 : condLr [some (matD n n row), some (matD n n (hookR n i)), some (blsD ps), some (.int (n : Nat)), R, A5, some (natD i)] = some (true, [some (matD n n row), some (matD n n (hookR n i)), some (blsD ps), some (.int (n : Nat)), R, A5, some (natD i)]) := by
    unfold condLr blsD natD
    generalize ps.map D.bl = B at *
    simp [b0]
  have s2 : bodyLr [some (matD n n row), some (matD n n (hookR n i)), some (blsD ps), some (.int (n : Nat)), R, A5, some (natD i)] = some (.nx [some (matD n n row), some (matD n n (hookR n i)), some (blsD ((ps.set i true).set (i + 1) true)), some (.int (n : Nat)), R, A5, some (natD i)]) := by
    unfold bodyLr blsD
    rw [← sb]
    unfold matD natD
    have e0 : row.map natD = row.map (fun i => D.int (i : Nat)) := rfl
    have e1 : (hookR n i).map natD = (hookR n i).map (fun i => D.int (i : Nat)) := rfl
    rw [← e0, ← e1]
    generalize ps.map D.bl = B at *
    generalize (hookR n i).map natD = H at *
    generalize row.map natD = A at *
    simp [no, nh, x1, x2, i1, i2, ll, ee]
  have s3 : condLr [some (matD n n row), some (matD n n (hookR n i)), some (blsD ((ps.set i true).set (i + 1) true)), some (.int (n : Nat)), R, A5, some (natD i)] = some (false, [some (matD n n row), some (matD n n (hookR n i)), some (blsD ((ps.set i true).set (i + 1) true)), some (.int (n : Nat)), R, A5, some (natD i)]) := by
    unfold condLr blsD natD
    generalize ((ps.set i true).set (i + 1) true).map D.bl = B at *
    simp [b1]
  exact (wh_t s1 s2).trans (wh_f s3)
theorem loose_ok {ps : List Bool} (h : PrR n row) (hi : i + 1 < n) (hn : n ≤ 1000) (hp : Pb n i (rowF row) (2 * n) ps) :
    ∃ ps', fn_p_loose_rings.sem [matD n n row, matD n n (hookR n i), blsD ps] = some (.int (hkN n i row : Nat), [some (matD n n row), some (matD n n (hookR n i)), some (blsD ps')]) := by
  have hl := hp.len
  have tr : ∀ q, q < n → q ≠ i → q ≠ i + 1 → bt ps q = true := fun q hq a b => by
    have := hp.up (n + q) (by omega) (by omega) (by omega) (by omega)
    rwa [show n + q - n = q by omega] at this
  have r1 := rng1_nat (u := n) (by omega)
  have key : ∃ ps' B5 B6, goFor (tgN 5) bodyLo ((List.range n).map natD) [some (matD n n row), some (matD n n (hookR n i)), some (blsD ps), some (.int (n : Nat)), some (.int 0), none, none] = some (.nx [some (matD n n row), some (matD n n (hookR n i)), some (blsD ps'), some (.int (n : Nat)), some (.int (hkN n i row : Nat)), B5, B6]) := by
    by_cases c : rowF row (n + i) = n + i + 1
    · have e1 : hkN n i row = 1 := if_pos c
      rw [e1]
      have nb : bt ps i = false := by
        cases hb : bt ps i with
        | false => rfl
        | true => rcases hp.dn i hb with z | z
                  · exact absurd rfl z.1
                  · exact absurd c z
      obtain ⟨P2, hP2⟩ : ∃ P2, P2 = (ps.set i true).set (i + 1) true := ⟨_, rfl⟩
      have l2 : P2.length = n := by rw [hP2]; simp only [List.length_set]; exact hl
      have tr2 : ∀ q, q < n → bt P2 q = true := fun q hq => by
        rw [hP2, bt_set (by simp only [List.length_set]; omega)]
        split
        · rfl
        · rw [bt_set (by omega)]
          split
          · rfl
          · exact tr q hq (by assumption) (by assumption)
      obtain ⟨ρ', g1, B5, B6, e⟩ := for_inv (tg := tgN 5) (body := bodyLo) (ds := (List.range n).map natD) (ρ := [some (matD n n row), some (matD n n (hookR n i)), some (blsD ps), some (.int (n : Nat)), some (.int 0), none, none])
        (fun j ρ => ∃ B5 B6, if j ≤ i then ρ = [some (matD n n row), some (matD n n (hookR n i)), some (blsD ps), some (.int (n : Nat)), some (.int 0), B5, B6] else ρ = [some (matD n n row), some (matD n n (hookR n i)), some (blsD P2), some (.int (n : Nat)), some (.int 1), B5, B6])
        ⟨none, none, by rw [if_pos (by omega)]⟩ (by
          rintro j d ρ hd ⟨B5, B6, hρ⟩
          rw [List.getElem?_map] at hd
          obtain ⟨j', hj', rfl⟩ := Option.map_eq_some_iff.mp hd
          obtain ⟨hj, hjj⟩ := List.getElem?_eq_some_iff.mp hj'
          rw [List.length_range] at hj
          obtain rfl : j' = j := by simpa using hjj.symm
          by_cases cj : j' ≤ i
          · rw [if_pos cj] at hρ
            subst hρ
            by_cases cj2 : j' = i
            · subst cj2
              obtain ⟨C6, g⟩ := Lr_one (F := FUEL) (ps := ps) (R := some (.int 1)) (A5 := some (natD j')) h hi hl c (by show 2 ≤ 1000000; omega) nb
              rw [← hP2] at g
              refine ⟨[some (matD n n row), some (matD n n (hookR n j')), some (blsD P2), some (.int (n : Nat)), some (.int 1), some (natD j'), C6], .inl ?_, some (natD j'), C6, by rw [if_neg (by omega)]⟩
              have x := bl_at (ps := ps) (j := j') (by omega)
              rw [nb] at x
              rw [turn_e]
              unfold bodyLo
              unfold natD at g ⊢
              unfold blsD at g ⊢
              generalize P2.map D.bl = B2 at *
              generalize ps.map D.bl = B at *
              simp [x, g]
            · exact ⟨_, .inl (Lo_pass (by omega) (tr j' hj cj2 (by omega))), some (natD j'), B6, by rw [if_pos (by omega)]⟩
          · rw [if_neg cj] at hρ
            subst hρ
            exact ⟨_, .inl (Lo_pass (by omega) (tr2 j' hj)), some (natD j'), B6, by rw [if_neg (by omega)]⟩)
      rw [List.length_map, List.length_range, if_neg (by omega)] at e
      subst e
      exact ⟨P2, B5, B6, g1⟩
    · have e1 : hkN n i row = 0 := if_neg c
      rw [e1]
      have ho := hp.ho (h.2 (n + i) (by omega)).1 c
      have all : ∀ q, q < n → bt ps q = true := fun q hq => by
        by_cases a : q = i
        · rw [a]; exact ho.1
        · by_cases b : q = i + 1
          · rw [b]; exact ho.2
          · exact tr q hq a b
      obtain ⟨ρ', g1, B5, B6, rfl⟩ := for_inv (tg := tgN 5) (body := bodyLo) (ds := (List.range n).map natD) (ρ := [some (matD n n row), some (matD n n (hookR n i)), some (blsD ps), some (.int (n : Nat)), some (.int 0), none, none])
        (fun j ρ => ∃ B5 B6, ρ = [some (matD n n row), some (matD n n (hookR n i)), some (blsD ps), some (.int (n : Nat)), some (.int 0), B5, B6])
        ⟨none, none, rfl⟩ (by
          rintro j d ρ hd ⟨B5, B6, rfl⟩
          rw [List.getElem?_map] at hd
          obtain ⟨j', hj', rfl⟩ := Option.map_eq_some_iff.mp hd
          have hj := (List.getElem?_eq_some_iff.mp hj').1
          rw [List.length_range] at hj
          have hjj : j' < n := by
            obtain ⟨_, hjj⟩ := List.getElem?_eq_some_iff.mp hj'
            rw [List.getElem_range] at hjj
            omega
          exact ⟨_, .inl (Lo_pass (by omega) (all j' hjj)), some (natD j'), B6, rfl⟩)
      exact ⟨ps, B5, B6, g1⟩
  obtain ⟨ps', B5, B6, g⟩ := key
  refine ⟨ps', ?_⟩
  have nm : noOwns (row.map natD) = true := noOwns_natDs row
  unfold fn_p_loose_rings
  rw [bodyFn_sem, F_loose_e]
  unfold matD at *
  generalize blsD ps = PS at *
  generalize blsD ps' = PS' at *
  generalize (hookR n i).map natD = H at *
  generalize row.map natD = A at *
  generalize (List.range n).map natD = RG at *
  generalize hkN n i row = hk at *
  clear hp
  simp [nm, r1, g]
theorem flat_rep : ∀ n : Nat, (List.replicate n [D.bl false]).flatten = (List.replicate n false).map D.bl
  | 0 => rfl
  | n + 1 => by
    rw [List.replicate_succ, List.flatten_cons, flat_rep n, List.replicate_succ, List.map_cons]; rfl
theorem F_put_e : F_p_put_behind = (seqF (parF [2, 3] [.t (opF ixD [.b 0, .t (litF (.int 0))]), .t (opF ixD [.b 1, .t (litF (.int 1))])]) <|
  seqF (asgF (opF mulD [.t (lstF [.t (litF (.bl false))]), .t (opF ixD [.b 0, .t (litF (.int 1))])]) (tgN 4)) <|
  seqF (asgF (lstF []) (tgN 5)) <|
  seqF (forF (itRg rng1D [.t (opF addD [.b 2, .b 3])]) (tgN 6) bodyPb) <|
  retF (tupF [.t (callF fn_p_loose_rings [.b 0, .b 1, .b 4]), .t (movF 2), .t (movF 3), .t (opF tupleD [.b 5])])) := rfl
theorem put_ok (h : PrR n row) (hi : i + 1 < n) (hn : n ≤ 1000) : fn_p_put_behind.sem [matD n n row, matD n n (hookR n i)] = some (.tup [.int (hkN n i row : Nat), .int (n : Nat), .int (n : Nat), .tup ((hkL n i row).map natD)], [some (matD n n row), some (matD n n (hookR n i))]) := by
  obtain ⟨ps, B6, g, hp⟩ := Pb_loop h hi hn (N := some (.int (n : Nat))) (K := some (.int (n : Nat)))
  obtain ⟨ps', e⟩ := loose_ok h hi hn hp
  have ml : mulD [.lst true [.bl false], .int (n : Nat)] = some (blsD (List.replicate n false)) := by
    rw [mulD_n (by simp) (by omega) (by omega) (by simp; omega), Int.toNat_natCast]
    exact congrArg (fun z => some (D.lst true z)) (flat_rep n)
  have r1 : rng1D [.int ((n : Int) + (n : Int))] = some ((List.range (n + n)).map natD) := rng1_nat (u := n + n) (by omega)
  have p1 : fn_p_loose_rings.pins = [true, true, true] := rfl
  have o1 := own_bls ps
  have o2 := own_bls ps'
  have nr := noOwns_natDs row
  have nh := noOwns_natDs (hookR n i)
  have nl := noOwns_natDs (hkL n i row)
  have tl := tupleD_l (o := true) nl
  unfold fn_p_put_behind
  rw [bodyFn_sem, F_put_e]
  unfold matD at *
  generalize blsD (List.replicate n false) = P0 at *
  generalize blsD ps = PS at *
  generalize blsD ps' = PS' at *
  generalize (hkL n i row).map natD = L at *
  generalize (hookR n i).map natD = H at *
  generalize row.map natD = A at *
  generalize (List.range (n + n)).map natD = RG at *
  simp [nr, nh, nl, ml, r1, g, e, p1, o1, o2, tl, small_le (n := 0) (by omega), small_le (n := 1) (by omega), small_le (n := 4) (by omega)]
end
theorem valD_0 (n : Nat) (s : Nat × List Nat) : ixD [valD n s, .int 0] = some (.int (s.1 : Nat)) := rfl
theorem valD_1 (n : Nat) (s : Nat × List Nat) : ixD [valD n s, .int 1] = some (matD n n s.2) := by
  unfold valD
  rw [ixD_t, atI_1, bd_some, ownK_e, noOwn_matD]
  rfl
theorem noOwn_valD (n : Nat) (s : Nat × List Nat) : noOwn (valD n s) = true := by unfold valD; simp
theorem chained_ok {n i : Nat} {s : Nat × List Nat} (h : PrR n s.2) (hi : i + 1 < n) (hn : n ≤ 1000) : fn_p_chained.sem [valD n s, valD n (0, hookR n i)] = some (valD n (stepV n s i), [some (valD n s), some (valD n (0, hookR n i))]) := by
  have pu := put_ok h hi hn
  have p1 : fn_p_put_behind.pins = [true, true] := rfl
  have a0 := valD_0 n s
  have a1 := valD_1 n s
  have b0 : ixD [valD n (0, hookR n i), .int 0] = some (.int 0) := valD_0 n (0, hookR n i)
  have b1 := valD_1 n (0, hookR n i)
  have nl := noOwns_natDs (hkL n i s.2)
  have nm := noOwn_matD n n s.2
  have nh := noOwn_matD n n (hookR n i)
  have er : valD n (stepV n s i) = .tup [.int ((s.1 : Int) + (hkN n i s.2 : Nat)), .tup [.int (n : Nat), .int (n : Nat), .tup ((hkL n i s.2).map natD)]] := rfl
  rw [er]
  unfold fn_p_chained F_p_chained
  rw [bodyFn_sem]
  generalize valD n s = VA at *
  generalize valD n (0, hookR n i) = VB at *
  generalize (hkL n i s.2).map natD = L at *
  have b1' : ixD [VB, .int 1] = some (matD n n (hookR n i)) := b1
  generalize matD n n s.2 = M1 at *
  generalize matD n n (hookR n i) = M2 at *
  simp [pu, p1, a0, a1, b0, b1', nl, nm, nh, small_le (n := 2) (by omega), small_le (n := 3) (by omega)]
theorem p_straight_ok {n : Nat} (h1 : 1 ≤ n) (hn : n ≤ 1000) : fn_p_straight.sem [.int (n : Nat)] = some (matD n n (strR n), [some (.int (n : Nat))]) := by
  have st := straight_ok hn
  have c1 : ¬ ((n : Int) < 1) := by omega
  have cs : fn_p_check_size.sem [.int (n : Nat)] = some (.non, [some (.int (n : Nat))]) := by
    unfold fn_p_check_size F_p_check_size
    rw [bodyFn_sem]
    simp [c1]
  have p1 : fn_p_check_size.pins = [true] := rfl
  unfold fn_straight F_straight at st
  rw [bodyFn_sem] at st
  have key : ∀ d, (bd (retF (tupF [.t (varF 0), .t (varF 0), .t (opF tupleD [.t (opF addD [.t (opF (lrgD rng2D) [.b 0, .t (opF mulD [.t (litF (.int 2)), .b 0])]), .t (opF (lrgD rng1D) [.b 0])])])]) [some (.int (n : Nat))]) (finK [true])) = some (d, [some (.int (n : Nat))]) → fn_p_straight.sem [.int (n : Nat)] = some (d, [some (.int (n : Nat))]) := fun d hd => by
    obtain ⟨T, hT⟩ : ∃ T : FS, T = retF (tupF [.t (varF 0), .t (varF 0), .t (opF tupleD [.t (opF addD [.t (opF (lrgD rng2D) [.b 0, .t (opF mulD [.t (litF (.int 2)), .b 0])]), .t (opF (lrgD rng1D) [.b 0])])])]) := ⟨_, rfl⟩
    rw [← hT] at hd
    unfold fn_p_straight F_p_straight
    rw [bodyFn_sem, ← hT]
    simp [cs, p1, hd]
  refine key _ ?_
  simpa using st
theorem hook_row {n i : Nat} : (hookR n i).map natD = (((((strR n).map natD).set i (.int ((i : Int) + 1))).set (i + 1) (.int (i : Nat))).set (n + i) (.int ((n : Int) + (i : Int) + 1))).set (n + i + 1) (.int ((n : Int) + (i : Int))) := by
  unfold hookR
  rw [List.map_set, List.map_set, List.map_set, List.map_set]
  rfl
theorem hook_ok {n i : Nat} (hi : i + 1 < n) (hn : n ≤ 1000) : fn_p_hook.sem [.int (n : Nat), .int (i : Nat)] = some (matD n n (hookR n i), [some (.int (n : Nat)), some (.int (i : Nat))]) := by
  have st := p_straight_ok (n := n) (by omega) hn
  have c1 : ¬ ((n : Int) < 1) := by omega
  have cs : fn_p_check_size.sem [.int (n : Nat)] = some (.non, [some (.int (n : Nat))]) := by
    unfold fn_p_check_size F_p_check_size
    rw [bodyFn_sem]
    simp [c1]
  have p1 : fn_p_check_size.pins = [true] := rfl
  have p2 : fn_p_straight.pins = [true] := rfl
  have c2 : ¬ ((n : Int) - 2 < (i : Int)) := by omega
  have c3 : ¬ ((i : Int) < 0) := by omega
  have no := noOwns_natDs (strR n)
  have nh := noOwns_natDs (hookR n i)
  have li : listD [.tup ((strR n).map natD)] = some (.lst true ((strR n).map natD)) := if_pos no
  have tl := tupleD_l (o := true) nh
  have ll : ((strR n).map natD).length = 2 * n := by rw [List.length_map]; exact strR_len n
  have i1 : ixN (2 * n) (i : Int) = some i := ixN_nat (by omega)
  have i2 : ixN (2 * n) ((i : Int) + 1) = some (i + 1) := ixN_nat (k := i + 1) (by omega)
  have i3 : ixN (2 * n) ((n : Int) + (i : Int)) = some (n + i) := ixN_nat (k := n + i) (by omega)
  have i4 : ixN (2 * n) ((n : Int) + (i : Int) + 1) = some (n + i + 1) := ixN_nat (k := n + i + 1) (by omega)
  unfold fn_p_hook F_p_hook
  rw [bodyFn_sem]
  unfold matD at *
  rw [hook_row] at nh tl ⊢
  generalize (strR n).map natD = X at *
  simp [cs, p1, p2, st, c2, c3, no, nh, li, tl, ll, i1, i2, i3, i4, small_le (n := 2) (by omega), small_le (n := 3) (by omega)]
def bodyVo : FS := (asgF (callF fn_p_chained [.b 2, .t (tupF [.t (litF (.int 0)), .t (callF fn_p_hook [.b 0, .b 3])])]) (tgN 2))
theorem F_value_of_e : F_p_value_of = (seqF (dropF (opF (starD fn_p_check_words 1) [.b 0, .b 1])) <|
  seqF (asgF (tupF [.t (litF (.int 0)), .t (callF fn_p_straight [.b 0])]) (tgN 2)) <|
  seqF (forF (itSeq (varF 1)) (tgN 3) bodyVo) <| retF (movF 2)) := rfl
theorem Vo_loop {n : Nat} {W : Option D} (hn : n ≤ 1000) : ∀ (w : List Nat) (s : Nat × List Nat) (A3 : Option D), PrR n s.2 → (∀ x ∈ w, x + 1 < n) →
    ∃ B3, goFor (tgN 3) bodyVo (w.map natD) [some (.int (n : Nat)), W, some (valD n s), A3] = some (.nx [some (.int (n : Nat)), W, some (valD n (valF n s w)), B3])
  | [], s, A3, _, _ => ⟨A3, rfl⟩
  | x :: w, s, A3, h, hw => by
    have hx := hw x (by simp)
    obtain ⟨B3, g⟩ := Vo_loop (W := W) hn w (stepV n s x) (some (natD x)) (hkL_pr h hx) fun y hy => hw y (by simp [hy])
    refine ⟨B3, ?_⟩
    have hk := hook_ok hx hn
    have ch := chained_ok h hx hn
    have p1 : fn_p_hook.pins = [true, true] := rfl
    have p2 : fn_p_chained.pins = [true, true] := rfl
    have nv := noOwn_valD n s
    have nv2 := noOwn_valD n (stepV n s x)
    have nh := noOwn_matD n n (hookR n x)
    have ev : D.tup [.int 0, matD n n (hookR n x)] = valD n (0, hookR n x) := rfl
    have t : turn (tgN 3) bodyVo (natD x) [some (.int (n : Nat)), W, some (valD n s), A3] = some (.nx [some (.int (n : Nat)), W, some (valD n (stepV n s x)), some (natD x)]) := by
      rw [turn_e]
      unfold bodyVo natD
      generalize valD n (stepV n s x) = V2 at *
      generalize valD n (0, hookR n x) = VH at *
      generalize valD n s = V1 at *
      generalize matD n n (hookR n x) = MH at *
      simp [hk, ch, p1, p2, nv, nv2, nh, ev, small_le (n := 2) (by omega)]
    rw [List.map_cons, goFor_cons, t, bd_some, loopK_nx, g]
    rfl
theorem value_of_ok {n : Nat} {w : List Nat} (h1 : 1 ≤ n) (hn : n ≤ 1000) (hw : ∀ x ∈ w, x + 1 < n) : fn_p_value_of.sem [.int (n : Nat), wordD w] = some (valD n (valW n w), [some (.int (n : Nat)), some (wordD w)]) := by
  obtain ⟨B3, g⟩ := Vo_loop (W := some (wordD w)) hn w (0, strR n) none (strR_pr n) hw
  have cw := star_words (n := n) (ws := [w]) h1 (fun v hv => by rw [List.mem_singleton.mp hv]; exact hw) (by simp)
  simp only [List.map_cons, List.map_nil] at cw
  have st := p_straight_ok h1 hn
  have p1 : fn_p_straight.pins = [true] := rfl
  have nw := noOwns_natDs w
  have fz := freezes_natDs w
  have ns := noOwn_matD n n (strR n)
  have ev : D.tup [.int 0, matD n n (strR n)] = valD n (0, strR n) := rfl
  have nv := noOwn_valD n (valW n w)
  have g' : goFor (tgN 3) bodyVo (w.map natD) [some (.int (n : Nat)), some (wordD w), some (valD n (0, strR n)), none] = some (.nx [some (.int (n : Nat)), some (wordD w), some (valD n (valW n w)), B3]) := g
  unfold fn_p_value_of
  rw [bodyFn_sem, F_value_of_e]
  unfold wordD at *
  generalize valD n (valW n w) = V2 at *
  generalize valD n (0, strR n) = V1 at *
  generalize matD n n (strR n) = MS at *
  generalize w.map natD = W at *
  simp [cw, st, p1, nw, fz, ns, ev, g', small_le (n := 2) (by omega)]
theorem deq_mat (n : Nat) (r q : List Nat) : deq (matD n n r) (matD n n q) = decide (r = q) := by
  unfold deq matD
  simp only [pyD, pyDs, PyData.eqv, PyData.eqvAll, Bool.and_true]
  rw [eqvAll_nats]
  simp
theorem eqOk_mat (n : Nat) (r : List Nat) : eqOk (matD n n r) = true := (EqB.tup (k := 1) fun x hx => by
  simp only [List.mem_cons, List.not_mem_nil, or_false] at hx
  rcases hx with rfl | rfl | rfl
  · exact EqB.int _
  · exact EqB.int _
  · exact EqB.tup (k := 0) (eqB_nats r)).ok (by omega)
def alk (n : Nat) (a b : List Nat) : Bool := decide ((valW n a).2 = (valW n b).2)
theorem alk_symm (n : Nat) (a b : List Nat) : alk n b a = alk n a b := by
  unfold alk
  by_cases h : (valW n a).2 = (valW n b).2
  · rw [decide_eq_true h, decide_eq_true h.symm]
  · rw [decide_eq_false h, decide_eq_false fun z => h z.symm]
theorem alk_refl (n : Nat) (a : List Nat) : alk n a a = true := decide_eq_true rfl
end VS
set_option Elab.async false
set_option linter.all false
set_option maxRecDepth 100000
namespace VS
open PySem PySem.Spec PyProof.Rows L2 RZ
/-! ### dicts of whole numbers, plainly -/
theorem valI_nil (x : Int) : valI [] x = none := rfl
theorem valI_cons (p : Int × Int) (r : List (Int × Int)) (x : Int) : valI (p :: r) x = if p.1 = x then some p.2 else valI r x := by
  unfold valI
  by_cases h : p.1 = x
  · rw [List.find?_cons_of_pos (by simp [h]), if_pos h]; rfl
  · rw [List.find?_cons_of_neg (by simp [h]), if_neg h]
theorem valI_app (x : Int) (p : Int × Int) : ∀ d : List (Int × Int), valI (d ++ [p]) x = (valI d x).or (if p.1 = x then some p.2 else none)
  | [] => by rw [List.nil_append, valI_cons, valI_nil]; simp
  | q :: d => by
    rw [List.cons_append, valI_cons, valI_cons, valI_app x p d]
    split <;> simp
theorem valI_none {d : List (Int × Int)} {k : Int} (h : ¬ (d.any fun p => decide (p.1 = k)) = true) : valI d k = none := by
  unfold valI
  rw [List.find?_eq_none.mpr, Option.map_none]
  intro p hp z
  exact h (List.any_eq_true.mpr ⟨p, hp, z⟩)
theorem valI_map {k v x : Int} : ∀ d : List (Int × Int), (d.any fun p => decide (p.1 = k)) = true ∨ x ≠ k → valI (d.map fun p => if p.1 = k then (p.1, v) else p) x = if x = k then some v else valI d x
  | [], h => by
    rcases h with h | h
    · simp at h
    · rw [if_neg h]; rfl
  | p :: d, h => by
    rw [List.map_cons, valI_cons, valI_cons]
    by_cases c : p.1 = k
    · rw [if_pos c]
      by_cases c2 : x = k
      · subst c2; rw [if_pos c, if_pos rfl]
      · have : ¬ p.1 = x := fun z => c2 (by rw [← z, c])
        rw [if_neg this, if_neg this, if_neg c2, valI_map d (.inr c2), if_neg c2]
    · rw [if_neg c]
      by_cases c2 : x = k
      · subst c2
        rw [if_neg c, if_neg c, if_pos rfl, valI_map d ?_, if_pos rfl]
        rcases h with h | h
        · rw [List.any_cons, Bool.or_eq_true] at h
          rcases h with h | h
          · exact absurd (of_decide_eq_true h) c
          · exact .inl h
        · exact absurd rfl h
      · rw [if_neg c2, valI_map d (.inr c2), if_neg c2]
theorem valI_put (d : List (Int × Int)) (k v x : Int) : valI (putI d k v) x = if x = k then some v else valI d x := by
  unfold putI
  by_cases h : (d.any fun p => decide (p.1 = k)) = true
  · rw [if_pos h, valI_map d (.inl h)]
  · rw [if_neg h, valI_app]
    by_cases c : x = k
    · subst c; rw [valI_none h, if_pos rfl]; simp
    · rw [if_neg (fun z => c z.symm), if_neg c]; simp
theorem valI_drop (k x : Int) : ∀ d : List (Int × Int), valI (dropI d k) x = if x = k then none else valI d x
  | [] => by simp [dropI, valI]
  | p :: d => by
    have ih := valI_drop k x d
    unfold dropI at ih ⊢
    by_cases c : p.1 = k
    · rw [List.filter_cons_of_neg (by simp [c]), ih, valI_cons]
      by_cases c2 : x = k
      · rw [if_pos c2, if_pos c2]
      · rw [if_neg c2, if_neg c2, if_neg (fun z => c2 (by rw [← z, c]))]
    · rw [List.filter_cons_of_pos (by simp [c]), valI_cons, ih, valI_cons]
      by_cases c2 : x = k
      · rw [if_pos c2, if_pos c2, if_neg (fun z => c (by rw [z, c2]))]
      · rw [if_neg c2, if_neg c2]
theorem len_put (d : List (Int × Int)) (k v : Int) : (putI d k v).length ≤ d.length + 1 := by
  unfold putI; split <;> simp
theorem len_drop (d : List (Int × Int)) (k : Int) : (dropI d k).length ≤ d.length := List.length_filter_le _ _
/-- what a dict of pegs holds -/
def DI (d : List (Int × Int)) (S : Nat → Option Nat) : Prop := ∀ x : Nat, valI d (x : Nat) = (S x).map fun y => ((y : Nat) : Int)
theorem DI.put {d : List (Int × Int)} {S : Nat → Option Nat} (h : DI d S) (k v : Nat) : DI (putI d (k : Nat) (v : Nat)) fun x => if x = k then some v else S x := fun x => by
  rw [valI_put, h x]
  by_cases c : x = k
  · subst c; simp
  · rw [if_neg (by omega)]; simp [c]
theorem DI.drop {d : List (Int × Int)} {S : Nat → Option Nat} (h : DI d S) (k : Nat) : DI (dropI d (k : Nat)) fun x => if x = k then none else S x := fun x => by
  rw [valI_drop, h x]
  by_cases c : x = k
  · subst c; simp
  · rw [if_neg (by omega)]; simp [c]
theorem DI.get {d : List (Int × Int)} {S : Nat → Option Nat} (h : DI d S) {x y : Nat} (e : S x = some y) : valI d (x : Nat) = some ((y : Nat) : Int) := by rw [h x, e]; rfl
theorem DI.congr {d : List (Int × Int)} {S T : Nat → Option Nat} (h : DI d S) (e : ∀ x, S x = T x) : DI d T := fun x => by rw [h x, e x]
/-! ### the law's own joining -/
def bodyB1 : FS := asgF (opF ixD [.t (opF ixD [.b 0, .t (litF (.int 2))]), .b 6]) (tgPut 5 (.b 6))
def bodyB2 : FS := asgF (opF addD [.t (opF addD [.b 2, .b 3]), .t (opF ixD [.t (opF ixD [.b 1, .t (litF (.int 2))]), .b 6])]) (tgPut 5 (.t (opF addD [.t (opF addD [.b 2, .b 3]), .b 6])))
def bodyB3 : FS := seqF (parF [8, 9] [.t (dpopF 5 (.t (opF addD [.b 2, .b 6]))), .t (dpopF 5 (.t (opF addD [.t (opF addD [.b 2, .b 3]), .b 6])))]) <|
  ifF (bT (opF (eqD) [.b 8, .t (opF addD [.t (opF addD [.b 2, .b 3]), .b 6])])) (asgF (opF addD [.b 7, .t (litF (.int 1))]) (tgN 7)) (seqF (asgF (varF 9) (tgPut 5 (.b 8))) <|
  asgF (varF 8) (tgPut 5 (.b 9)))
theorem F_behind_e : F_behind = (
  seqF (asgF (tupF [.t (opF ixD [.b 0, .t (litF (.int 0))]), .t (opF ixD [.b 0, .t (litF (.int 1))]), .t (opF ixD [.b 1, .t (litF (.int 1))])]) (tgT 3 (tgCons (tgN 2) (tgCons (tgN 3) (tgCons (tgN 4) (tgNil)))))) <|
  seqF (asgF (dctF) (tgN 5)) <|
  seqF (forF (itRg rng1D [.t (opF addD [.b 2, .b 3])]) (tgN 6) bodyB1) <|
  seqF (forF (itRg rng1D [.t (opF addD [.b 3, .b 4])]) (tgN 6) bodyB2) <|
  seqF (asgF (litF (.int 0)) (tgN 7)) <|
  seqF (forF (itRg rng1D [.b 3]) (tgN 6) bodyB3) <|
  seqF (asgF (opF addD [.t (lcF [6] (itRg rng1D [.b 2]) (tgN 6) (yesF) (opF dgetD [.b 5, .b 6])), .t (lcF [6] (itRg rng1D [.b 4]) (tgN 6) (yesF) (opF dgetD [.b 5, .t (opF addD [.t (opF addD [.b 2, .t (opF mulD [.t (litF (.int 2)), .b 3])]), .b 6])]))]) (tgN 10)) <|
  retF (tupF [.t (movF 7), .t (tupF [.t (varF 2), .t (movF 4), .t (opF tupleD [.t (lcF [11] (itSeq (varF 10)) (tgN 11) (yesF) (ifE (bT (opF (ltD) [.b 11, .b 2])) (varF 11) (opF subD [.b 11, .t (opF mulD [.t (litF (.int 2)), .b 3])])))])])])) := rfl
section
variable {n m k : Nat} {ra rh : List Nat}
/-- the law's environment -/
def envB (n m k : Nat) (ra rh : List Nat) (d : List (Int × Int)) (p r x y : Option D) : Env := [some (matD n m ra), some (matD m k rh), some (.int (n : Nat)), some (.int (m : Nat)), some (.int (k : Nat)), some (.dct true d), p, r, x, y, none, none]
theorem row_at {r : List Nat} {p : Nat} (h : p < r.length) : atI (r.map natD) (p : Nat) = some (.int (rowF r p : Nat)) := by
  rw [atI_mapN (f := natD) (z := 0) h]; rfl
theorem mat_2 (n m : Nat) (r : List Nat) : ixD [matD n m r, .int 2] = some (.tup (r.map natD)) := by
  have no := noOwns_natDs r
  show (bd (atI _ 2) ownK) = _
  unfold natD at no ⊢
  simp [no, atI]
theorem B1_loop (ha : ra.length = n + m) (hs : n + m ≤ 1000) {p0 : Option D} : ∃ d p, goFor (tgN 6) bodyB1 ((List.range (n + m)).map natD) (envB n m k ra rh [] p0 none none none) = some (.nx (envB n m k ra rh d p none none none)) ∧ DI d (fun x => if x < n + m then some (rowF ra x) else none) ∧ d.length ≤ n + m := by
  obtain ⟨ρ', g1, d, p, rfl, i1, i2⟩ := for_inv (tg := tgN 6) (body := bodyB1) (ds := (List.range (n + m)).map natD) (ρ := envB n m k ra rh [] p0 none none none)
    (fun i ρ => ∃ d p, ρ = envB n m k ra rh d p none none none ∧ DI d (fun x => if x < i then some (rowF ra x) else none) ∧ d.length ≤ i)
    ⟨[], p0, rfl, fun x => by simp [valI], Nat.zero_le _⟩ (by
      rintro i dd ρ hd ⟨d, p, rfl, i1, i2⟩
      have hi : i < n + m := by
        have := (List.getElem?_eq_some_iff.mp hd).1
        simpa using this
      have hd : dd = natD i := by
        rw [List.getElem?_map, List.getElem?_range hi] at hd
        simpa using hd.symm
      subst hd
      have a1 := row_at (r := ra) (p := i) (by omega)
      have m2 := mat_2 n m ra
      have no := noOwns_natDs ra
      have ls : decide (d.length < smallL) = true := decide_eq_true (Nat.lt_of_le_of_lt i2 (Nat.lt_of_lt_of_le (show i < 100000 by omega) (Nat.le_refl _)))
      refine ⟨envB n m k ra rh (putI d (i : Nat) (rowF ra i : Nat)) (some (natD i)) none none none, .inl ?_, _, _, rfl, (i1.put i (rowF ra i)).congr fun x => ?_, ?_⟩
      · rw [turn_e]
        unfold bodyB1 envB natD
        unfold natD at a1 m2 no
        generalize ra.map (fun i : Nat => D.int (i : Nat)) = X at *
        generalize matD n m ra = M at *
        generalize rowF ra i = y at *
        simp [m2, a1, no, ls]
      · by_cases c : x = i
        · subst c; simp
        · rw [if_neg c]
          by_cases c2 : x < i
          · rw [if_pos c2, if_pos (by omega)]
          · rw [if_neg c2, if_neg (by omega)]
      · have := len_put d (i : Nat) (rowF ra i : Nat); omega)
  rw [List.length_map, List.length_range] at i1 i2
  exact ⟨d, p, g1, i1, i2⟩
theorem B2_loop (ha : ra.length = n + m) (hh : rh.length = m + k) (hs : n + 2 * m + k ≤ 1000) {d0 : List (Int × Int)} {p0 : Option D} (h0 : DI d0 (fun x => if x < n + m then some (rowF ra x) else none)) (hl : d0.length ≤ n + m) : ∃ d p, goFor (tgN 6) bodyB2 ((List.range (m + k)).map natD) (envB n m k ra rh d0 p0 none none none) = some (.nx (envB n m k ra rh d p none none none)) ∧ DI d (fun x => if x < n + 2 * m + k then some (e0 (rowF ra) (rowF rh) n m k x) else none) ∧ d.length ≤ n + 2 * m + k := by
  obtain ⟨ρ', g1, d, p, rfl, i1, i2⟩ := for_inv (tg := tgN 6) (body := bodyB2) (ds := (List.range (m + k)).map natD) (ρ := envB n m k ra rh d0 p0 none none none)
    (fun i ρ => ∃ d p, ρ = envB n m k ra rh d p none none none ∧ DI d (fun x => if x < n + m + i then some (e0 (rowF ra) (rowF rh) n m (m + k) x) else none) ∧ d.length ≤ n + m + i)
    ⟨d0, p0, rfl, h0.congr fun x => by
      by_cases c : x < n + m
      · rw [if_pos c, if_pos (by omega)]; unfold e0; rw [if_pos c]
      · rw [if_neg c, if_neg (by omega)], hl⟩ (by
      rintro i dd ρ hd ⟨d, p, rfl, i1, i2⟩
      have hi : i < m + k := by
        have := (List.getElem?_eq_some_iff.mp hd).1
        simpa using this
      have hd : dd = natD i := by
        rw [List.getElem?_map, List.getElem?_range hi] at hd
        simpa using hd.symm
      subst hd
      have a1 := row_at (r := rh) (p := i) (by omega)
      have m2 := mat_2 m k rh
      have no := noOwns_natDs rh
      have ls : decide (d.length < smallL) = true := decide_eq_true (Nat.lt_of_le_of_lt i2 (Nat.lt_of_lt_of_le (show n + m + i < 100000 by omega) (Nat.le_refl _)))
      refine ⟨envB n m k ra rh (putI d (n + m + i : Nat) (n + m + rowF rh i : Nat)) (some (natD i)) none none none, .inl ?_, _, _, rfl, (i1.put (n + m + i) (n + m + rowF rh i)).congr fun x => ?_, ?_⟩
      · rw [turn_e]
        have c1 : ((n + m + i : Nat) : Int) = (n : Int) + (m : Int) + (i : Int) := by omega
        have c2 : ((n + m + rowF rh i : Nat) : Int) = (n : Int) + (m : Int) + (rowF rh i : Int) := by omega
        rw [c1, c2]
        unfold bodyB2 envB natD
        unfold natD at a1 m2 no
        generalize rh.map (fun i : Nat => D.int (i : Nat)) = X at *
        generalize matD m k rh = M at *
        generalize rowF rh i = y at *
        simp [m2, a1, no, ls]
      · by_cases c : x = n + m + i
        · subst c; rw [if_pos rfl, if_pos (by omega)]; unfold e0; rw [if_neg (by omega), if_pos (by omega), show n + m + i - (n + m) = i by omega]
        · rw [if_neg c]
          by_cases c2 : x < n + m + i
          · rw [if_pos c2, if_pos (by omega)]
          · rw [if_neg c2, if_neg (by omega)]
      · have := len_put d (n + m + i : Nat) (n + m + rowF rh i : Nat); omega)
  rw [List.length_map, List.length_range] at i1 i2
  refine ⟨d, p, g1, i1.congr fun x => ?_, by omega⟩
  by_cases c : x < n + m + (m + k)
  · rw [if_pos c, if_pos (by omega)]
    unfold e0
    by_cases c2 : x < n + m
    · rw [if_pos c2, if_pos c2]
    · rw [if_neg c2, if_neg c2, if_pos (by omega), if_pos (by omega)]
  · rw [if_neg c, if_neg (by omega)]
theorem B3_loop (hA : Pr (n + m) (rowF ra)) (hH : Pr (m + k) (rowF rh)) (hs : n + 2 * m + k ≤ 1000) {d0 : List (Int × Int)} {p0 : Option D} (h0 : DI d0 (fun x => if x < n + 2 * m + k then some (e0 (rowF ra) (rowF rh) n m k x) else none)) (hl : d0.length ≤ n + 2 * m + k) : ∃ d p x y, goFor (tgN 6) bodyB3 ((List.range m).map natD) (envB n m k ra rh d0 p0 (some (.int 0)) none none) = some (.nx (envB n m k ra rh d p (some (.int ((bhF (rowF ra) (rowF rh) n m k).1 : Nat))) x y)) ∧ ∀ z, Oue n m k z → valI d (z : Nat) = some (((bhF (rowF ra) (rowF rh) n m k).2 z : Nat) : Int) := by
  obtain ⟨ρ', g1, d, p, x, y, rfl, i1, i2⟩ := for_inv (tg := tgN 6) (body := bodyB3) (ds := (List.range m).map natD) (ρ := envB n m k ra rh d0 p0 (some (.int 0)) none none)
    (fun i ρ => ∃ d p x y, ρ = envB n m k ra rh d p (some (.int ((fQ (rowF ra) (rowF rh) n m k (List.range i)).1 : Nat))) x y ∧ DI d (fun z => if z < n + 2 * m + k ∧ ¬ (n ≤ z ∧ z < n + i) ∧ ¬ (n + m ≤ z ∧ z < n + m + i) then some ((fQ (rowF ra) (rowF rh) n m k (List.range i)).2 z) else none) ∧ d.length ≤ n + 2 * m + k + 2 * i)
    ⟨d0, p0, none, none, rfl, h0.congr fun z => by
      by_cases c : z < n + 2 * m + k
      · rw [if_pos c, if_pos (by omega)]; rfl
      · rw [if_neg c, if_neg (by omega)], by omega⟩ (by
      rintro i dd ρ hd ⟨d, p, x, y, rfl, i1, i2⟩
      have hi : i < m := by
        have := (List.getElem?_eq_some_iff.mp hd).1
        simpa using this
      have hd : dd = natD i := by
        rw [List.getElem?_map, List.getElem?_range hi] at hd
        simpa using hd.symm
      subst hd
      have hlr : ∀ q ∈ List.range i, q < m := fun q hq => by have := List.mem_range.mp hq; omega
      have iv := fQ_iv hA hH (Q := List.range i) List.nodup_range hlr
      have fix := fun {z} h => fQ_fix hA hH (Q := List.range i) List.nodup_range hlr (x := z) h
      have f0 := fQ_snoc (A := rowF ra) (H := rowF rh) (n := n) (m := m) (k := k) (List.range i) i
      rw [← List.range_succ] at f0
      have na : ¬ Pt (prs n m (List.range i)) (n + i) := by rw [pt_near hlr hi]; simp
      have nb : ¬ Pt (prs n m (List.range i)) (n + m + i) := by rw [pt_far hlr hi]; simp
      have big := fun {z} h1 h2 => fQ_big hA hH (Q := List.range i) List.nodup_range hlr (x := z) h1 h2
      have b1 := big (z := n + i) (by omega) na
      have b2 := big (z := n + m + i) (by omega) nb
      have ga : (fQ (rowF ra) (rowF rh) n m k (List.range i)).2 (n + i) ≠ n + i := fun z => na ((fix (by omega)).mp z)
      have gb' : (fQ (rowF ra) (rowF rh) n m k (List.range i)).2 (n + m + i) ≠ n + m + i := fun z => nb ((fix (by omega)).mp z)
      have rem : ∀ z, z < n + 2 * m + k → ¬ Pt (prs n m (List.range i)) z → ¬ (n ≤ (fQ (rowF ra) (rowF rh) n m k (List.range i)).2 z ∧ (fQ (rowF ra) (rowF rh) n m k (List.range i)).2 z < n + i) ∧ ¬ (n + m ≤ (fQ (rowF ra) (rowF rh) n m k (List.range i)).2 z ∧ (fQ (rowF ra) (rowF rh) n m k (List.range i)).2 z < n + m + i) := fun z h1 h2 => by
        have g0 : ¬ Pt (prs n m (List.range i)) ((fQ (rowF ra) (rowF rh) n m k (List.range i)).2 z) := fun q => h2 ((fix h1).mp (((fix (big h1 h2)).mpr q).symm.trans (iv z)))
        rw [pt_prs] at g0
        constructor
        · intro ⟨q1, q2⟩; exact g0 ⟨(fQ (rowF ra) (rowF rh) n m k (List.range i)).2 z - n, List.mem_range.mpr (by omega), .inl (by omega)⟩
        · intro ⟨q1, q2⟩; exact g0 ⟨(fQ (rowF ra) (rowF rh) n m k (List.range i)).2 z - n - m, List.mem_range.mpr (by omega), .inr (by omega)⟩
      have r1 := rem (n + i) (by omega) na
      have r2 := rem (n + m + i) (by omega) nb
      obtain ⟨F, hF⟩ : ∃ F, F = (fQ (rowF ra) (rowF rh) n m k (List.range i)).2 := ⟨_, rfl⟩
      obtain ⟨R, hR⟩ : ∃ R, R = (fQ (rowF ra) (rowF rh) n m k (List.range i)).1 := ⟨_, rfl⟩
      have fe : (fQ (rowF ra) (rowF rh) n m k (List.range (i + 1))) = (if F (n + i) = n + m + i then R + 1 else R, jn (n + i) (n + m + i) F) := by rw [f0, hF, hR]; rfl
      simp only [← hF, ← hR] at i1 b1 b2 ga gb' iv r1 r2
      simp only [fe]
      rw [← hR]
      have v1 : valI d ((n : Int) + (i : Int)) = some ((F (n + i) : Nat) : Int) := by
        rw [show (n : Int) + (i : Int) = ((n + i : Nat) : Int) by omega]
        exact i1.get (if_pos (by omega))
      have v2 : valI (dropI d ((n : Int) + (i : Int))) ((n : Int) + (m : Int) + (i : Int)) = some ((F (n + m + i) : Nat) : Int) := by
        rw [valI_drop, if_neg (by omega), show (n : Int) + (m : Int) + (i : Int) = ((n + m + i : Nat) : Int) by omega]
        exact i1.get (if_pos (by omega))
      obtain ⟨d2, hd2⟩ : ∃ d2, d2 = dropI (dropI d ((n : Int) + (i : Int))) ((n : Int) + (m : Int) + (i : Int)) := ⟨_, rfl⟩
      have l2 : d2.length ≤ n + 2 * m + k + 2 * i := by
        rw [hd2]
        exact Nat.le_trans (Nat.le_trans (len_drop _ _) (len_drop _ _)) i2
      have s2 : DI d2 fun z => if z = n + m + i then none else if z = n + i then none else if z < n + 2 * m + k ∧ ¬ (n ≤ z ∧ z < n + i) ∧ ¬ (n + m ≤ z ∧ z < n + m + i) then some (F z) else none := by
        have := (i1.drop (n + i)).drop (n + m + i)
        rw [hd2, show (n : Int) + (m : Int) + (i : Int) = ((n + m + i : Nat) : Int) by omega, show (n : Int) + (i : Int) = ((n + i : Nat) : Int) by omega]
        exact this
      by_cases c : F (n + i) = n + m + i
      · refine ⟨envB n m k ra rh d2 (some (natD i)) (some (.int (R + 1 : Nat))) (some (.int (F (n + i) : Nat))) (some (.int (F (n + m + i) : Nat))), .inl ?_, _, _, _, _, by rw [if_pos c], s2.congr fun z => ?_, by omega⟩
        · rw [turn_e]
          have c1 : ((R + 1 : Nat) : Int) = (R : Int) + 1 := by omega
          have c2 : ((F (n + i) : Nat) : Int) = (n : Int) + (m : Int) + (i : Int) := by omega
          rw [c1, c2]
          rw [c2] at v1
          unfold bodyB3 envB natD
          generalize F (n + m + i) = y at *
          subst hd2
          simp [v1, v2, setAll]
        · have e : ∀ q, q ≠ n + i → q ≠ n + m + i → jn (n + i) (n + m + i) F q = F q := fun q q1 q2 => by
            have h1 := iv q; have h2 := iv (n + i); have h3 := iv (n + m + i)
            exact jn_out iv q1 q2 (fun w => by rw [w] at h1; rw [← h1, c] at q2; exact q2 rfl) (fun w => by rw [w] at h1; rw [← c, h2] at h1; exact q1 h1.symm)
          by_cases c1 : z = n + m + i
          · rw [if_pos c1, if_neg (by omega)]
          · rw [if_neg c1]
            by_cases c2 : z = n + i
            · rw [if_pos c2, if_neg (by omega)]
            · rw [if_neg c2]
              by_cases c3 : z < n + 2 * m + k ∧ ¬ (n ≤ z ∧ z < n + i) ∧ ¬ (n + m ≤ z ∧ z < n + m + i)
              · rw [if_pos c3, if_pos (by omega), e z c2 c1]
              · rw [if_neg c3, if_neg (by omega)]
      · have ls2 : decide (d2.length < smallL) = true := decide_eq_true (Nat.lt_of_le_of_lt l2 (Nat.lt_of_lt_of_le (show n + 2 * m + k + 2 * i < 100000 by omega) (Nat.le_refl _)))
        have ls3 : decide ((putI d2 (F (n + i) : Nat) (F (n + m + i) : Nat)).length < smallL) = true := decide_eq_true (Nat.lt_of_le_of_lt (Nat.le_trans (len_put _ _ _) (Nat.succ_le_succ l2)) (Nat.lt_of_lt_of_le (show n + 2 * m + k + 2 * i + 1 < 100000 by omega) (Nat.le_refl _)))
        refine ⟨envB n m k ra rh (putI (putI d2 (F (n + i) : Nat) (F (n + m + i) : Nat)) (F (n + m + i) : Nat) (F (n + i) : Nat)) (some (natD i)) (some (.int (R : Nat))) (some (.int (F (n + i) : Nat))) (some (.int (F (n + m + i) : Nat))), .inl ?_, _, _, _, _, by rw [if_neg c], ((s2.put _ _).put _ _).congr fun z => ?_, ?_⟩
        · rw [turn_e]
          have c2 : ¬ ((F (n + i) : Nat) : Int) = (n : Int) + (m : Int) + (i : Int) := by omega
          unfold bodyB3 envB natD
          generalize F (n + m + i) = y at *
          generalize F (n + i) = x at *
          subst hd2
          simp [v1, v2, c2, ls2, ls3, setAll]
        · have h1 := iv z; have h2 := iv (n + i); have h3 := iv (n + m + i)
          by_cases c1 : z = n + m + i
          · rw [if_neg (by rw [c1]; exact fun w => gb' w.symm), if_neg (by rw [c1]; exact fun w => c w.symm), if_pos c1, if_neg (by omega)]
          · by_cases c2 : z = n + i
            · rw [if_neg (by rw [c2]; exact fun w => by rw [← w] at h3; exact c h3), if_neg (by rw [c2]; exact fun w => ga w.symm), if_neg c1, if_pos c2, if_neg (by omega)]
            · unfold jn
              rw [if_neg c1, if_neg c2]
              by_cases c3 : z = F (n + i)
              · have c4 : ¬ z = F (n + m + i) := fun w => by
                  have : F (F (n + i)) = F (F (n + m + i)) := by rw [← c3, ← w]
                  rw [h2, h3] at this; omega
                rw [if_neg c4, if_pos c3, if_pos (by omega), if_neg c2, if_neg c1, if_pos c3]
              · by_cases c4 : z = F (n + m + i)
                · rw [if_pos c4, if_pos (by omega), if_neg c2, if_neg c1, if_neg c3, if_pos c4]
                · rw [if_neg c4, if_neg c3]
                  by_cases c5 : z < n + 2 * m + k ∧ ¬ (n ≤ z ∧ z < n + i) ∧ ¬ (n + m ≤ z ∧ z < n + m + i)
                  · rw [if_pos c5, if_pos (by omega), if_neg c2, if_neg c1, if_neg c3, if_neg c4]
                  · rw [if_neg c5, if_neg (by omega)]
        · have q1 := len_put d2 (F (n + i) : Nat) (F (n + m + i) : Nat)
          have q2 := len_put (putI d2 (F (n + i) : Nat) (F (n + m + i) : Nat)) (F (n + m + i) : Nat) (F (n + i) : Nat)
          omega)
  rw [List.length_map, List.length_range] at g1 i1
  refine ⟨d, p, x, y, g1, fun z hz => ?_⟩
  unfold Oue at hz
  exact i1.get (if_pos (by omega))
end
end VS
set_option Elab.async false
set_option linter.all false
set_option maxRecDepth 100000
namespace VS
open PySem PySem.Spec PyProof.Rows L2 RZ
variable {n m k : Nat} {ra rh : List Nat}
theorem mat_0 (n m : Nat) (r : List Nat) : ixD [matD n m r, .int 0] = some (.int (n : Nat)) := by
  show (bd (atI _ 0) ownK) = _
  simp [atI]
theorem mat_1 (n m : Nat) (r : List Nat) : ixD [matD n m r, .int 1] = some (.int (m : Nat)) := by
  show (bd (atI _ 1) ownK) = _
  simp [atI]
theorem behind_ok (ha : ra.length = n + m) (hh : rh.length = m + k) (hA : Pr (n + m) (rowF ra)) (hH : Pr (m + k) (rowF rh)) (hs : n + 2 * m + k ≤ 1000) : fn_behind.sem [matD n m ra, matD m k rh] = some (.tup [.int ((bhL ra rh n m k).1 : Nat), matD n k (bhL ra rh n m k).2], [some (matD n m ra), some (matD m k rh)]) := by
  obtain ⟨d1, p1, g1, i1, l1⟩ := B1_loop (n := n) (m := m) (k := k) (ra := ra) (rh := rh) ha (by omega) (p0 := none)
  obtain ⟨d2, p2, g2, i2, l2⟩ := B2_loop (p0 := p1) ha hh hs i1 l1
  obtain ⟨d3, p3, x3, y3, g3, i3⟩ := B3_loop (p0 := p2) hA hH hs i2 l2
  obtain ⟨F, hF⟩ : ∃ F, F = (bhF (rowF ra) (rowF rh) n m k).2 := ⟨_, rfl⟩
  have e1 : (bhL ra rh n m k).1 = (bhF (rowF ra) (rowF rh) n m k).1 := rfl
  have e2 : (bhL ra rh n m k).2.map natD = ((List.range (n + k)).map fun p => F (xp n m p)).map fun y => natD (num n m y) := by
    show (List.map _ (List.range (n + k))).map natD = _
    rw [List.map_map, List.map_map, hF]; rfl
  have e3 : ((List.range (n + k)).map fun p => F (xp n m p)).map natD = (List.range n).map (fun p => natD (F p)) ++ (List.range k).map (fun p => natD (F (n + 2 * m + p))) := by
    rw [List.range_add, List.map_append, List.map_append, List.map_map, List.map_map, List.map_map]
    congr 1
    · refine List.map_congr_left fun p hp => ?_
      have := List.mem_range.mp hp
      show natD (F (xp n m p)) = _
      rw [show xp n m p = p from if_pos this]
    · refine List.map_congr_left fun p hp => ?_
      show natD (F (xp n m (n + p))) = _
      rw [show xp n m (n + p) = n + 2 * m + p by unfold xp; rw [if_neg (by omega)]; omega]
  have r1 : rng1D [.int ((n : Int) + (m : Int))] = some ((List.range (n + m)).map natD) := by
    have := rng1_nat (u := n + m) (by omega)
    rwa [Int.natCast_add] at this
  have r2 : rng1D [.int ((m : Int) + (k : Int))] = some ((List.range (m + k)).map natD) := by
    have := rng1_nat (u := m + k) (by omega)
    rwa [Int.natCast_add] at this
  have r3 := rng1_nat (u := m) (by omega)
  have r4 := rng1_nat (u := n) (by omega)
  have r5 := rng1_nat (u := k) (by omega)
  obtain ⟨RR, hRR⟩ : ∃ RR, RR = (bhF (rowF ra) (rowF rh) n m k).1 := ⟨_, rfl⟩
  rw [← hRR] at g3 e1
  rw [← hF] at i3
  obtain ⟨MA, hMA⟩ : ∃ MA, MA = matD n m ra := ⟨_, rfl⟩
  obtain ⟨MB, hMB⟩ : ∃ MB, MB = matD m k rh := ⟨_, rfl⟩
  have m0 := mat_0 n m ra
  have m1 := mat_1 n m ra
  have m3 := mat_1 m k rh
  unfold envB at g1 g2 g3
  rw [← hMA] at g1 g2 g3 m0 m1 ⊢
  rw [← hMB] at g1 g2 g3 m3 ⊢
  have mo : 0 ≤ (2 : Int) := by omega
  have mk : mulOk 2 (m : Int) = true := mulOk_l (by omega) (by omega)
  have c1 : goLc [6] (tgN 6) yesF (opF dgetD [.b 5, .b 6]) ((List.range n).map natD) [some MA, some MB, some (.int (n : Nat)), some (.int (m : Nat)), some (.int (k : Nat)), some (.dct true d3), none, some (.int (RR : Nat)), x3, y3, none, none] = some ((List.range n).map (fun p => natD (F p)), [some MA, some MB, some (.int (n : Nat)), some (.int (m : Nat)), some (.int (k : Nat)), some (.dct true d3), none, some (.int (RR : Nat)), x3, y3, none, none]) := by
    refine goLc_mapI natD _ _ fun p hp => ?_
    have hp := List.mem_range.mp hp
    have v := i3 p (.inl hp)
    rw [lcTurn_e]
    unfold natD
    simp [v]
  have c2 : goLc [6] (tgN 6) yesF (opF dgetD [.b 5, .t (opF addD [.t (opF addD [.b 2, .t (opF mulD [.t (litF (.int 2)), .b 3])]), .b 6])]) ((List.range k).map natD) [some MA, some MB, some (.int (n : Nat)), some (.int (m : Nat)), some (.int (k : Nat)), some (.dct true d3), none, some (.int (RR : Nat)), x3, y3, none, none] = some ((List.range k).map (fun p => natD (F (n + 2 * m + p))), [some MA, some MB, some (.int (n : Nat)), some (.int (m : Nat)), some (.int (k : Nat)), some (.dct true d3), none, some (.int (RR : Nat)), x3, y3, none, none]) := by
    refine goLc_mapI natD _ _ fun p hp => ?_
    have hp := List.mem_range.mp hp
    have v := i3 (n + 2 * m + p) (.inr ⟨by omega, by omega⟩)
    rw [show ((n + 2 * m + p : Nat) : Int) = (n : Int) + 2 * (m : Int) + (p : Int) by omega] at v
    rw [lcTurn_e]
    unfold natD
    simp [v, mk]
  have c3 : ∀ q : Option D, goLc [11] (tgN 11) yesF (ifE (bT (opF (ltD) [.b 11, .b 2])) (varF 11) (opF subD [.b 11, .t (opF mulD [.t (litF (.int 2)), .b 3])])) (((List.range (n + k)).map fun p => F (xp n m p)).map natD) [some MA, some MB, some (.int (n : Nat)), some (.int (m : Nat)), none, some (.dct true d3), none, none, x3, y3, q, none] = some (((List.range (n + k)).map fun p => F (xp n m p)).map (fun y => natD (num n m y)), [some MA, some MB, some (.int (n : Nat)), some (.int (m : Nat)), none, some (.dct true d3), none, none, x3, y3, q, none]) := fun q => by
    refine goLc_mapI natD _ _ fun y hy => ?_
    obtain ⟨p, hp, rfl⟩ := List.mem_map.mp hy
    have hp := List.mem_range.mp hp
    have ho := (bhF_out hA hH (xp_out (m := m) hp)).1
    rw [← hF] at ho
    unfold Oue at ho
    generalize F (xp n m p) = y at *
    rw [lcTurn_e]
    unfold natD num
    by_cases c : y < n
    · have c' : (y : Int) < (n : Int) := by omega
      simp [c, c', mk]
    · have c' : ¬ (y : Int) < (n : Int) := by omega
      have e : ((y - 2 * m : Nat) : Int) = (y : Int) - 2 * (m : Int) := by omega
      rw [if_neg c, e]
      simp [c', mk]
  have n1 : noOwns ((List.range n).map fun p => natD (F p)) = true := noOwns_map (f := fun p => natD (F p)) (fun p => by simp [natD]) _
  have n2 : noOwns ((List.range k).map fun p => natD (F (n + 2 * m + p))) = true := noOwns_map (f := fun p => natD (F (n + 2 * m + p))) (fun p => by simp [natD]) _
  have ad : addD [.lst true ((List.range n).map fun p => natD (F p)), .lst true ((List.range k).map fun p => natD (F (n + 2 * m + p)))] = some (.lst true (((List.range (n + k)).map fun p => F (xp n m p)).map natD)) := by
    rw [addD_l n1 n2 (by simp; omega), e3]
  have s3 := c3 (some (.lst false (((List.range (n + k)).map fun p => F (xp n m p)).map natD)))
  have n3 : noOwns (((List.range (n + k)).map fun p => F (xp n m p)).map natD) = true := noOwns_natDs _
  have f3 : freezes (((List.range (n + k)).map fun p => F (xp n m p)).map natD) = ((List.range (n + k)).map fun p => F (xp n m p)).map natD := freezes_natDs _
  have n4 : noOwns (((List.range (n + k)).map fun p => F (xp n m p)).map fun y => natD (num n m y)) = true := noOwns_map (f := fun y => natD (num n m y)) (fun p => by simp [natD]) _
  have l3 : decide ((((List.range (n + k)).map fun p => F (xp n m p)).map natD).length ≤ smallL) = true := small_le (by simp; omega)
  have l4 : decide ((((List.range (n + k)).map fun p => F (xp n m p)).map fun y => natD (num n m y)).length ≤ smallL) = true := small_le (by simp; omega)
  have l5 : decide (((List.range n).map fun p => natD (F p)).length ≤ smallL) = true := small_le (by simp; omega)
  have l6 : decide (((List.range k).map fun p => natD (F (n + 2 * m + p))).length ≤ smallL) = true := small_le (by simp; omega)
  have o1 : noOwn MA = true := by rw [hMA]; exact noOwn_matD n m ra
  have o2 : noOwn MB = true := by rw [hMB]; exact noOwn_matD m k rh
  have er : matD n k (bhL ra rh n m k).2 = .tup [.int (n : Nat), .int (k : Nat), .tup (((List.range (n + k)).map fun p => F (xp n m p)).map fun y => natD (num n m y))] := by
    unfold matD; rw [e2]
  rw [er, e1]
  clear hMA hMB er e1 e2 e3
  generalize ((List.range (n + k)).map fun p => F (xp n m p)).map (fun y => natD (num n m y)) = Z at *
  generalize ((List.range (n + k)).map fun p => F (xp n m p)).map natD = Y at *
  generalize (List.range n).map (fun p => natD (F p)) = X1 at *
  generalize (List.range k).map (fun p => natD (F (n + 2 * m + p))) = X2 at *
  generalize (List.range (n + m)).map natD = J1 at *
  generalize (List.range (m + k)).map natD = J2 at *
  generalize (List.range m).map natD = J3 at *
  generalize (List.range n).map natD = J4 at *
  generalize (List.range k).map natD = J5 at *
  have tz := tupleD_l (o := true) n4
  unfold fn_behind
  rw [F_behind_e, bodyFn_sem]
  simp [m0, m1, m3, g1, g2, g3, r1, r2, r3, r4, r5, c1, c2, ad, s3, n1, n2, n3, n4, f3, l3, l4, l5, l6, o1, o2, tz, small_le]
end VS
set_option Elab.async false
set_option linter.all false
set_option maxRecDepth 100000
namespace VS
open PySem PySem.Spec PyProof.Rows L2 RZ
def lT1 : FS := ifF (orF (notF (tstF (.t (callF fn_same [.t (callF fn_p_value_of [.b 3, .b 4]), .b 5, .t (litF (.int 9))])))) (notF (tstF (.t (callF fn_same [.t (callKF fn_p_value_of [1, 0] [.b 4, .b 3]), .b 5, .t (litF (.int 9))]))))) (retF (litF (.bl false))) (passF)
def lT2 : FS := ifF (notF (tstF (.t (callF fn_same [.t (lstF [.t (varF 7), .t (varF 8)]), .t (lstF [.t (callF fn_value [.b 3, .t (opF (partD false true) [.b 4, .b 6])]), .t (callF fn_value [.b 3, .t (opF (partD true false) [.b 4, .b 6])])]), .t (litF (.int 9))])))) (retF (litF (.bl false))) (passF)
def lT3 : FS := ifF (notF (tstF (.t (callF fn_same [.t (tupF [.t (opF addD [.t (opF addD [.t (opF ixD [.b 7, .t (litF (.int 0))]), .t (opF ixD [.b 8, .t (litF (.int 0))])]), .b 9]), .t (varF 10)]), .b 5, .t (litF (.int 9))])))) (retF (litF (.bl false))) (passF)
def bodyLw : FS := (seqF (asgF (opF addD [.t (litF (.int 1)), .t (callF fn_dip [.b 1, .t (litF (.int 8))])]) (tgN 3)) <|
  seqF (asgF (callF fn_word [.b 1, .b 3, .t (litF (.int 30))]) (tgN 4)) <|
  seqF (asgF (callF fn_value [.b 3, .b 4]) (tgN 5)) <|
  seqF lT1 <|
  seqF (asgF (callF fn_dip [.b 1, .t (opF addD [.t (opF lenD [.b 4]), .t (litF (.int 1))])]) (tgN 6)) <|
  seqF (parF [7, 8] [.t (callF fn_p_value_of [.b 3, .t (opF (partD false true) [.b 4, .b 6])]), .t (callF fn_p_value_of [.b 3, .t (opF (partD true false) [.b 4, .b 6])])]) <|
  seqF lT2 <|
  seqF (asgF (callF fn_behind [.t (opF ixD [.b 7, .t (litF (.int 1))]), .t (opF ixD [.b 8, .t (litF (.int 1))])]) (tgT 2 (tgCons (tgN 9) (tgCons (tgN 10) (tgNil))))) <|
  lT3)
def lFin : FS := retF (callF fn_same [.t (lstF [.t (callF fn_p_value_of [.t (litF (.int 1)), .t (tupF [])]), .t (callF fn_p_value_of [.t (litF (.int 8)), .t (tupF [])])]), .t (lstF [.t (callF fn_value [.t (litF (.int 1)), .t (tupF [])]), .t (callF fn_value [.t (litF (.int 8)), .t (tupF [])])]), .t (litF (.int 9))])
theorem F_law_e : F_law = (
  seqF (asgF (callF fn_well [.b 0]) (tgN 1)) <|
  seqF (forF (itRg rng1D [.t (litF (.int 4))]) (tgN 2) bodyLw) <| lFin) := rfl
theorem L_turn {w d : D} {A0 A2 A3 A4 A5 A6 A7 A8 A9 A10 : Option D} (hw : DOk w) :
    ∃ w' B3 B4 B5 B6 B7 B8 B9 B10, turn (tgN 2) bodyLw d [A0, some w, A2, A3, A4, A5, A6, A7, A8, A9, A10] = some (.nx [A0, some w', some d, B3, B4, B5, B6, B7, B8, B9, B10]) ∧ DOk w' := by
  obtain ⟨x, w1, e1, a1, b1, k1⟩ := dip_ok (lim := 8) hw (by omega) (by omega)
  obtain ⟨x, rfl⟩ := nat_of a1
  obtain ⟨n, hn⟩ : ∃ n : Nat, n = 1 + x := ⟨_, rfl⟩
  have hni : 1 + (x : Int) = (n : Int) := by omega
  obtain ⟨v, w2, e2, k2, hv⟩ := word_any (n := n) (most := 30) k1 (by omega) (by omega) (by omega)
  have e2 : fn_word.sem [w1, .int (n : Nat), .int 30] = some (wordD v, [some w2, some (.int (n : Nat)), some (.int 30)]) := e2
  have hn1 : 1 ≤ n := by omega
  have hn2 : n ≤ 1000 := by omega
  have e3 := value_ok hn2 hv.2
  have e4 := value_of_ok hn1 hn2 hv.2
  have sl := (valW_pr hv.2).1
  have s1 := same_one (ps_val (n := n) (s := valW n v) (by rw [sl]; omega)) (by omega)
  obtain ⟨at_, w3, e5, a5, b5, k5⟩ := dip_ok (lim := (v.length : Int) + 1) k2 (by omega) (by have := hv.1; omega)
  obtain ⟨at_, rfl⟩ := nat_of a5
  have hl : ∀ x ∈ v.take at_, x + 1 < n := fun y hy => hv.2 y (List.mem_of_mem_take hy)
  have hr : ∀ x ∈ v.drop at_, x + 1 < n := fun y hy => hv.2 y (List.mem_of_mem_drop hy)
  have e6 := value_of_ok hn1 hn2 hl
  have e7 := value_of_ok hn1 hn2 hr
  have e8 := value_ok hn2 hl
  have e9 := value_ok hn2 hr
  have pl := valW_pr hl
  have pr := valW_pr hr
  have bw := bh_words hl (v.drop at_).reverse (by rwa [List.reverse_reverse])
  rw [List.reverse_reverse, List.take_append_drop] at bw
  have pl2 : Pr (n + n) (rowF (valW n (v.take at_)).2) := by have := pl.2; rwa [show 2 * n = n + n by omega] at this
  have pr2 : Pr (n + n) (rowF (valW n (v.drop at_)).2) := by have := pr.2; rwa [show 2 * n = n + n by omega] at this
  have eb := behind_ok (n := n) (m := n) (k := n) (by rw [pl.1]; omega) (by rw [pr.1]; omega) pl2 pr2 (by omega)
  rw [← bw.2] at eb
  have s2 : fn_same.sem [.lst true [valD n (valW n (v.take at_)), valD n (valW n (v.drop at_))], .lst true [valD n (valW n (v.take at_)), valD n (valW n (v.drop at_))], .int 9] = some (.bl true, [some (.lst true [valD n (valW n (v.take at_)), valD n (valW n (v.drop at_))]), some (.lst true [valD n (valW n (v.take at_)), valD n (valW n (v.drop at_))]), some (.int 9)]) := same_lst (k := 3) (fun y hy => by
    rcases List.mem_cons.mp hy with rfl | hy
    · exact ps_val (by rw [pl.1]; omega)
    · rw [List.mem_singleton.mp hy]; exact ps_val (by rw [pr.1]; omega)) (by omega) (by simp)
  have i0 := valD_0 n (valW n (v.take at_))
  have i1 := valD_1 n (valW n (v.take at_))
  have i2 := valD_0 n (valW n (v.drop at_))
  have i3 := valD_1 n (valW n (v.drop at_))
  have due : valD n (valW n v) = .tup [.int (((valW n (v.take at_)).1 : Int) + ((valW n (v.drop at_)).1 : Int) + ((bhL (valW n (v.take at_)).2 (valW n (v.drop at_)).2 n n n).1 : Int)), matD n n (valW n v).2] := by
    have : ((valW n v).1 : Int) = ((valW n (v.take at_)).1 : Int) + ((valW n (v.drop at_)).1 : Int) + ((bhL (valW n (v.take at_)).2 (valW n (v.drop at_)).2 n n n).1 : Int) := by rw [bw.1]; omega
    unfold valD; rw [this]
  have wl : lenD [wordD v] = some (.int (v.length : Nat)) := by
    unfold wordD
    simp [lenD]
  have wH := word_H v at_
  have wL := word_L v at_
  have o0 := hw.own
  have o1 := k1.own
  have o2 := k2.own
  have o5 := k5.own
  have p1 := dip_pins
  have p2 : fn_word.pins = [true, true, true] := rfl
  have p3 : fn_value.pins = [true, true] := rfl
  have p4 : fn_p_value_of.pins = [true, true] := rfl
  have p5 : fn_same.pins = [true, true, true] := same_pins 20
  have p6 : fn_behind.pins = [true, true] := rfl
  have q1 : noOwn (wordD v) = true := by unfold wordD; simp
  have q2 : noOwn (wordD (v.take at_)) = true := noOwns_natDs _
  have q3 : noOwn (wordD (v.drop at_)) = true := noOwns_natDs _
  have q4 := noOwn_valD n (valW n v)
  have q5 := noOwn_valD n (valW n (v.take at_))
  have q6 := noOwn_valD n (valW n (v.drop at_))
  have q7 := noOwn_matD n n (valW n v).2
  have q8 := noOwn_matD n n (valW n (v.take at_)).2
  have q9 := noOwn_matD n n (valW n (v.drop at_)).2
  refine ⟨w3, some (.int (n : Nat)), some (wordD v), some (valD n (valW n v)), some (.int (at_ : Nat)), some (valD n (valW n (v.take at_))), some (valD n (valW n (v.drop at_))), some (.int ((bhL (valW n (v.take at_)).2 (valW n (v.drop at_)).2 n n n).1 : Nat)), some (matD n n (valW n v).2), ?_, k5⟩
  rw [turn_e]
  unfold bodyLw lT1 lT2 lT3
  generalize wordD v = A at *
  generalize wordD (v.take at_) = A1 at *
  generalize wordD (v.drop at_) = A2 at *
  generalize valD n (valW n v) = V at *
  generalize valD n (valW n (v.take at_)) = V1 at *
  generalize valD n (valW n (v.drop at_)) = V2 at *
  generalize matD n n (valW n v).2 = M at *
  generalize matD n n (valW n (v.take at_)).2 = M1 at *
  generalize matD n n (valW n (v.drop at_)).2 = M2 at *
  simp [e1, hni, e2, e3, e4, s1, wl, e5, e6, e7, e8, e9, wH, wL, s2, eb, i0, i1, i2, i3, ← due, o0, o1, o2, o5, p1, p2, p3, p4, p5, p6, q1, q2, q3, q4, q5, q6, q7, q8, q9, small_le (n := 2) (by omega), setAll]
theorem law_holds : ∀ ns : List Int, ns.length ≤ 63 → ∃ os, fn_law.sem [.scr ns] = some (.bl true, os) := by
  intro ns hns
  obtain ⟨w, ew, kw⟩ := well_ok hns
  obtain ⟨ρ', g1, w2, B2, B3, B4, B5, B6, B7, B8, B9, B10, rfl, k2⟩ := for_inv (tg := tgN 2) (body := bodyLw) (ds := (List.range 4).map natD) (ρ := [some (.scr ns), some w, none, none, none, none, none, none, none, none, none])
    (fun i ρ => ∃ (w' : D) (B2 B3 B4 B5 B6 B7 B8 B9 B10 : Option D), ρ = [some (.scr ns), some w', B2, B3, B4, B5, B6, B7, B8, B9, B10] ∧ DOk w')
    ⟨w, none, none, none, none, none, none, none, none, none, rfl, kw⟩ (by
      rintro i d ρ hd ⟨w', B2, B3, B4, B5, B6, B7, B8, B9, B10, rfl, k⟩
      obtain ⟨w2, C3, C4, C5, C6, C7, C8, C9, C10, e, k'⟩ := L_turn (d := d) (A0 := some (.scr ns)) (A2 := B2) (A3 := B3) (A4 := B4) (A5 := B5) (A6 := B6) (A7 := B7) (A8 := B8) (A9 := B9) (A10 := B10) k
      exact ⟨_, .inl e, w2, some d, C3, C4, C5, C6, C7, C8, C9, C10, rfl, k'⟩)
  refine ⟨[some (.scr ns)], ?_⟩
  have p1 : fn_well.pins = [true] := rfl
  have p3 : fn_value.pins = [true, true] := rfl
  have p4 : fn_p_value_of.pins = [true, true] := rfl
  have p5 : fn_same.pins = [true, true, true] := same_pins 20
  have r3 : rng1D [.int 4] = some ((List.range 4).map natD) := rng1_nat (u := 4) (by omega)
  have v1 : fn_p_value_of.sem [.int 1, .tup []] = some (valD 1 (valW 1 []), [some (.int 1), some (.tup [])]) := value_of_ok (n := 1) (w := []) (by omega) (by omega) (by simp)
  have v2 : fn_p_value_of.sem [.int 8, .tup []] = some (valD 8 (valW 8 []), [some (.int 8), some (.tup [])]) := value_of_ok (n := 8) (w := []) (by omega) (by omega) (by simp)
  have v3 : fn_value.sem [.int 1, .tup []] = some (valD 1 (valW 1 []), [some (.int 1), some (.tup [])]) := value_ok (n := 1) (w := []) (by omega) (by simp)
  have v4 : fn_value.sem [.int 8, .tup []] = some (valD 8 (valW 8 []), [some (.int 8), some (.tup [])]) := value_ok (n := 8) (w := []) (by omega) (by simp)
  have q1 := noOwn_valD 1 (valW 1 [])
  have q2 := noOwn_valD 8 (valW 8 [])
  have s2 : fn_same.sem [.lst true [valD 1 (valW 1 []), valD 8 (valW 8 [])], .lst true [valD 1 (valW 1 []), valD 8 (valW 8 [])], .int 9] = some (.bl true, [some (.lst true [valD 1 (valW 1 []), valD 8 (valW 8 [])]), some (.lst true [valD 1 (valW 1 []), valD 8 (valW 8 [])]), some (.int 9)]) := same_lst (k := 3) (fun y hy => by
    rcases List.mem_cons.mp hy with rfl | hy
    · exact ps_val (by decide)
    · rw [List.mem_singleton.mp hy]; exact ps_val (by decide)) (by omega) (by simp)
  unfold fn_law
  rw [bodyFn_sem, F_law_e]
  generalize (List.range 4).map natD = RG at *
  generalize valD 1 (valW 1 []) = V1 at *
  generalize valD 8 (valW 8 []) = V8 at *
  unfold lFin
  simp [ew, p1, p3, p4, p5, r3, g1, v1, v2, v3, v4, q1, q2, s2, small_le (n := 2) (by omega)]
end VS
set_option Elab.async false
set_option linter.all false
set_option maxRecDepth 100000
set_option maxHeartbeats 0
namespace VS
open PySem PySem.Spec PyProof.Rows L2 RZ
/-! what the top has written -/
structure Tx (K : PySem.W.Frag) (mg : Str → Option Value) where
  f_behind : Addr
  fd_behind : FuncData
  F_behind : Fun K "_law_behind" "_law_behind" s_behind f_behind fd_behind
  b_behind : Binds K fd_behind ["_law_one", "_law_other"] []
  g_behind : mg "_law_behind" = some (.ref f_behind)
  f_dip : Addr
  fd_dip : FuncData
  F_dip : Fun K "_law_dip" "_law_dip" s_dip f_dip fd_dip
  b_dip : Binds K fd_dip ["_law_well_here", "_law_many"] []
  g_dip : mg "_law_dip" = some (.ref f_dip)
  f_same : Addr
  fd_same : FuncData
  F_same : FunDf K "_law_same" s_same [9] f_same fd_same
  b_same : Binds K fd_same ["_law_told", "_law_due", "_law_depth"] []
  d_same : ∃ ds, Vals [V.int 9] ds ∧ Binds K fd_same ["_law_told", "_law_due", "_law_depth"] ds
  g_same : mg "_law_same" = some (.ref f_same)
  f_hooked : Addr
  fd_hooked : FuncData
  F_hooked : Fun K "_law_hooked" "_law_hooked" s_hooked f_hooked fd_hooked
  b_hooked : Binds K fd_hooked ["_law_mat", "_law_index"] []
  g_hooked : mg "_law_hooked" = some (.ref f_hooked)
  f_straight : Addr
  fd_straight : FuncData
  F_straight : Fun K "_law_straight" "_law_straight" s_straight f_straight fd_straight
  b_straight : Binds K fd_straight ["_law_n"] []
  g_straight : mg "_law_straight" = some (.ref f_straight)
  f_value : Addr
  fd_value : FuncData
  F_value : Fun K "_law_value" "_law_value" s_value f_value fd_value
  b_value : Binds K fd_value ["_law_n", "_law_word_here"] []
  g_value : mg "_law_value" = some (.ref f_value)
  f_well : Addr
  fd_well : FuncData
  F_well : Fun K "_law_well" "_law_well" s_well f_well fd_well
  b_well : Binds K fd_well ["_law_script"] []
  g_well : mg "_law_well" = some (.ref f_well)
  f_word : Addr
  fd_word : FuncData
  F_word : Fun K "_law_word" "_law_word" s_word f_word fd_word
  b_word : Binds K fd_word ["_law_well_here", "_law_n", "_law_most"] []
  g_word : mg "_law_word" = some (.ref f_word)
  f_p_far_end : Addr
  fd_p_far_end : FuncData
  F_p_far_end : Fun K "far_end" "far_end" s_p_far_end f_p_far_end fd_p_far_end
  b_p_far_end : Binds K fd_p_far_end ["one", "other", "peg", "passed"] []
  g_p_far_end : mg "far_end" = some (.ref f_p_far_end)
  f_p_loose_rings : Addr
  fd_p_loose_rings : FuncData
  F_p_loose_rings : Fun K "loose_rings" "loose_rings" s_p_loose_rings f_p_loose_rings fd_p_loose_rings
  b_p_loose_rings : Binds K fd_p_loose_rings ["one", "other", "passed"] []
  g_p_loose_rings : mg "loose_rings" = some (.ref f_p_loose_rings)
  f_p_put_behind : Addr
  fd_p_put_behind : FuncData
  F_p_put_behind : Fun K "put_behind" "put_behind" s_p_put_behind f_p_put_behind fd_p_put_behind
  b_p_put_behind : Binds K fd_p_put_behind ["one", "other"] []
  g_p_put_behind : mg "put_behind" = some (.ref f_p_put_behind)
  f_p_chained : Addr
  fd_p_chained : FuncData
  F_p_chained : Fun K "chained" "chained" s_p_chained f_p_chained fd_p_chained
  b_p_chained : Binds K fd_p_chained ["one", "other"] []
  g_p_chained : mg "chained" = some (.ref f_p_chained)
  f_p_check_size : Addr
  fd_p_check_size : FuncData
  F_p_check_size : Fun K "check_size" "check_size" s_p_check_size f_p_check_size fd_p_check_size
  b_p_check_size : Binds K fd_p_check_size ["n"] []
  g_p_check_size : mg "check_size" = some (.ref f_p_check_size)
  f_p_check_words : Addr
  fd_p_check_words : FuncData
  F_p_check_words : Fun K "check_words" "check_words" s_p_check_words f_p_check_words fd_p_check_words
  g_p_check_words : mg "check_words" = some (.ref f_p_check_words)
  f_p_straight : Addr
  fd_p_straight : FuncData
  F_p_straight : Fun K "straight" "straight" s_p_straight f_p_straight fd_p_straight
  b_p_straight : Binds K fd_p_straight ["n"] []
  g_p_straight : mg "straight" = some (.ref f_p_straight)
  f_p_hook : Addr
  fd_p_hook : FuncData
  F_p_hook : Fun K "hook" "hook" s_p_hook f_p_hook fd_p_hook
  b_p_hook : Binds K fd_p_hook ["n", "i"] []
  g_p_hook : mg "hook" = some (.ref f_p_hook)
  f_p_value_of : Addr
  fd_p_value_of : FuncData
  F_p_value_of : Fun K "value_of" "value_of" s_p_value_of f_p_value_of fd_p_value_of
  b_p_value_of : Binds K fd_p_value_of ["n", "word"] []
  g_p_value_of : mg "value_of" = some (.ref f_p_value_of)
  f_law : Addr
  fd_law : FuncData
  F_law : Fun K "law" "law" s_law f_law fd_law
  b_law : Binds K fd_law ["_law_script"] []
  g_law : mg "law" = some (.ref f_law)
  kb0_p_value_of : KB K fd_p_value_of ["n", "word"] 0 ["word", "n"] [1, 0]
  z_bool : mg "bool" = none
  z_int : mg "int" = none
  z_isinstance : mg "isinstance" = none
  z_len : mg "len" = none
  z_list : mg "list" = none
  z_max : mg "max" = none
  z_min : mg "min" = none
  z_range : mg "range" = none
  z_str : mg "str" = none
  z_tuple : mg "tuple" = none
section
variable {P : Program} {w : World} {K : PySem.W.Frag} {mg : Str → Option Value} {base : Heap}
theorem ok_behind (T : Tx K mg) : FnOk P w K mg base CX0 1 T.f_behind T.fd_behind ["_law_one", "_law_other"] (spOf K fn_behind) := by
  unfold fn_behind
  refine fn_ok (k := 0) (x := "_law_behind") (qual := "_law_behind") (st := s_behind) (N := ["_law_one", "_law_other", "_law_n", "_law_m", "_law_k", "_law_ends", "_law_peg", "_law_rings", "_law_near", "_law_far", "_law_mates", "_law_mate"]) (ps := ["_law_one", "_law_other"]) (pins := [true, true]) (fb := F_behind) T.F_behind sc_behind rfl (by decide) ?_
  intro cdv A outer s H E hr
  unfold F_behind
  exact psf_cons (f := asgF (tupF [.t (opF ixD [.b 0, .t (litF (.int 0))]), .t (opF ixD [.b 0, .t (litF (.int 1))]), .t (opF ixD [.b 1, .t (litF (.int 1))])]) (tgT 3 (tgCons (tgN 2) (tgCons (tgN 3) (tgCons (tgN 4) (tgNil)))))) (psf_asg (f := tupF [.t (opF ixD [.b 0, .t (litF (.int 0))]), .t (opF ixD [.b 0, .t (litF (.int 1))]), .t (opF ixD [.b 1, .t (litF (.int 1))])]) (g := tgT 3 (tgCons (tgN 2) (tgCons (tgN 3) (tgCons (tgN 4) (tgNil))))) (pf_tup (paf_cons (o := .t (opF ixD [.b 0, .t (litF (.int 0))])) (po_t (pf_ix ix_seq vok_ix (po_b (pv 0)) (po_t (pf_int)) (fun _ _ => rfl))) (paf_cons (o := .t (opF ixD [.b 0, .t (litF (.int 1))])) (po_t (pf_ix ix_seq vok_ix (po_b (pv 0)) (po_t (pf_int)) (fun _ _ => rfl))) (paf_cons (o := .t (opF ixD [.b 1, .t (litF (.int 1))])) (po_t (pf_ix ix_seq vok_ix (po_b (pv 1)) (po_t (pf_int)) (fun _ _ => rfl))) paf_nil)))) (pgf_tup rfl (pgsf_cons (pgf_name (i := 2) sc_behind.nd rfl (by first | exact .inl rfl | exact .inr rfl) (by decide)) (pgsf_cons (pgf_name (i := 3) sc_behind.nd rfl (by first | exact .inl rfl | exact .inr rfl) (by decide)) (pgsf_cons (pgf_name (i := 4) sc_behind.nd rfl (by first | exact .inl rfl | exact .inr rfl) (by decide)) (pgsf_nil))))))
      (psf_cons (f := asgF (dctF) (tgN 5)) (psf_set (i := 5) sc_behind.nd rfl (by first | exact .inl rfl | exact .inr rfl) (by decide) (pf_dct))
      (psf_cons (f := forF (itRg rng1D [.t (opF addD [.b 2, .b 3])]) (tgN 6) (asgF (opF ixD [.t (opF ixD [.b 0, .t (litF (.int 2))]), .b 6]) (tgPut 5 (.b 6)))) (psf_for (fi := itRg rng1D [.t (opF addD [.b 2, .b 3])]) (g := tgN 6) PassesOwn.never rfl (pif_rng1 (by rfl) T.z_range (paf_cons (o := .t (opF addD [.b 2, .b 3])) (po_t (pf_bin op_addA vok_add (po_b (pv 2)) (po_b (pv 3)))) paf_nil)) (pgf_name (i := 6) sc_behind.nd rfl (by first | exact .inl rfl | exact .inr rfl) (by decide)) (psf_one (psf_asg (f := opF ixD [.t (opF ixD [.b 0, .t (litF (.int 2))]), .b 6]) (g := tgPut 5 (.b 6)) (pf_ix ix_seq vok_ix (po_t (pf_ix ix_seq vok_ix (po_b (pv 0)) (po_t (pf_int)) (fun _ _ => rfl))) (po_b (pv 6)) (fun _ _ => rfl)) (pgf_put (k := 5) (oi := .b 6) (units65 hr) (pv 5) (po_b (pv 6))))))
      (psf_cons (f := forF (itRg rng1D [.t (opF addD [.b 3, .b 4])]) (tgN 6) (asgF (opF addD [.t (opF addD [.b 2, .b 3]), .t (opF ixD [.t (opF ixD [.b 1, .t (litF (.int 2))]), .b 6])]) (tgPut 5 (.t (opF addD [.t (opF addD [.b 2, .b 3]), .b 6]))))) (psf_for (fi := itRg rng1D [.t (opF addD [.b 3, .b 4])]) (g := tgN 6) PassesOwn.never rfl (pif_rng1 (by rfl) T.z_range (paf_cons (o := .t (opF addD [.b 3, .b 4])) (po_t (pf_bin op_addA vok_add (po_b (pv 3)) (po_b (pv 4)))) paf_nil)) (pgf_name (i := 6) sc_behind.nd rfl (by first | exact .inl rfl | exact .inr rfl) (by decide)) (psf_one (psf_asg (f := opF addD [.t (opF addD [.b 2, .b 3]), .t (opF ixD [.t (opF ixD [.b 1, .t (litF (.int 2))]), .b 6])]) (g := tgPut 5 (.t (opF addD [.t (opF addD [.b 2, .b 3]), .b 6]))) (pf_bin op_addA vok_add (po_t (pf_bin op_addA vok_add (po_b (pv 2)) (po_b (pv 3)))) (po_t (pf_ix ix_seq vok_ix (po_t (pf_ix ix_seq vok_ix (po_b (pv 1)) (po_t (pf_int)) (fun _ _ => rfl))) (po_b (pv 6)) (fun _ _ => rfl)))) (pgf_put (k := 5) (oi := .t (opF addD [.t (opF addD [.b 2, .b 3]), .b 6])) (units65 hr) (pv 5) (po_t (pf_bin op_addA vok_add (po_t (pf_bin op_addA vok_add (po_b (pv 2)) (po_b (pv 3)))) (po_b (pv 6))))))))
      (psf_cons (f := asgF (litF (.int 0)) (tgN 7)) (psf_set (i := 7) sc_behind.nd rfl (by first | exact .inl rfl | exact .inr rfl) (by decide) (pf_int))
      (psf_cons (f := forF (itRg rng1D [.b 3]) (tgN 6) (seqF (parF [8, 9] [.t (dpopF 5 (.t (opF addD [.b 2, .b 6]))), .t (dpopF 5 (.t (opF addD [.t (opF addD [.b 2, .b 3]), .b 6])))]) <|
      ifF (bT (opF (eqD) [.b 8, .t (opF addD [.t (opF addD [.b 2, .b 3]), .b 6])])) (asgF (opF addD [.b 7, .t (litF (.int 1))]) (tgN 7)) (seqF (asgF (varF 9) (tgPut 5 (.b 8))) <|
      asgF (varF 8) (tgPut 5 (.b 9))))) (psf_for (fi := itRg rng1D [.b 3]) (g := tgN 6) PassesOwn.never rfl (pif_rng1 (by rfl) T.z_range (paf_cons (o := .b 3) (po_b (pv 3)) paf_nil)) (pgf_name (i := 6) sc_behind.nd rfl (by first | exact .inl rfl | exact .inr rfl) (by decide)) (psf_cons (f := parF [8, 9] [.t (dpopF 5 (.t (opF addD [.b 2, .b 6]))), .t (dpopF 5 (.t (opF addD [.t (opF addD [.b 2, .b 3]), .b 6])))]) (psf_par2 (i := 8) (j := 9) rfl sc_behind.nd rfl rfl  (by decide)  (by decide) rfl rfl  (paf_cons (o := .t (dpopF 5 (.t (opF addD [.b 2, .b 6])))) (po_t (pf_dpop (k := 5) (pv 5) (po_t (pf_bin op_addA vok_add (po_b (pv 2)) (po_b (pv 6)))) ⟨by rfl, by rfl, by rfl, by rfl⟩)) (paf_cons (o := .t (dpopF 5 (.t (opF addD [.t (opF addD [.b 2, .b 3]), .b 6])))) (po_t (pf_dpop (k := 5) (pv 5) (po_t (pf_bin op_addA vok_add (po_t (pf_bin op_addA vok_add (po_b (pv 2)) (po_b (pv 3)))) (po_b (pv 6)))) ⟨by rfl, by rfl, by rfl, by rfl⟩)) paf_nil)) rfl)
      (psf_one (psf_if (fc := bT (opF (eqD) [.b 8, .t (opF addD [.t (opF addD [.b 2, .b 3]), .b 6])])) (pt_cmpf (op_eqD hr.units) vok_eq (po_b (pv 8)) (po_t (pf_bin op_addA vok_add (po_t (pf_bin op_addA vok_add (po_b (pv 2)) (po_b (pv 3)))) (po_b (pv 6)))) (nomark _)) (psf_one (psf_set (i := 7) sc_behind.nd rfl (by first | exact .inl rfl | exact .inr rfl) (by decide) (pf_bin op_addA vok_add (po_b (pv 7)) (po_t (pf_int))))) (psf_cons (f := asgF (varF 9) (tgPut 5 (.b 8))) (psf_asg (f := varF 9) (g := tgPut 5 (.b 8)) (pf_var (pv 9)) (pgf_put (k := 5) (oi := .b 8) (units65 hr) (pv 5) (po_b (pv 8))))
      (psf_one (psf_asg (f := varF 8) (g := tgPut 5 (.b 9)) (pf_var (pv 8)) (pgf_put (k := 5) (oi := .b 9) (units65 hr) (pv 5) (po_b (pv 9))))))))))
      (psf_cons (f := asgF (opF addD [.t (lcF [6] (itRg rng1D [.b 2]) (tgN 6) (yesF) (opF dgetD [.b 5, .b 6])), .t (lcF [6] (itRg rng1D [.b 4]) (tgN 6) (yesF) (opF dgetD [.b 5, .t (opF addD [.t (opF addD [.b 2, .t (opF mulD [.t (litF (.int 2)), .b 3])]), .b 6])]))]) (tgN 10)) (psf_set (i := 10) sc_behind.nd rfl (by first | exact .inl rfl | exact .inr rfl) (by decide) (pf_bin op_addA vok_add (po_t (pf_lc (own := [("_law_peg", 6)]) (fi := itRg rng1D [.b 2]) (fg := tgN 6) (ft := yesF) (fe := opF dgetD [.b 5, .b 6]) rfl sc_behind.nd (pif_rng1 (by rfl) T.z_range (paf_cons (o := .b 2) (po_b (pv 2)) paf_nil)) (blkOk_by (own := [("_law_peg", 6)]) (by rfl)) (fun _ _ _ _ _ => pgf_name (i := 6) sc_behind.nd rfl (by first | exact .inl rfl | exact .inr rfl) (by decide)) (fun _ _ _ _ _ => ptsf_nil) (fun _ _ _ _ _ => pf_dget (units65 hr) (po_b (pv 5)) (po_b (pv 6)) (fun _ _ => rfl)))) (po_t (pf_lc (own := [("_law_peg", 6)]) (fi := itRg rng1D [.b 4]) (fg := tgN 6) (ft := yesF) (fe := opF dgetD [.b 5, .t (opF addD [.t (opF addD [.b 2, .t (opF mulD [.t (litF (.int 2)), .b 3])]), .b 6])]) rfl sc_behind.nd (pif_rng1 (by rfl) T.z_range (paf_cons (o := .b 4) (po_b (pv 4)) paf_nil)) (blkOk_by (own := [("_law_peg", 6)]) (by rfl)) (fun _ _ _ _ _ => pgf_name (i := 6) sc_behind.nd rfl (by first | exact .inl rfl | exact .inr rfl) (by decide)) (fun _ _ _ _ _ => ptsf_nil) (fun _ _ _ _ _ => pf_dget (units65 hr) (po_b (pv 5)) (po_t (pf_bin op_addA vok_add (po_t (pf_bin op_addA vok_add (po_b (pv 2)) (po_t (pf_bin op_mulA vok_mul (po_t (pf_int)) (po_b (pv 3)))))) (po_b (pv 6)))) (fun _ _ => rfl))))))
      (psf_one (psf_ret (pf_tup (paf_cons (o := .t (movF 7)) (po_t (pf_mov (pv 7))) (paf_cons (o := .t (tupF [.t (varF 2), .t (movF 4), .t (opF tupleD [.t (lcF [11] (itSeq (varF 10)) (tgN 11) (yesF) (ifE (bT (opF (ltD) [.b 11, .b 2])) (varF 11) (opF subD [.b 11, .t (opF mulD [.t (litF (.int 2)), .b 3])])))])])) (po_t (pf_tup (paf_cons (o := .t (varF 2)) (po_t (pf_var (pv 2))) (paf_cons (o := .t (movF 4)) (po_t (pf_mov (pv 4))) (paf_cons (o := .t (opF tupleD [.t (lcF [11] (itSeq (varF 10)) (tgN 11) (yesF) (ifE (bT (opF (ltD) [.b 11, .b 2])) (varF 11) (opF subD [.b 11, .t (opF mulD [.t (litF (.int 2)), .b 3])])))])) (po_t (pf_callTy call_tuple_of vok_tuple (by rfl) T.z_tuple boot_tuple (paf_cons (o := .t (lcF [11] (itSeq (varF 10)) (tgN 11) (yesF) (ifE (bT (opF (ltD) [.b 11, .b 2])) (varF 11) (opF subD [.b 11, .t (opF mulD [.t (litF (.int 2)), .b 3])])))) (po_t (pf_lc (own := [("_law_mate", 11)]) (fi := itSeq (varF 10)) (fg := tgN 11) (ft := yesF) (fe := ifE (bT (opF (ltD) [.b 11, .b 2])) (varF 11) (opF subD [.b 11, .t (opF mulD [.t (litF (.int 2)), .b 3])])) rfl sc_behind.nd (pif_seq (pf_var (pv 10))) (blkOk_by (own := [("_law_mate", 11)]) (by rfl)) (fun _ _ _ _ _ => pgf_name (i := 11) sc_behind.nd rfl (by first | exact .inl rfl | exact .inr rfl) (by decide)) (fun _ _ _ _ _ => ptsf_nil) (fun _ _ _ _ _ => pf_if (pt_cmpf op_lt vok_lt (po_b (pv 11)) (po_b (pv 2)) (nomark _)) (pf_var (pv 11)) (pf_bin op_sub vok_sub (po_b (pv 11)) (po_t (pf_bin op_mulA vok_mul (po_t (pf_int)) (po_b (pv 3)))))))) paf_nil))) paf_nil))))) paf_nil)))))))))))
theorem ok_dip (T : Tx K mg) : FnOk P w K mg base CX0 1 T.f_dip T.fd_dip ["_law_well_here", "_law_many"] (spOf K fn_dip) := by
  unfold fn_dip
  refine fn_ok (k := 0) (x := "_law_dip") (qual := "_law_dip") (st := s_dip) (N := ["_law_well_here", "_law_many", "_law_cell", "_law_digit"]) (ps := ["_law_well_here", "_law_many"]) (pins := [true, true]) (fb := F_dip) T.F_dip sc_dip rfl (by decide) ?_
  intro cdv A outer s H E hr
  unfold F_dip
  exact psf_cons (f := ifF (andF (bT (opF (ltD) [.t (opF ixD [.b 0, .t (litF (.int 2))]), .t (litF (.int 2))])) (bT (opF (ltD) [.t (opF ixD [.b 0, .t (litF (.int 1))]), .t (opF lenD [.t (opF ixD [.b 0, .t (litF (.int 0))])])]))) (seqF (asgF (opF ixD [.t (opF ixD [.b 0, .t (litF (.int 0))]), .t (opF ixD [.b 0, .t (litF (.int 1))])]) (tgN 2)) <|
      seqF (asgF (opF addD [.t (opF ixD [.b 0, .t (litF (.int 1))]), .t (litF (.int 1))]) (tgSub 0 (.t (litF (.int 1))))) <|
      ifF (bT (opF (geD) [.b 2, .t (opF powD [.t (litF (.int 10)), .t (litF (.int 18))])])) (asgF (varF 2) (tgSub 0 (.t (litF (.int 2))))) (asgF (opF modD [.t (opF intD [.t (opF addD [.t (opF addD [.t (opF mulD [.t (opF ixD [.b 0, .t (litF (.int 3))]), .t (litF (.int 69621))]), .t (opF powD [.t (opF modD [.t (opF intD [.b 2]), .t (litF (.int 2147483629))]), .t (litF (.int 3))])]), .t (opF mulD [.t (litF (.int 7919)), .t (opF ixD [.b 0, .t (litF (.int 1))])])])]), .t (litF (.int 2147483647))]) (tgSub 0 (.t (litF (.int 3)))))) (passF)) (psf_if (fc := andF (bT (opF (ltD) [.t (opF ixD [.b 0, .t (litF (.int 2))]), .t (litF (.int 2))])) (bT (opF (ltD) [.t (opF ixD [.b 0, .t (litF (.int 1))]), .t (opF lenD [.t (opF ixD [.b 0, .t (litF (.int 0))])])]))) ((pwf_and (pt_cmpf op_lt vok_lt (po_t (pf_ix ix_seq vok_ix (po_b (pv 0)) (po_t (pf_int)) (fun _ _ => rfl))) (po_t (pf_int)) (nomark _)) (pwf_and1 (pt_cmpf op_lt vok_lt (po_t (pf_ix ix_seq vok_ix (po_b (pv 0)) (po_t (pf_int)) (fun _ _ => rfl))) (po_t (pf_callB call_len_seq vok_len (by rfl) T.z_len PySem.boot_len (paf_cons (o := .t (opF ixD [.b 0, .t (litF (.int 0))])) (po_t (pf_ix ix_seq vok_ix (po_b (pv 0)) (po_t (pf_int)) (fun _ _ => rfl))) paf_nil))) (nomark _)))).pt) (psf_cons (f := asgF (opF ixD [.t (opF ixD [.b 0, .t (litF (.int 0))]), .t (opF ixD [.b 0, .t (litF (.int 1))])]) (tgN 2)) (psf_set (i := 2) sc_dip.nd rfl (by first | exact .inl rfl | exact .inr rfl) (by decide) (pf_ix ix_seq vok_ix (po_t (pf_ix ix_seq vok_ix (po_b (pv 0)) (po_t (pf_int)) (fun _ _ => rfl))) (po_t (pf_ix ix_seq vok_ix (po_b (pv 0)) (po_t (pf_int)) (fun _ _ => rfl))) (fun _ _ => rfl)))
      (psf_cons (f := asgF (opF addD [.t (opF ixD [.b 0, .t (litF (.int 1))]), .t (litF (.int 1))]) (tgSub 0 (.t (litF (.int 1))))) (psf_asg (f := opF addD [.t (opF ixD [.b 0, .t (litF (.int 1))]), .t (litF (.int 1))]) (g := tgSub 0 (.t (litF (.int 1)))) (pf_bin op_addA vok_add (po_t (pf_ix ix_seq vok_ix (po_b (pv 0)) (po_t (pf_int)) (fun _ _ => rfl))) (po_t (pf_int))) (pgf_sub (k := 0) (oi := .t (litF (.int 1))) (pv 0) (po_t (pf_int))))
      (psf_one (psf_if (fc := bT (opF (geD) [.b 2, .t (opF powD [.t (litF (.int 10)), .t (litF (.int 18))])])) (pt_cmpf op_ge vok_ge (po_b (pv 2)) (po_t (pf_bin op_powA vok_pow (po_t (pf_int)) (po_t (pf_int)))) (nomark _)) (psf_one (psf_asg (f := varF 2) (g := tgSub 0 (.t (litF (.int 2)))) (pf_var (pv 2)) (pgf_sub (k := 0) (oi := .t (litF (.int 2))) (pv 0) (po_t (pf_int))))) (psf_one (psf_asg (f := opF modD [.t (opF intD [.t (opF addD [.t (opF addD [.t (opF mulD [.t (opF ixD [.b 0, .t (litF (.int 3))]), .t (litF (.int 69621))]), .t (opF powD [.t (opF modD [.t (opF intD [.b 2]), .t (litF (.int 2147483629))]), .t (litF (.int 3))])]), .t (opF mulD [.t (litF (.int 7919)), .t (opF ixD [.b 0, .t (litF (.int 1))])])])]), .t (litF (.int 2147483647))]) (g := tgSub 0 (.t (litF (.int 3)))) (pf_bin op_modN vok_mod (po_t (pf_callTy call_int1 vok_int (by rfl) T.z_int boot_int (paf_cons (o := .t (opF addD [.t (opF addD [.t (opF mulD [.t (opF ixD [.b 0, .t (litF (.int 3))]), .t (litF (.int 69621))]), .t (opF powD [.t (opF modD [.t (opF intD [.b 2]), .t (litF (.int 2147483629))]), .t (litF (.int 3))])]), .t (opF mulD [.t (litF (.int 7919)), .t (opF ixD [.b 0, .t (litF (.int 1))])])])) (po_t (pf_bin op_addA vok_add (po_t (pf_bin op_addA vok_add (po_t (pf_bin op_mulA vok_mul (po_t (pf_ix ix_seq vok_ix (po_b (pv 0)) (po_t (pf_int)) (fun _ _ => rfl))) (po_t (pf_int)))) (po_t (pf_bin op_powA vok_pow (po_t (pf_bin op_modN vok_mod (po_t (pf_callTy call_int1 vok_int (by rfl) T.z_int boot_int (paf_cons (o := .b 2) (po_b (pv 2)) paf_nil))) (po_t (pf_int)))) (po_t (pf_int)))))) (po_t (pf_bin op_mulA vok_mul (po_t (pf_int)) (po_t (pf_ix ix_seq vok_ix (po_b (pv 0)) (po_t (pf_int)) (fun _ _ => rfl))))))) paf_nil))) (po_t (pf_int))) (pgf_sub (k := 0) (oi := .t (litF (.int 3))) (pv 0) (po_t (pf_int))))))))) (psf_nil))
      (psf_cons (f := ifF (bT (opF (gtD) [.t (opF ixD [.b 0, .t (litF (.int 2))]), .t (litF (.int 1))])) (seqF (asgF (opF modD [.t (opF intD [.t (opF ixD [.b 0, .t (litF (.int 2))])]), .b 1]) (tgN 3)) <|
      seqF (asgF (opF fdivD [.t (opF ixD [.b 0, .t (litF (.int 2))]), .b 1]) (tgSub 0 (.t (litF (.int 2))))) <|
      retF (movF 3)) (passF)) (psf_if (fc := bT (opF (gtD) [.t (opF ixD [.b 0, .t (litF (.int 2))]), .t (litF (.int 1))])) (pt_cmpf op_gt vok_gt (po_t (pf_ix ix_seq vok_ix (po_b (pv 0)) (po_t (pf_int)) (fun _ _ => rfl))) (po_t (pf_int)) (nomark _)) (psf_cons (f := asgF (opF modD [.t (opF intD [.t (opF ixD [.b 0, .t (litF (.int 2))])]), .b 1]) (tgN 3)) (psf_set (i := 3) sc_dip.nd rfl (by first | exact .inl rfl | exact .inr rfl) (by decide) (pf_bin op_modN vok_mod (po_t (pf_callTy call_int1 vok_int (by rfl) T.z_int boot_int (paf_cons (o := .t (opF ixD [.b 0, .t (litF (.int 2))])) (po_t (pf_ix ix_seq vok_ix (po_b (pv 0)) (po_t (pf_int)) (fun _ _ => rfl))) paf_nil))) (po_b (pv 1))))
      (psf_cons (f := asgF (opF fdivD [.t (opF ixD [.b 0, .t (litF (.int 2))]), .b 1]) (tgSub 0 (.t (litF (.int 2))))) (psf_asg (f := opF fdivD [.t (opF ixD [.b 0, .t (litF (.int 2))]), .b 1]) (g := tgSub 0 (.t (litF (.int 2)))) (pf_bin op_fdivA vok_fdiv (po_t (pf_ix ix_seq vok_ix (po_b (pv 0)) (po_t (pf_int)) (fun _ _ => rfl))) (po_b (pv 1))) (pgf_sub (k := 0) (oi := .t (litF (.int 2))) (pv 0) (po_t (pf_int))))
      (psf_one (psf_ret (pf_mov (pv 3)))))) (psf_nil))
      (psf_cons (f := asgF (opF modD [.t (opF intD [.t (opF addD [.t (opF mulD [.t (opF ixD [.b 0, .t (litF (.int 3))]), .t (litF (.int 48271))]), .t (litF (.int 11))])]), .t (litF (.int 2147483647))]) (tgSub 0 (.t (litF (.int 3))))) (psf_asg (f := opF modD [.t (opF intD [.t (opF addD [.t (opF mulD [.t (opF ixD [.b 0, .t (litF (.int 3))]), .t (litF (.int 48271))]), .t (litF (.int 11))])]), .t (litF (.int 2147483647))]) (g := tgSub 0 (.t (litF (.int 3)))) (pf_bin op_modN vok_mod (po_t (pf_callTy call_int1 vok_int (by rfl) T.z_int boot_int (paf_cons (o := .t (opF addD [.t (opF mulD [.t (opF ixD [.b 0, .t (litF (.int 3))]), .t (litF (.int 48271))]), .t (litF (.int 11))])) (po_t (pf_bin op_addA vok_add (po_t (pf_bin op_mulA vok_mul (po_t (pf_ix ix_seq vok_ix (po_b (pv 0)) (po_t (pf_int)) (fun _ _ => rfl))) (po_t (pf_int)))) (po_t (pf_int)))) paf_nil))) (po_t (pf_int))) (pgf_sub (k := 0) (oi := .t (litF (.int 3))) (pv 0) (po_t (pf_int))))
      (psf_one (psf_ret (pf_bin op_modN vok_mod (po_t (pf_bin op_fdivA vok_fdiv (po_t (pf_bin op_modN vok_mod (po_t (pf_callTy call_int1 vok_int (by rfl) T.z_int boot_int (paf_cons (o := .t (opF mulD [.t (opF ixD [.b 0, .t (litF (.int 3))]), .t (opF ixD [.b 0, .t (litF (.int 3))])])) (po_t (pf_bin op_mulA vok_mul (po_t (pf_ix ix_seq vok_ix (po_b (pv 0)) (po_t (pf_int)) (fun _ _ => rfl))) (po_t (pf_ix ix_seq vok_ix (po_b (pv 0)) (po_t (pf_int)) (fun _ _ => rfl))))) paf_nil))) (po_t (pf_int)))) (po_t (pf_int)))) (po_b (pv 1)))))))
theorem ok_same_at (T : Tx K mg) : ∀ n : Nat, FnOk P w K mg base CX0 (n + 1) T.f_same T.fd_same ["_law_told", "_law_due", "_law_depth"] (spOf K (fn_same_at n))
  | 0 => (stuck_okD (k := 0) T.F_same sc_same).mono (by omega)
  | n + 1 => by
    have IH := ok_same_at T n
    refine FnOk.mono (k := n + 1 + 1) (fn_okD (k := n + 1) (x := "_law_same") (st := s_same) (N := ["_law_told", "_law_due", "_law_depth", "_law_k"]) (ps := ["_law_told", "_law_due", "_law_depth"]) (pins := [true, true, true]) (fb := F_same (fn_same_at n)) T.F_same sc_same rfl (by decide) ?_) (by omega)
    intro cdv A outer s H E hr
    unfold F_same
    exact psf_cons (f := ifF (orF (bT (opF (eqD) [.b 2, .t (litF (.int 0))])) (orF (bT (opF (isNonD) [.b 0, .t (litF .non)])) (bT (opF (isNonD) [.b 1, .t (litF .non)])))) (retF (andV (opF (gtD) [.b 2, .t (litF (.int 0))]) (andV (opF (isNonD) [.b 0, .t (litF .non)]) (opF (isNonD) [.b 1, .t (litF .non)])))) (passF)) (psf_if (fc := orF (bT (opF (eqD) [.b 2, .t (litF (.int 0))])) (orF (bT (opF (isNonD) [.b 0, .t (litF .non)])) (bT (opF (isNonD) [.b 1, .t (litF .non)])))) ((pwf_or (pt_cmpf (op_eqD hr.units) vok_eq (po_b (pv 2)) (po_t (pf_int)) (nomark _)) (pwf_or (pt_cmpf op_isN vok_isNon (po_b (pv 0)) (po_t (pf_non)) (nomark _)) (pwf_or1 (pt_cmpf op_isN vok_isNon (po_b (pv 1)) (po_t (pf_non)) (nomark _))))).pt) (psf_one (psf_ret (pf_and (pf_cmp op_gt vok_gt (po_b (pv 2)) (po_t (pf_int)) (nomark _)) (pf_and (pf_cmp op_isN vok_isNon (po_b (pv 0)) (po_t (pf_non)) (nomark _)) (pf_one (pf_cmp op_isN vok_isNon (po_b (pv 1)) (po_t (pf_non)) (nomark _))))))) (psf_nil))
      (psf_cons (f := ifF (orF (tstF (.t (opF (isiD "bool") [.b 0]))) (tstF (.t (opF (isiD "bool") [.b 1])))) (retF (andV (opF (isiD "bool") [.b 0]) (andV (opF (isiD "bool") [.b 1]) (opF (eqD) [.b 0, .b 1])))) (passF)) (psf_if (fc := orF (tstF (.t (opF (isiD "bool") [.b 0]))) (tstF (.t (opF (isiD "bool") [.b 1])))) ((pwf_or (pt_tst (o := .t (opF (isiD "bool") [.b 0])) (po_t (pf_isi (o := .b 0) (by rfl) T.z_isinstance (po_b (pv 0)) (pe_tyn (by rfl) T.z_bool boot_bool)))) (pwf_or1 (pt_tst (o := .t (opF (isiD "bool") [.b 1])) (po_t (pf_isi (o := .b 1) (by rfl) T.z_isinstance (po_b (pv 1)) (pe_tyn (by rfl) T.z_bool boot_bool)))))).pt) (psf_one (psf_ret (pf_and (pf_isi (o := .b 0) (by rfl) T.z_isinstance (po_b (pv 0)) (pe_tyn (by rfl) T.z_bool boot_bool)) (pf_and (pf_isi (o := .b 1) (by rfl) T.z_isinstance (po_b (pv 1)) (pe_tyn (by rfl) T.z_bool boot_bool)) (pf_one (pf_cmp (op_eqD hr.units) vok_eq (po_b (pv 0)) (po_b (pv 1)) (nomark _))))))) (psf_nil))
      (psf_cons (f := ifF (orF (tstF (.t (opF (isiD "int") [.b 1]))) (tstF (.t (opF (isiD "int") [.b 0])))) (retF (andV (opF (isiD "int") [.b 1]) (andV (opF (isiD "int") [.b 0]) (opF (eqD) [.b 0, .b 1])))) (passF)) (psf_if (fc := orF (tstF (.t (opF (isiD "int") [.b 1]))) (tstF (.t (opF (isiD "int") [.b 0])))) ((pwf_or (pt_tst (o := .t (opF (isiD "int") [.b 1])) (po_t (pf_isi (o := .b 1) (by rfl) T.z_isinstance (po_b (pv 1)) (pe_tyn (by rfl) T.z_int boot_int)))) (pwf_or1 (pt_tst (o := .t (opF (isiD "int") [.b 0])) (po_t (pf_isi (o := .b 0) (by rfl) T.z_isinstance (po_b (pv 0)) (pe_tyn (by rfl) T.z_int boot_int)))))).pt) (psf_one (psf_ret (pf_and (pf_isi (o := .b 1) (by rfl) T.z_isinstance (po_b (pv 1)) (pe_tyn (by rfl) T.z_int boot_int)) (pf_and (pf_isi (o := .b 0) (by rfl) T.z_isinstance (po_b (pv 0)) (pe_tyn (by rfl) T.z_int boot_int)) (pf_one (pf_cmp (op_eqD hr.units) vok_eq (po_b (pv 0)) (po_b (pv 1)) (nomark _))))))) (psf_nil))
      (psf_cons (f := ifF (orF (tstF (.t (opF (isiD "str") [.b 1]))) (tstF (.t (opF (isiD "str") [.b 0])))) (retF (andV (opF (isiD "str") [.b 1]) (andV (opF (isiD "str") [.b 0]) (opF (eqD) [.b 0, .b 1])))) (passF)) (psf_if (fc := orF (tstF (.t (opF (isiD "str") [.b 1]))) (tstF (.t (opF (isiD "str") [.b 0])))) ((pwf_or (pt_tst (o := .t (opF (isiD "str") [.b 1])) (po_t (pf_isi (o := .b 1) (by rfl) T.z_isinstance (po_b (pv 1)) (pe_tyn (by rfl) T.z_str boot_str)))) (pwf_or1 (pt_tst (o := .t (opF (isiD "str") [.b 0])) (po_t (pf_isi (o := .b 0) (by rfl) T.z_isinstance (po_b (pv 0)) (pe_tyn (by rfl) T.z_str boot_str)))))).pt) (psf_one (psf_ret (pf_and (pf_isi (o := .b 1) (by rfl) T.z_isinstance (po_b (pv 1)) (pe_tyn (by rfl) T.z_str boot_str)) (pf_and (pf_isi (o := .b 0) (by rfl) T.z_isinstance (po_b (pv 0)) (pe_tyn (by rfl) T.z_str boot_str)) (pf_one (pf_cmp (op_eqD hr.units) vok_eq (po_b (pv 0)) (po_b (pv 1)) (nomark _))))))) (psf_nil))
      (psf_cons (f := ifF (orF (bT (opF (neD) [.t (opF (isiD "tuple") [.b 1]), .t (opF (isiD "tuple") [.b 0])])) (bT (opF (neD) [.t (opF (isiD "list") [.b 1]), .t (opF (isiD "list") [.b 0])]))) (retF (litF (.bl false))) (passF)) (psf_if (fc := orF (bT (opF (neD) [.t (opF (isiD "tuple") [.b 1]), .t (opF (isiD "tuple") [.b 0])])) (bT (opF (neD) [.t (opF (isiD "list") [.b 1]), .t (opF (isiD "list") [.b 0])]))) ((pwf_or (pt_cmpf (op_neD hr.units) vok_ne (po_t (pf_isi (o := .b 1) (by rfl) T.z_isinstance (po_b (pv 1)) (pe_tyn (by rfl) T.z_tuple boot_tuple))) (po_t (pf_isi (o := .b 0) (by rfl) T.z_isinstance (po_b (pv 0)) (pe_tyn (by rfl) T.z_tuple boot_tuple))) (nomark _)) (pwf_or1 (pt_cmpf (op_neD hr.units) vok_ne (po_t (pf_isi (o := .b 1) (by rfl) T.z_isinstance (po_b (pv 1)) (pe_tyn (by rfl) T.z_list boot_list))) (po_t (pf_isi (o := .b 0) (by rfl) T.z_isinstance (po_b (pv 0)) (pe_tyn (by rfl) T.z_list boot_list))) (nomark _)))).pt) (psf_one (psf_ret (pf_bl))) (psf_nil))
      (psf_cons (f := ifF (orF (notF (tstF (.t (opF (isiTD ["tuple", "list"]) [.b 0])))) (bT (opF (neD) [.t (opF lenD [.b 0]), .t (opF lenD [.b 1])]))) (retF (litF (.bl false))) (passF)) (psf_if (fc := orF (notF (tstF (.t (opF (isiTD ["tuple", "list"]) [.b 0])))) (bT (opF (neD) [.t (opF lenD [.b 0]), .t (opF lenD [.b 1])]))) ((pwf_or (ptf_not (pt_tst (o := .t (opF (isiTD ["tuple", "list"]) [.b 0])) (po_t (pf_isiT2 (o := .b 0) (by rfl) T.z_isinstance (po_b (pv 0)) (pe_tyn (by rfl) T.z_tuple boot_tuple) (pe_tyn (by rfl) T.z_list boot_list))))) (pwf_or1 (pt_cmpf (op_neD hr.units) vok_ne (po_t (pf_callB call_len_seq vok_len (by rfl) T.z_len PySem.boot_len (paf_cons (o := .b 0) (po_b (pv 0)) paf_nil))) (po_t (pf_callB call_len_seq vok_len (by rfl) T.z_len PySem.boot_len (paf_cons (o := .b 1) (po_b (pv 1)) paf_nil))) (nomark _)))).pt) (psf_one (psf_ret (pf_bl))) (psf_nil))
      (psf_cons (f := forF (itRg rng1D [.t (opF lenD [.b 1])]) (tgN 3) (ifF (notF (tstF (.t (callF (fn_same_at n) [.t (opF ixD [.b 0, .b 3]), .t (opF ixD [.b 1, .b 3]), .t (opF subD [.b 2, .t (litF (.int 1))])])))) (retF (litF (.bl false))) (passF))) (psf_for (fi := itRg rng1D [.t (opF lenD [.b 1])]) (g := tgN 3) PassesOwn.never rfl (pif_rng1 (by rfl) T.z_range (paf_cons (o := .t (opF lenD [.b 1])) (po_t (pf_callB call_len_seq vok_len (by rfl) T.z_len PySem.boot_len (paf_cons (o := .b 1) (po_b (pv 1)) paf_nil))) paf_nil)) (pgf_name (i := 3) sc_same.nd rfl (by first | exact .inl rfl | exact .inr rfl) (by decide)) (psf_one (psf_if (fc := notF (tstF (.t (callF (fn_same_at n) [.t (opF ixD [.b 0, .b 3]), .t (opF ixD [.b 1, .b 3]), .t (opF subD [.b 2, .t (litF (.int 1))])])))) (ptf_not (pt_tst (o := .t (callF (fn_same_at n) [.t (opF ixD [.b 0, .b 3]), .t (opF ixD [.b 1, .b 3]), .t (opF subD [.b 2, .t (litF (.int 1))])])) (po_t (pf_call (IH) hr (by rfl) T.g_same T.F_same.kp T.b_same (paf_cons (o := .t (opF ixD [.b 0, .b 3])) (po_t (pf_ix ix_seq vok_ix (po_b (pv 0)) (po_b (pv 3)) (fun _ _ => rfl))) (paf_cons (o := .t (opF ixD [.b 1, .b 3])) (po_t (pf_ix ix_seq vok_ix (po_b (pv 1)) (po_b (pv 3)) (fun _ _ => rfl))) (paf_cons (o := .t (opF subD [.b 2, .t (litF (.int 1))])) (po_t (pf_bin op_sub vok_sub (po_b (pv 2)) (po_t (pf_int)))) paf_nil))))))) (psf_one (psf_ret (pf_bl))) (psf_nil))))
      (psf_one (psf_ret (pf_bl)))))))))
theorem ok_same (T : Tx K mg) : FnOk P w K mg base CX0 21 T.f_same T.fd_same ["_law_told", "_law_due", "_law_depth"] (spOf K fn_same) := (ok_same_at T 20).mono (by decide)
theorem ok_hooked (T : Tx K mg) : FnOk P w K mg base CX0 1 T.f_hooked T.fd_hooked ["_law_mat", "_law_index"] (spOf K fn_hooked) := by
  unfold fn_hooked
  refine fn_ok (k := 0) (x := "_law_hooked") (qual := "_law_hooked") (st := s_hooked) (N := ["_law_mat", "_law_index", "_law_n", "_law_mates", "_law_left", "_law_right"]) (ps := ["_law_mat", "_law_index"]) (pins := [true, true]) (fb := F_hooked) T.F_hooked sc_hooked rfl (by decide) ?_
  intro cdv A outer s H E hr
  unfold F_hooked
  exact psf_cons (f := asgF (opF ixD [.b 0, .t (litF (.int 0))]) (tgN 2)) (psf_set (i := 2) sc_hooked.nd rfl (by first | exact .inl rfl | exact .inr rfl) (by decide) (pf_ix ix_seq vok_ix (po_b (pv 0)) (po_t (pf_int)) (fun _ _ => rfl)))
      (psf_cons (f := asgF (opF listD [.t (opF ixD [.b 0, .t (litF (.int 2))])]) (tgN 3)) (psf_set (i := 3) sc_hooked.nd rfl (by first | exact .inl rfl | exact .inr rfl) (by decide) (pf_callTy call_list_of vok_list (by rfl) T.z_list boot_list (paf_cons (o := .t (opF ixD [.b 0, .t (litF (.int 2))])) (po_t (pf_ix ix_seq vok_ix (po_b (pv 0)) (po_t (pf_int)) (fun _ _ => rfl))) paf_nil)))
      (psf_cons (f := parF [4, 5] [.t (opF ixD [.b 3, .t (opF addD [.b 2, .b 1])]), .t (opF ixD [.b 3, .t (opF addD [.t (opF addD [.b 2, .b 1]), .t (litF (.int 1))])])]) (psf_par2 (i := 4) (j := 5) rfl sc_hooked.nd rfl rfl  (by decide)  (by decide) rfl rfl  (paf_cons (o := .t (opF ixD [.b 3, .t (opF addD [.b 2, .b 1])])) (po_t (pf_ix ix_seq vok_ix (po_b (pv 3)) (po_t (pf_bin op_addA vok_add (po_b (pv 2)) (po_b (pv 1)))) (fun _ _ => rfl))) (paf_cons (o := .t (opF ixD [.b 3, .t (opF addD [.t (opF addD [.b 2, .b 1]), .t (litF (.int 1))])])) (po_t (pf_ix ix_seq vok_ix (po_b (pv 3)) (po_t (pf_bin op_addA vok_add (po_t (pf_bin op_addA vok_add (po_b (pv 2)) (po_b (pv 1)))) (po_t (pf_int)))) (fun _ _ => rfl))) paf_nil)) rfl)
      (psf_cons (f := ifF (bT (opF (eqD) [.b 4, .t (opF addD [.t (opF addD [.b 2, .b 1]), .t (litF (.int 1))])])) (retF (tupF [.t (litF (.int 1)), .t (varF 0)])) (passF)) (psf_if (fc := bT (opF (eqD) [.b 4, .t (opF addD [.t (opF addD [.b 2, .b 1]), .t (litF (.int 1))])])) (pt_cmpf (op_eqD hr.units) vok_eq (po_b (pv 4)) (po_t (pf_bin op_addA vok_add (po_t (pf_bin op_addA vok_add (po_b (pv 2)) (po_b (pv 1)))) (po_t (pf_int)))) (nomark _)) (psf_one (psf_ret (pf_tup (paf_cons (o := .t (litF (.int 1))) (po_t (pf_int)) (paf_cons (o := .t (varF 0)) (po_t (pf_var (pv 0))) paf_nil))))) (psf_nil))
      (psf_cons (f := asgF (varF 5) (tgSub 3 (.b 4))) (psf_asg (f := varF 5) (g := tgSub 3 (.b 4)) (pf_var (pv 5)) (pgf_sub (k := 3) (oi := .b 4) (pv 3) (po_b (pv 4))))
      (psf_cons (f := asgF (varF 4) (tgSub 3 (.b 5))) (psf_asg (f := varF 4) (g := tgSub 3 (.b 5)) (pf_var (pv 4)) (pgf_sub (k := 3) (oi := .b 5) (pv 3) (po_b (pv 5))))
      (psf_cons (f := asgF (opF addD [.t (opF addD [.b 2, .b 1]), .t (litF (.int 1))]) (tgSub 3 (.t (opF addD [.b 2, .b 1])))) (psf_asg (f := opF addD [.t (opF addD [.b 2, .b 1]), .t (litF (.int 1))]) (g := tgSub 3 (.t (opF addD [.b 2, .b 1]))) (pf_bin op_addA vok_add (po_t (pf_bin op_addA vok_add (po_b (pv 2)) (po_b (pv 1)))) (po_t (pf_int))) (pgf_sub (k := 3) (oi := .t (opF addD [.b 2, .b 1])) (pv 3) (po_t (pf_bin op_addA vok_add (po_b (pv 2)) (po_b (pv 1))))))
      (psf_cons (f := asgF (opF addD [.b 2, .b 1]) (tgSub 3 (.t (opF addD [.t (opF addD [.b 2, .b 1]), .t (litF (.int 1))])))) (psf_asg (f := opF addD [.b 2, .b 1]) (g := tgSub 3 (.t (opF addD [.t (opF addD [.b 2, .b 1]), .t (litF (.int 1))]))) (pf_bin op_addA vok_add (po_b (pv 2)) (po_b (pv 1))) (pgf_sub (k := 3) (oi := .t (opF addD [.t (opF addD [.b 2, .b 1]), .t (litF (.int 1))])) (pv 3) (po_t (pf_bin op_addA vok_add (po_t (pf_bin op_addA vok_add (po_b (pv 2)) (po_b (pv 1)))) (po_t (pf_int))))))
      (psf_one (psf_ret (pf_tup (paf_cons (o := .t (litF (.int 0))) (po_t (pf_int)) (paf_cons (o := .t (tupF [.t (varF 2), .t (varF 2), .t (opF tupleD [.b 3])])) (po_t (pf_tup (paf_cons (o := .t (varF 2)) (po_t (pf_var (pv 2))) (paf_cons (o := .t (varF 2)) (po_t (pf_var (pv 2))) (paf_cons (o := .t (opF tupleD [.b 3])) (po_t (pf_callTy call_tuple_of vok_tuple (by rfl) T.z_tuple boot_tuple (paf_cons (o := .b 3) (po_b (pv 3)) paf_nil))) paf_nil))))) paf_nil))))))))))))
theorem ok_straight (T : Tx K mg) : FnOk P w K mg base CX0 1 T.f_straight T.fd_straight ["_law_n"] (spOf K fn_straight) := by
  unfold fn_straight
  refine fn_ok (k := 0) (x := "_law_straight") (qual := "_law_straight") (st := s_straight) (N := ["_law_n"]) (ps := ["_law_n"]) (pins := [true]) (fb := F_straight) T.F_straight sc_straight rfl (by decide) ?_
  intro cdv A outer s H E hr
  unfold F_straight
  exact psf_one (psf_ret (pf_tup (paf_cons (o := .t (varF 0)) (po_t (pf_var (pv 0))) (paf_cons (o := .t (varF 0)) (po_t (pf_var (pv 0))) (paf_cons (o := .t (opF tupleD [.t (opF addD [.t (opF (lrgD rng2D) [.b 0, .t (opF mulD [.t (litF (.int 2)), .b 0])]), .t (opF (lrgD rng1D) [.b 0])])])) (po_t (pf_callTy call_tuple_of vok_tuple (by rfl) T.z_tuple boot_tuple (paf_cons (o := .t (opF addD [.t (opF (lrgD rng2D) [.b 0, .t (opF mulD [.t (litF (.int 2)), .b 0])]), .t (opF (lrgD rng1D) [.b 0])])) (po_t (pf_bin op_addA vok_add (po_t (pf_lrg2 rfl (by rfl) T.z_list (by rfl) T.z_range (paf_cons (o := .b 0) (po_b (pv 0)) (paf_cons (o := .t (opF mulD [.t (litF (.int 2)), .b 0])) (po_t (pf_bin op_mulA vok_mul (po_t (pf_int)) (po_b (pv 0)))) paf_nil)))) (po_t (pf_lrg1 rfl (by rfl) T.z_list (by rfl) T.z_range (paf_cons (o := .b 0) (po_b (pv 0)) paf_nil))))) paf_nil))) paf_nil)))))
theorem ok_value (T : Tx K mg) : FnOk P w K mg base CX0 2 T.f_value T.fd_value ["_law_n", "_law_word_here"] (spOf K fn_value) := by
  unfold fn_value
  refine fn_ok (k := 1) (x := "_law_value") (qual := "_law_value") (st := s_value) (N := ["_law_n", "_law_word_here", "_law_rings", "_law_mat", "_law_index", "_law_more"]) (ps := ["_law_n", "_law_word_here"]) (pins := [true, true]) (fb := F_value) T.F_value sc_value rfl (by decide) ?_
  intro cdv A outer s H E hr
  unfold F_value
  exact psf_cons (f := parF [2, 3] [.t (litF (.int 0)), .t (callF fn_straight [.b 0])]) (psf_par2 (i := 2) (j := 3) rfl sc_value.nd rfl rfl  (by decide)  (by decide) rfl rfl  (paf_cons (o := .t (litF (.int 0))) (po_t (pf_int)) (paf_cons (o := .t (callF fn_straight [.b 0])) (po_t (pf_call (ok_straight T) (hr.mono (by decide)) (by rfl) T.g_straight T.F_straight.kp T.b_straight (paf_cons (o := .b 0) (po_b (pv 0)) paf_nil))) paf_nil)) rfl)
      (psf_cons (f := forF (itSeq (varF 1)) (tgN 4) (seqF (asgF (callF fn_hooked [.b 3, .b 4]) (tgT 2 (tgCons (tgN 5) (tgCons (tgN 3) (tgNil))))) <|
      asgF (opF addD [.b 2, .b 5]) (tgN 2))) (psf_for (fi := itSeq (varF 1)) (g := tgN 4) PassesOwn.never rfl (pif_seq (pf_var (pv 1))) (pgf_name (i := 4) sc_value.nd rfl (by first | exact .inl rfl | exact .inr rfl) (by decide)) (psf_cons (f := asgF (callF fn_hooked [.b 3, .b 4]) (tgT 2 (tgCons (tgN 5) (tgCons (tgN 3) (tgNil))))) (psf_asg (f := callF fn_hooked [.b 3, .b 4]) (g := tgT 2 (tgCons (tgN 5) (tgCons (tgN 3) (tgNil)))) (pf_call (ok_hooked T) (hr.mono (by decide)) (by rfl) T.g_hooked T.F_hooked.kp T.b_hooked (paf_cons (o := .b 3) (po_b (pv 3)) (paf_cons (o := .b 4) (po_b (pv 4)) paf_nil))) (pgf_tup rfl (pgsf_cons (pgf_name (i := 5) sc_value.nd rfl (by first | exact .inl rfl | exact .inr rfl) (by decide)) (pgsf_cons (pgf_name (i := 3) sc_value.nd rfl (by first | exact .inl rfl | exact .inr rfl) (by decide)) (pgsf_nil)))))
      (psf_one (psf_set (i := 2) sc_value.nd rfl (by first | exact .inl rfl | exact .inr rfl) (by decide) (pf_bin op_addA vok_add (po_b (pv 2)) (po_b (pv 5)))))))
      (psf_one (psf_ret (pf_tup (paf_cons (o := .t (movF 2)) (po_t (pf_mov (pv 2))) (paf_cons (o := .t (movF 3)) (po_t (pf_mov (pv 3))) paf_nil))))))
theorem ok_well (T : Tx K mg) : FnOk P w K mg base CX0 1 T.f_well T.fd_well ["_law_script"] (spOf K fn_well) := by
  unfold fn_well
  refine fn_ok (k := 0) (x := "_law_well") (qual := "_law_well") (st := s_well) (N := ["_law_script"]) (ps := ["_law_script"]) (pins := [true]) (fb := F_well) T.F_well sc_well rfl (by decide) ?_
  intro cdv A outer s H E hr
  unfold F_well
  exact psf_one (psf_ret (pf_lst (paf_cons (o := .t (frzF (opF listSD [.b 0]))) (po_t (pf_frz (pf_callTy call_list_of vok_listS (by rfl) T.z_list boot_list (paf_cons (o := .b 0) (po_b (pv 0)) paf_nil)))) (paf_cons (o := .t (litF (.int 0))) (po_t (pf_int)) (paf_cons (o := .t (litF (.int 0))) (po_t (pf_int)) (paf_cons (o := .t (litF (.int 90001))) (po_t (pf_int)) paf_nil))))))
theorem ok_word (T : Tx K mg) : FnOk P w K mg base CX0 2 T.f_word T.fd_word ["_law_well_here", "_law_n", "_law_most"] (spOf K fn_word) := by
  unfold fn_word
  refine fn_ok (k := 1) (x := "_law_word") (qual := "_law_word") (st := s_word) (N := ["_law_well_here", "_law_n", "_law_most", "_law_word_here", "_law_k", "_law_index", "_law_way"]) (ps := ["_law_well_here", "_law_n", "_law_most"]) (pins := [true, true, true]) (fb := F_word) T.F_word sc_word rfl (by decide) ?_
  intro cdv A outer s H E hr
  unfold F_word
  exact psf_cons (f := ifF (bT (opF (ltD) [.b 1, .t (litF (.int 2))])) (retF (tupF [])) (passF)) (psf_if (fc := bT (opF (ltD) [.b 1, .t (litF (.int 2))])) (pt_cmpf op_lt vok_lt (po_b (pv 1)) (po_t (pf_int)) (nomark _)) (psf_one (psf_ret (pf_tup paf_nil))) (psf_nil))
      (psf_cons (f := asgF (lstF []) (tgN 3)) (psf_set (i := 3) sc_word.nd rfl (by first | exact .inl rfl | exact .inr rfl) (by decide) (pf_lst paf_nil))
      (psf_cons (f := forF (itRg rng1D [.t (callF fn_dip [.b 0, .t (opF addD [.b 2, .t (litF (.int 1))])])]) (tgN 4) (seqF (asgF (callF fn_dip [.b 0, .t (opF subD [.b 1, .t (litF (.int 1))])]) (tgN 5)) <|
      seqF (asgF (callF fn_dip [.b 0, .t (litF (.int 4))]) (tgN 6)) <|
      seqF (ifF (andF (bT (opF (gtD) [.b 6, .t (litF (.int 1))])) (bT (opF (neD) [.b 3, .t (lstF [])]))) (asgF (opF min2D [.t (opF subD [.b 1, .t (litF (.int 2))]), .t (opF max2D [.t (litF (.int 0)), .t (opF addD [.t (opF ixD [.b 3, .t (opF negD [.t (litF (.int 1))])]), .t (opF ixD [.t (lstF [.t (opF negD [.t (litF (.int 1))]), .t (litF (.int 1))]), .t (opF subD [.b 6, .t (litF (.int 2))])])])])]) (tgN 5)) (ifF (andF (bT (opF (eqD) [.b 6, .t (litF (.int 1))])) (bT (opF (neD) [.b 3, .t (lstF [])]))) (asgF (opF ixD [.b 3, .t (callF fn_dip [.b 0, .t (opF lenD [.b 3])])]) (tgN 5)) (passF))) <|
      dropF (mutF 3 appD [.t (varF 5)]))) (psf_for (fi := itRg rng1D [.t (callF fn_dip [.b 0, .t (opF addD [.b 2, .t (litF (.int 1))])])]) (g := tgN 4) PassesOwn.never rfl (pif_rng1 (by rfl) T.z_range (paf_cons (o := .t (callF fn_dip [.b 0, .t (opF addD [.b 2, .t (litF (.int 1))])])) (po_t (pf_call (ok_dip T) (hr.mono (by decide)) (by rfl) T.g_dip T.F_dip.kp T.b_dip (paf_cons (o := .b 0) (po_b (pv 0)) (paf_cons (o := .t (opF addD [.b 2, .t (litF (.int 1))])) (po_t (pf_bin op_addA vok_add (po_b (pv 2)) (po_t (pf_int)))) paf_nil)))) paf_nil)) (pgf_name (i := 4) sc_word.nd rfl (by first | exact .inl rfl | exact .inr rfl) (by decide)) (psf_cons (f := asgF (callF fn_dip [.b 0, .t (opF subD [.b 1, .t (litF (.int 1))])]) (tgN 5)) (psf_set (i := 5) sc_word.nd rfl (by first | exact .inl rfl | exact .inr rfl) (by decide) (pf_call (ok_dip T) (hr.mono (by decide)) (by rfl) T.g_dip T.F_dip.kp T.b_dip (paf_cons (o := .b 0) (po_b (pv 0)) (paf_cons (o := .t (opF subD [.b 1, .t (litF (.int 1))])) (po_t (pf_bin op_sub vok_sub (po_b (pv 1)) (po_t (pf_int)))) paf_nil))))
      (psf_cons (f := asgF (callF fn_dip [.b 0, .t (litF (.int 4))]) (tgN 6)) (psf_set (i := 6) sc_word.nd rfl (by first | exact .inl rfl | exact .inr rfl) (by decide) (pf_call (ok_dip T) (hr.mono (by decide)) (by rfl) T.g_dip T.F_dip.kp T.b_dip (paf_cons (o := .b 0) (po_b (pv 0)) (paf_cons (o := .t (litF (.int 4))) (po_t (pf_int)) paf_nil))))
      (psf_cons (f := ifF (andF (bT (opF (gtD) [.b 6, .t (litF (.int 1))])) (bT (opF (neD) [.b 3, .t (lstF [])]))) (asgF (opF min2D [.t (opF subD [.b 1, .t (litF (.int 2))]), .t (opF max2D [.t (litF (.int 0)), .t (opF addD [.t (opF ixD [.b 3, .t (opF negD [.t (litF (.int 1))])]), .t (opF ixD [.t (lstF [.t (opF negD [.t (litF (.int 1))]), .t (litF (.int 1))]), .t (opF subD [.b 6, .t (litF (.int 2))])])])])]) (tgN 5)) (ifF (andF (bT (opF (eqD) [.b 6, .t (litF (.int 1))])) (bT (opF (neD) [.b 3, .t (lstF [])]))) (asgF (opF ixD [.b 3, .t (callF fn_dip [.b 0, .t (opF lenD [.b 3])])]) (tgN 5)) (passF))) (psf_if (fc := andF (bT (opF (gtD) [.b 6, .t (litF (.int 1))])) (bT (opF (neD) [.b 3, .t (lstF [])]))) ((pwf_and (pt_cmpf op_gt vok_gt (po_b (pv 6)) (po_t (pf_int)) (nomark _)) (pwf_and1 (pt_cmpf (op_neD hr.units) vok_ne (po_b (pv 3)) (po_t (pf_lst paf_nil)) (nomark _)))).pt) (psf_one (psf_set (i := 5) sc_word.nd rfl (by first | exact .inl rfl | exact .inr rfl) (by decide) (pf_callB (call_min2 rfl) vok_min2 (by rfl) T.z_min (by decide +kernel) (paf_cons (o := .t (opF subD [.b 1, .t (litF (.int 2))])) (po_t (pf_bin op_sub vok_sub (po_b (pv 1)) (po_t (pf_int)))) (paf_cons (o := .t (opF max2D [.t (litF (.int 0)), .t (opF addD [.t (opF ixD [.b 3, .t (opF negD [.t (litF (.int 1))])]), .t (opF ixD [.t (lstF [.t (opF negD [.t (litF (.int 1))]), .t (litF (.int 1))]), .t (opF subD [.b 6, .t (litF (.int 2))])])])])) (po_t (pf_callB (call_max2 rfl) vok_max2 (by rfl) T.z_max (by decide +kernel) (paf_cons (o := .t (litF (.int 0))) (po_t (pf_int)) (paf_cons (o := .t (opF addD [.t (opF ixD [.b 3, .t (opF negD [.t (litF (.int 1))])]), .t (opF ixD [.t (lstF [.t (opF negD [.t (litF (.int 1))]), .t (litF (.int 1))]), .t (opF subD [.b 6, .t (litF (.int 2))])])])) (po_t (pf_bin op_addA vok_add (po_t (pf_ix ix_seq vok_ix (po_b (pv 3)) (po_t (pf_un un_neg vok_neg (po_t (pf_int)))) (fun _ _ => rfl))) (po_t (pf_ix ix_seq vok_ix (po_t (pf_lst (paf_cons (o := .t (opF negD [.t (litF (.int 1))])) (po_t (pf_un un_neg vok_neg (po_t (pf_int)))) (paf_cons (o := .t (litF (.int 1))) (po_t (pf_int)) paf_nil)))) (po_t (pf_bin op_sub vok_sub (po_b (pv 6)) (po_t (pf_int)))) (fun _ _ => rfl))))) paf_nil)))) paf_nil))))) (psf_one (psf_if (fc := andF (bT (opF (eqD) [.b 6, .t (litF (.int 1))])) (bT (opF (neD) [.b 3, .t (lstF [])]))) ((pwf_and (pt_cmpf (op_eqD hr.units) vok_eq (po_b (pv 6)) (po_t (pf_int)) (nomark _)) (pwf_and1 (pt_cmpf (op_neD hr.units) vok_ne (po_b (pv 3)) (po_t (pf_lst paf_nil)) (nomark _)))).pt) (psf_one (psf_set (i := 5) sc_word.nd rfl (by first | exact .inl rfl | exact .inr rfl) (by decide) (pf_ix ix_seq vok_ix (po_b (pv 3)) (po_t (pf_call (ok_dip T) (hr.mono (by decide)) (by rfl) T.g_dip T.F_dip.kp T.b_dip (paf_cons (o := .b 0) (po_b (pv 0)) (paf_cons (o := .t (opF lenD [.b 3])) (po_t (pf_callB call_len_seq vok_len (by rfl) T.z_len PySem.boot_len (paf_cons (o := .b 3) (po_b (pv 3)) paf_nil))) paf_nil)))) (fun _ _ => rfl)))) (psf_nil))))
      (psf_one (psf_expr (pf_append (i := 3) (pv 3) (paf_cons (o := .t (varF 5)) (po_t (pf_var (pv 5))) paf_nil))))))))
      (psf_one (psf_ret (pf_callTy call_tuple_of vok_tuple (by rfl) T.z_tuple boot_tuple (paf_cons (o := .b 3) (po_b (pv 3)) paf_nil))))))
theorem ok_p_far_end (T : Tx K mg) : FnOk P w K mg base CX0 1 T.f_p_far_end T.fd_p_far_end ["one", "other", "peg", "passed"] (spOf K fn_p_far_end) := by
  unfold fn_p_far_end
  refine fn_ok (k := 0) (x := "far_end") (qual := "far_end") (st := s_p_far_end) (N := ["one", "other", "peg", "passed", "n", "middle", "ahead", "at"]) (ps := ["one", "other", "peg", "passed"]) (pins := [true, true, true, true]) (fb := F_p_far_end) T.F_p_far_end sc_p_far_end rfl (by decide) ?_
  intro cdv A outer s H E hr
  unfold F_p_far_end
  exact psf_cons (f := parF [4, 5] [.t (opF ixD [.b 0, .t (litF (.int 0))]), .t (opF ixD [.b 0, .t (litF (.int 1))])]) (psf_par2 (i := 4) (j := 5) rfl sc_p_far_end.nd rfl rfl  (by decide)  (by decide) rfl rfl  (paf_cons (o := .t (opF ixD [.b 0, .t (litF (.int 0))])) (po_t (pf_ix ix_seq vok_ix (po_b (pv 0)) (po_t (pf_int)) (fun _ _ => rfl))) (paf_cons (o := .t (opF ixD [.b 0, .t (litF (.int 1))])) (po_t (pf_ix ix_seq vok_ix (po_b (pv 0)) (po_t (pf_int)) (fun _ _ => rfl))) paf_nil)) rfl)
      (psf_cons (f := asgF (opF (ltD) [.b 2, .b 4]) (tgN 6)) (psf_set (i := 6) sc_p_far_end.nd rfl (by first | exact .inl rfl | exact .inr rfl) (by decide) (pf_cmp op_lt vok_lt (po_b (pv 2)) (po_b (pv 4)) (nomark _)))
      (psf_cons (f := asgF (ifE (tstF (.b 6)) (opF ixD [.t (opF ixD [.b 0, .t (litF (.int 2))]), .b 2]) (opF ixD [.t (opF ixD [.b 1, .t (litF (.int 2))]), .t (opF subD [.t (opF addD [.b 5, .b 2]), .b 4])])) (tgN 7)) (psf_set (i := 7) sc_p_far_end.nd rfl (by first | exact .inl rfl | exact .inr rfl) (by decide) (pf_if (pt_tst (o := .b 6) (po_b (pv 6))) (pf_ix ix_seq vok_ix (po_t (pf_ix ix_seq vok_ix (po_b (pv 0)) (po_t (pf_int)) (fun _ _ => rfl))) (po_b (pv 2)) (fun _ _ => rfl)) (pf_ix ix_seq vok_ix (po_t (pf_ix ix_seq vok_ix (po_b (pv 1)) (po_t (pf_int)) (fun _ _ => rfl))) (po_t (pf_bin op_sub vok_sub (po_t (pf_bin op_addA vok_add (po_b (pv 5)) (po_b (pv 2)))) (po_b (pv 4)))) (fun _ _ => rfl))))
      (psf_one (psf_while (fc := tstF (.t (litF (.bl true)))) FUEL PassesOwn.never (pt_tst (o := .t (litF (.bl true))) (po_t (pf_bl))) (psf_cons (f := ifF (tstF (.b 6)) (seqF (ifF (bT (opF (ltD) [.b 7, .b 4])) (retF (movF 7)) (passF)) <|
      seqF (augF 7 isubD (.b 4)) <|
      seqF (asgF (litF (.bl true)) (tgSub 3 (.b 7))) <|
      asgF (opF ixD [.t (opF ixD [.b 1, .t (litF (.int 2))]), .b 7]) (tgN 7)) (seqF (ifF (bT (opF (geD) [.b 7, .b 5])) (retF (opF subD [.t (opF addD [.b 4, .b 7]), .b 5])) (passF)) <|
      seqF (asgF (litF (.bl true)) (tgSub 3 (.b 7))) <|
      asgF (opF ixD [.t (opF ixD [.b 0, .t (litF (.int 2))]), .t (opF addD [.b 4, .b 7])]) (tgN 7))) (psf_if (fc := tstF (.b 6)) (pt_tst (o := .b 6) (po_b (pv 6))) (psf_cons (f := ifF (bT (opF (ltD) [.b 7, .b 4])) (retF (movF 7)) (passF)) (psf_if (fc := bT (opF (ltD) [.b 7, .b 4])) (pt_cmpf op_lt vok_lt (po_b (pv 7)) (po_b (pv 4)) (nomark _)) (psf_one (psf_ret (pf_mov (pv 7)))) (psf_nil))
      (psf_cons (f := augF 7 isubD (.b 4)) (psf_aug (i := 7) (o := .b 4) sc_p_far_end.nd rfl (by first | exact .inl rfl | exact .inr rfl) (by decide) (po_b (pv 4)) ip_sub vok_isub)
      (psf_cons (f := asgF (litF (.bl true)) (tgSub 3 (.b 7))) (psf_asg (f := litF (.bl true)) (g := tgSub 3 (.b 7)) (pf_bl) (pgf_sub (k := 3) (oi := .b 7) (pv 3) (po_b (pv 7))))
      (psf_one (psf_set (i := 7) sc_p_far_end.nd rfl (by first | exact .inl rfl | exact .inr rfl) (by decide) (pf_ix ix_seq vok_ix (po_t (pf_ix ix_seq vok_ix (po_b (pv 1)) (po_t (pf_int)) (fun _ _ => rfl))) (po_b (pv 7)) (fun _ _ => rfl))))))) (psf_cons (f := ifF (bT (opF (geD) [.b 7, .b 5])) (retF (opF subD [.t (opF addD [.b 4, .b 7]), .b 5])) (passF)) (psf_if (fc := bT (opF (geD) [.b 7, .b 5])) (pt_cmpf op_ge vok_ge (po_b (pv 7)) (po_b (pv 5)) (nomark _)) (psf_one (psf_ret (pf_bin op_sub vok_sub (po_t (pf_bin op_addA vok_add (po_b (pv 4)) (po_b (pv 7)))) (po_b (pv 5))))) (psf_nil))
      (psf_cons (f := asgF (litF (.bl true)) (tgSub 3 (.b 7))) (psf_asg (f := litF (.bl true)) (g := tgSub 3 (.b 7)) (pf_bl) (pgf_sub (k := 3) (oi := .b 7) (pv 3) (po_b (pv 7))))
      (psf_one (psf_set (i := 7) sc_p_far_end.nd rfl (by first | exact .inl rfl | exact .inr rfl) (by decide) (pf_ix ix_seq vok_ix (po_t (pf_ix ix_seq vok_ix (po_b (pv 0)) (po_t (pf_int)) (fun _ _ => rfl))) (po_t (pf_bin op_addA vok_add (po_b (pv 4)) (po_b (pv 7)))) (fun _ _ => rfl)))))))
      (psf_one (psf_set (i := 6) sc_p_far_end.nd rfl (by first | exact .inl rfl | exact .inr rfl) (by decide) (pf_not (pf_var (pv 6))))))))))
theorem ok_p_loose_rings (T : Tx K mg) : FnOk P w K mg base CX0 1 T.f_p_loose_rings T.fd_p_loose_rings ["one", "other", "passed"] (spOf K fn_p_loose_rings) := by
  unfold fn_p_loose_rings
  refine fn_ok (k := 0) (x := "loose_rings") (qual := "loose_rings") (st := s_p_loose_rings) (N := ["one", "other", "passed", "n", "rings", "start", "at"]) (ps := ["one", "other", "passed"]) (pins := [true, true, true]) (fb := F_p_loose_rings) T.F_p_loose_rings sc_p_loose_rings rfl (by decide) ?_
  intro cdv A outer s H E hr
  unfold F_p_loose_rings
  exact psf_cons (f := asgF (opF ixD [.b 0, .t (litF (.int 0))]) (tgN 3)) (psf_set (i := 3) sc_p_loose_rings.nd rfl (by first | exact .inl rfl | exact .inr rfl) (by decide) (pf_ix ix_seq vok_ix (po_b (pv 0)) (po_t (pf_int)) (fun _ _ => rfl)))
      (psf_cons (f := asgF (litF (.int 0)) (tgN 4)) (psf_set (i := 4) sc_p_loose_rings.nd rfl (by first | exact .inl rfl | exact .inr rfl) (by decide) (pf_int))
      (psf_cons (f := forF (itRg rng1D [.t (opF ixD [.b 0, .t (litF (.int 1))])]) (tgN 5) (ifF (notF (tstF (.t (opF ixD [.b 2, .b 5])))) (seqF (augF 4 iaddD (.t (litF (.int 1)))) <|
      seqF (asgF (varF 5) (tgN 6)) <|
      whF FUEL (notF (tstF (.t (opF ixD [.b 2, .b 6])))) (seqF (asgF (litF (.bl true)) (tgSub 2 (.b 6))) <|
      seqF (asgF (opF subD [.t (opF ixD [.t (opF ixD [.b 0, .t (litF (.int 2))]), .t (opF addD [.b 3, .b 6])]), .b 3]) (tgN 6)) <|
      seqF (asgF (litF (.bl true)) (tgSub 2 (.b 6))) <|
      asgF (opF ixD [.t (opF ixD [.b 1, .t (litF (.int 2))]), .b 6]) (tgN 6))) (passF))) (psf_for (fi := itRg rng1D [.t (opF ixD [.b 0, .t (litF (.int 1))])]) (g := tgN 5) PassesOwn.never rfl (pif_rng1 (by rfl) T.z_range (paf_cons (o := .t (opF ixD [.b 0, .t (litF (.int 1))])) (po_t (pf_ix ix_seq vok_ix (po_b (pv 0)) (po_t (pf_int)) (fun _ _ => rfl))) paf_nil)) (pgf_name (i := 5) sc_p_loose_rings.nd rfl (by first | exact .inl rfl | exact .inr rfl) (by decide)) (psf_one (psf_if (fc := notF (tstF (.t (opF ixD [.b 2, .b 5])))) (ptf_not (pt_tst (o := .t (opF ixD [.b 2, .b 5])) (po_t (pf_ix ix_seq vok_ix (po_b (pv 2)) (po_b (pv 5)) (fun _ _ => rfl))))) (psf_cons (f := augF 4 iaddD (.t (litF (.int 1)))) (psf_aug (i := 4) (o := .t (litF (.int 1))) sc_p_loose_rings.nd rfl (by first | exact .inl rfl | exact .inr rfl) (by decide) (po_t (pf_int)) ip_add vok_iadd)
      (psf_cons (f := asgF (varF 5) (tgN 6)) (psf_set (i := 6) sc_p_loose_rings.nd rfl (by first | exact .inl rfl | exact .inr rfl) (by decide) (pf_var (pv 5)))
      (psf_one (psf_while (fc := notF (tstF (.t (opF ixD [.b 2, .b 6])))) FUEL PassesOwn.never (ptf_not (pt_tst (o := .t (opF ixD [.b 2, .b 6])) (po_t (pf_ix ix_seq vok_ix (po_b (pv 2)) (po_b (pv 6)) (fun _ _ => rfl))))) (psf_cons (f := asgF (litF (.bl true)) (tgSub 2 (.b 6))) (psf_asg (f := litF (.bl true)) (g := tgSub 2 (.b 6)) (pf_bl) (pgf_sub (k := 2) (oi := .b 6) (pv 2) (po_b (pv 6))))
      (psf_cons (f := asgF (opF subD [.t (opF ixD [.t (opF ixD [.b 0, .t (litF (.int 2))]), .t (opF addD [.b 3, .b 6])]), .b 3]) (tgN 6)) (psf_set (i := 6) sc_p_loose_rings.nd rfl (by first | exact .inl rfl | exact .inr rfl) (by decide) (pf_bin op_sub vok_sub (po_t (pf_ix ix_seq vok_ix (po_t (pf_ix ix_seq vok_ix (po_b (pv 0)) (po_t (pf_int)) (fun _ _ => rfl))) (po_t (pf_bin op_addA vok_add (po_b (pv 3)) (po_b (pv 6)))) (fun _ _ => rfl))) (po_b (pv 3))))
      (psf_cons (f := asgF (litF (.bl true)) (tgSub 2 (.b 6))) (psf_asg (f := litF (.bl true)) (g := tgSub 2 (.b 6)) (pf_bl) (pgf_sub (k := 2) (oi := .b 6) (pv 2) (po_b (pv 6))))
      (psf_one (psf_set (i := 6) sc_p_loose_rings.nd rfl (by first | exact .inl rfl | exact .inr rfl) (by decide) (pf_ix ix_seq vok_ix (po_t (pf_ix ix_seq vok_ix (po_b (pv 1)) (po_t (pf_int)) (fun _ _ => rfl))) (po_b (pv 6)) (fun _ _ => rfl))))))))))) (psf_nil))))
      (psf_one (psf_ret (pf_mov (pv 4))))))
theorem ok_p_put_behind (T : Tx K mg) : FnOk P w K mg base CX0 2 T.f_p_put_behind T.fd_p_put_behind ["one", "other"] (spOf K fn_p_put_behind) := by
  unfold fn_p_put_behind
  refine fn_ok (k := 1) (x := "put_behind") (qual := "put_behind") (st := s_p_put_behind) (N := ["one", "other", "n", "k", "passed", "mates", "peg"]) (ps := ["one", "other"]) (pins := [true, true]) (fb := F_p_put_behind) T.F_p_put_behind sc_p_put_behind rfl (by decide) ?_
  intro cdv A outer s H E hr
  unfold F_p_put_behind
  exact psf_cons (f := parF [2, 3] [.t (opF ixD [.b 0, .t (litF (.int 0))]), .t (opF ixD [.b 1, .t (litF (.int 1))])]) (psf_par2 (i := 2) (j := 3) rfl sc_p_put_behind.nd rfl rfl  (by decide)  (by decide) rfl rfl  (paf_cons (o := .t (opF ixD [.b 0, .t (litF (.int 0))])) (po_t (pf_ix ix_seq vok_ix (po_b (pv 0)) (po_t (pf_int)) (fun _ _ => rfl))) (paf_cons (o := .t (opF ixD [.b 1, .t (litF (.int 1))])) (po_t (pf_ix ix_seq vok_ix (po_b (pv 1)) (po_t (pf_int)) (fun _ _ => rfl))) paf_nil)) rfl)
      (psf_cons (f := asgF (opF mulD [.t (lstF [.t (litF (.bl false))]), .t (opF ixD [.b 0, .t (litF (.int 1))])]) (tgN 4)) (psf_set (i := 4) sc_p_put_behind.nd rfl (by first | exact .inl rfl | exact .inr rfl) (by decide) (pf_bin op_mulA vok_mul (po_t (pf_lst (paf_cons (o := .t (litF (.bl false))) (po_t (pf_bl)) paf_nil))) (po_t (pf_ix ix_seq vok_ix (po_b (pv 0)) (po_t (pf_int)) (fun _ _ => rfl)))))
      (psf_cons (f := asgF (lstF []) (tgN 5)) (psf_set (i := 5) sc_p_put_behind.nd rfl (by first | exact .inl rfl | exact .inr rfl) (by decide) (pf_lst paf_nil))
      (psf_cons (f := forF (itRg rng1D [.t (opF addD [.b 2, .b 3])]) (tgN 6) (dropF (mutF 5 appD [.t (callF fn_p_far_end [.b 0, .b 1, .b 6, .b 4])]))) (psf_for (fi := itRg rng1D [.t (opF addD [.b 2, .b 3])]) (g := tgN 6) PassesOwn.never rfl (pif_rng1 (by rfl) T.z_range (paf_cons (o := .t (opF addD [.b 2, .b 3])) (po_t (pf_bin op_addA vok_add (po_b (pv 2)) (po_b (pv 3)))) paf_nil)) (pgf_name (i := 6) sc_p_put_behind.nd rfl (by first | exact .inl rfl | exact .inr rfl) (by decide)) (psf_one (psf_expr (pf_append (i := 5) (pv 5) (paf_cons (o := .t (callF fn_p_far_end [.b 0, .b 1, .b 6, .b 4])) (po_t (pf_call (ok_p_far_end T) (hr.mono (by decide)) (by rfl) T.g_p_far_end T.F_p_far_end.kp T.b_p_far_end (paf_cons (o := .b 0) (po_b (pv 0)) (paf_cons (o := .b 1) (po_b (pv 1)) (paf_cons (o := .b 6) (po_b (pv 6)) (paf_cons (o := .b 4) (po_b (pv 4)) paf_nil)))))) paf_nil)))))
      (psf_one (psf_ret (pf_tup (paf_cons (o := .t (callF fn_p_loose_rings [.b 0, .b 1, .b 4])) (po_t (pf_call (ok_p_loose_rings T) (hr.mono (by decide)) (by rfl) T.g_p_loose_rings T.F_p_loose_rings.kp T.b_p_loose_rings (paf_cons (o := .b 0) (po_b (pv 0)) (paf_cons (o := .b 1) (po_b (pv 1)) (paf_cons (o := .b 4) (po_b (pv 4)) paf_nil))))) (paf_cons (o := .t (movF 2)) (po_t (pf_mov (pv 2))) (paf_cons (o := .t (movF 3)) (po_t (pf_mov (pv 3))) (paf_cons (o := .t (opF tupleD [.b 5])) (po_t (pf_callTy call_tuple_of vok_tuple (by rfl) T.z_tuple boot_tuple (paf_cons (o := .b 5) (po_b (pv 5)) paf_nil))) paf_nil))))))))))
theorem ok_p_chained (T : Tx K mg) : FnOk P w K mg base CX0 3 T.f_p_chained T.fd_p_chained ["one", "other"] (spOf K fn_p_chained) := by
  unfold fn_p_chained
  refine fn_ok (k := 2) (x := "chained") (qual := "chained") (st := s_p_chained) (N := ["one", "other", "rings", "n", "k", "mates"]) (ps := ["one", "other"]) (pins := [true, true]) (fb := F_p_chained) T.F_p_chained sc_p_chained rfl (by decide) ?_
  intro cdv A outer s H E hr
  unfold F_p_chained
  exact psf_cons (f := asgF (callF fn_p_put_behind [.t (opF ixD [.b 0, .t (litF (.int 1))]), .t (opF ixD [.b 1, .t (litF (.int 1))])]) (tgT 4 (tgCons (tgN 2) (tgCons (tgN 3) (tgCons (tgN 4) (tgCons (tgN 5) (tgNil))))))) (psf_asg (f := callF fn_p_put_behind [.t (opF ixD [.b 0, .t (litF (.int 1))]), .t (opF ixD [.b 1, .t (litF (.int 1))])]) (g := tgT 4 (tgCons (tgN 2) (tgCons (tgN 3) (tgCons (tgN 4) (tgCons (tgN 5) (tgNil)))))) (pf_call (ok_p_put_behind T) (hr.mono (by decide)) (by rfl) T.g_p_put_behind T.F_p_put_behind.kp T.b_p_put_behind (paf_cons (o := .t (opF ixD [.b 0, .t (litF (.int 1))])) (po_t (pf_ix ix_seq vok_ix (po_b (pv 0)) (po_t (pf_int)) (fun _ _ => rfl))) (paf_cons (o := .t (opF ixD [.b 1, .t (litF (.int 1))])) (po_t (pf_ix ix_seq vok_ix (po_b (pv 1)) (po_t (pf_int)) (fun _ _ => rfl))) paf_nil))) (pgf_tup rfl (pgsf_cons (pgf_name (i := 2) sc_p_chained.nd rfl (by first | exact .inl rfl | exact .inr rfl) (by decide)) (pgsf_cons (pgf_name (i := 3) sc_p_chained.nd rfl (by first | exact .inl rfl | exact .inr rfl) (by decide)) (pgsf_cons (pgf_name (i := 4) sc_p_chained.nd rfl (by first | exact .inl rfl | exact .inr rfl) (by decide)) (pgsf_cons (pgf_name (i := 5) sc_p_chained.nd rfl (by first | exact .inl rfl | exact .inr rfl) (by decide)) (pgsf_nil)))))))
      (psf_one (psf_ret (pf_tup (paf_cons (o := .t (opF addD [.t (opF addD [.t (opF ixD [.b 0, .t (litF (.int 0))]), .t (opF ixD [.b 1, .t (litF (.int 0))])]), .b 2])) (po_t (pf_bin op_addA vok_add (po_t (pf_bin op_addA vok_add (po_t (pf_ix ix_seq vok_ix (po_b (pv 0)) (po_t (pf_int)) (fun _ _ => rfl))) (po_t (pf_ix ix_seq vok_ix (po_b (pv 1)) (po_t (pf_int)) (fun _ _ => rfl))))) (po_b (pv 2)))) (paf_cons (o := .t (tupF [.t (movF 3), .t (movF 4), .t (movF 5)])) (po_t (pf_tup (paf_cons (o := .t (movF 3)) (po_t (pf_mov (pv 3))) (paf_cons (o := .t (movF 4)) (po_t (pf_mov (pv 4))) (paf_cons (o := .t (movF 5)) (po_t (pf_mov (pv 5))) paf_nil))))) paf_nil)))))
theorem ok_p_check_size (T : Tx K mg) : FnOk P w K mg base CX0 1 T.f_p_check_size T.fd_p_check_size ["n"] (spOf K fn_p_check_size) := by
  unfold fn_p_check_size
  refine fn_ok (k := 0) (x := "check_size") (qual := "check_size") (st := s_p_check_size) (N := ["n"]) (ps := ["n"]) (pins := [true]) (fb := F_p_check_size) T.F_p_check_size sc_p_check_size rfl (by decide) ?_
  intro cdv A outer s H E hr
  unfold F_p_check_size
  exact psf_one (psf_if (fc := bT (opF (ltD) [.b 0, .t (litF (.int 1))])) (pt_cmpf op_lt vok_lt (po_b (pv 0)) (po_t (pf_int)) (nomark _)) (psf_one (psf_never)) (psf_nil))
theorem ok_p_check_words (T : Tx K mg) : FnR P w K mg base CX0 2 T.f_p_check_words (spStar K fn_p_check_words 1) := by
  unfold fn_p_check_words
  refine star_ok (k := 1) (x := "check_words") (qual := "check_words") (pv := "words") (st := s_p_check_words) (N := ["n", "words", "word", "index"]) (ps := ["n"]) (pins := [true, true]) (fb := F_p_check_words) T.F_p_check_words sc_p_check_words rfl (by decide) (fun _ _ _ _ _ _ us rest hl => match us, rest, hl with | [_], [], _ => rfl | [_], _ :: _, _ => rfl) ?_
  intro cdv A outer s H E hr
  unfold F_p_check_words
  exact psf_cons (f := dropF (callF fn_p_check_size [.b 0])) (psf_expr (pf_call (ok_p_check_size T) (hr.mono (by decide)) (by rfl) T.g_p_check_size T.F_p_check_size.kp T.b_p_check_size (paf_cons (o := .b 0) (po_b (pv 0)) paf_nil)))
      (psf_one (psf_for (fi := itSeq (varF 1)) (g := tgN 2) PassesOwn.never rfl (pif_seq (pf_var (pv 1))) (pgf_name (i := 2) sc_p_check_words.nd rfl (by first | exact .inl rfl | exact .inr rfl) (by decide)) (psf_one (psf_for (fi := itSeq (varF 2)) (g := tgN 3) PassesOwn.never rfl (pif_seq (pf_var (pv 2))) (pgf_name (i := 3) sc_p_check_words.nd rfl (by first | exact .inl rfl | exact .inr rfl) (by decide)) (psf_one (psf_if (fc := notF (bT (chainF (fun i j => decide (i ≤ j)) (fun i j => decide (i < j)) (.t (litF (.int 0))) (.b 3) (.t (opF subD [.b 0, .t (litF (.int 1))]))))) (ptf_not (pt_chainf (o1 := .t (litF (.int 0))) (o2 := .b 3) (o3 := .t (opF subD [.b 0, .t (litF (.int 1))])) op_le op_lt (po_t (pf_int)) (po_b (pv 3)) (po_t (pf_bin op_sub vok_sub (po_b (pv 0)) (po_t (pf_int)))))) (psf_one (psf_never)) (psf_nil)))))))
theorem ok_p_straight (T : Tx K mg) : FnOk P w K mg base CX0 2 T.f_p_straight T.fd_p_straight ["n"] (spOf K fn_p_straight) := by
  unfold fn_p_straight
  refine fn_ok (k := 1) (x := "straight") (qual := "straight") (st := s_p_straight) (N := ["n"]) (ps := ["n"]) (pins := [true]) (fb := F_p_straight) T.F_p_straight sc_p_straight rfl (by decide) ?_
  intro cdv A outer s H E hr
  unfold F_p_straight
  exact psf_cons (f := dropF (callF fn_p_check_size [.b 0])) (psf_expr (pf_call (ok_p_check_size T) (hr.mono (by decide)) (by rfl) T.g_p_check_size T.F_p_check_size.kp T.b_p_check_size (paf_cons (o := .b 0) (po_b (pv 0)) paf_nil)))
      (psf_one (psf_ret (pf_tup (paf_cons (o := .t (varF 0)) (po_t (pf_var (pv 0))) (paf_cons (o := .t (varF 0)) (po_t (pf_var (pv 0))) (paf_cons (o := .t (opF tupleD [.t (opF addD [.t (opF (lrgD rng2D) [.b 0, .t (opF mulD [.t (litF (.int 2)), .b 0])]), .t (opF (lrgD rng1D) [.b 0])])])) (po_t (pf_callTy call_tuple_of vok_tuple (by rfl) T.z_tuple boot_tuple (paf_cons (o := .t (opF addD [.t (opF (lrgD rng2D) [.b 0, .t (opF mulD [.t (litF (.int 2)), .b 0])]), .t (opF (lrgD rng1D) [.b 0])])) (po_t (pf_bin op_addA vok_add (po_t (pf_lrg2 rfl (by rfl) T.z_list (by rfl) T.z_range (paf_cons (o := .b 0) (po_b (pv 0)) (paf_cons (o := .t (opF mulD [.t (litF (.int 2)), .b 0])) (po_t (pf_bin op_mulA vok_mul (po_t (pf_int)) (po_b (pv 0)))) paf_nil)))) (po_t (pf_lrg1 rfl (by rfl) T.z_list (by rfl) T.z_range (paf_cons (o := .b 0) (po_b (pv 0)) paf_nil))))) paf_nil))) paf_nil))))))
theorem ok_p_hook (T : Tx K mg) : FnOk P w K mg base CX0 3 T.f_p_hook T.fd_p_hook ["n", "i"] (spOf K fn_p_hook) := by
  unfold fn_p_hook
  refine fn_ok (k := 2) (x := "hook") (qual := "hook") (st := s_p_hook) (N := ["n", "i", "row"]) (ps := ["n", "i"]) (pins := [true, true]) (fb := F_p_hook) T.F_p_hook sc_p_hook rfl (by decide) ?_
  intro cdv A outer s H E hr
  unfold F_p_hook
  exact psf_cons (f := dropF (callF fn_p_check_size [.b 0])) (psf_expr (pf_call (ok_p_check_size T) (hr.mono (by decide)) (by rfl) T.g_p_check_size T.F_p_check_size.kp T.b_p_check_size (paf_cons (o := .b 0) (po_b (pv 0)) paf_nil)))
      (psf_cons (f := ifF (orF (bT (opF (ltD) [.b 1, .t (litF (.int 0))])) (bT (opF (gtD) [.b 1, .t (opF subD [.b 0, .t (litF (.int 2))])]))) (neverF) (passF)) (psf_if (fc := orF (bT (opF (ltD) [.b 1, .t (litF (.int 0))])) (bT (opF (gtD) [.b 1, .t (opF subD [.b 0, .t (litF (.int 2))])]))) ((pwf_or (pt_cmpf op_lt vok_lt (po_b (pv 1)) (po_t (pf_int)) (nomark _)) (pwf_or1 (pt_cmpf op_gt vok_gt (po_b (pv 1)) (po_t (pf_bin op_sub vok_sub (po_b (pv 0)) (po_t (pf_int)))) (nomark _)))).pt) (psf_one (psf_never)) (psf_nil))
      (psf_cons (f := asgF (opF listD [.t (opF ixD [.t (callF fn_p_straight [.b 0]), .t (litF (.int 2))])]) (tgN 2)) (psf_set (i := 2) sc_p_hook.nd rfl (by first | exact .inl rfl | exact .inr rfl) (by decide) (pf_callTy call_list_of vok_list (by rfl) T.z_list boot_list (paf_cons (o := .t (opF ixD [.t (callF fn_p_straight [.b 0]), .t (litF (.int 2))])) (po_t (pf_ix ix_seq vok_ix (po_t (pf_call (ok_p_straight T) (hr.mono (by decide)) (by rfl) T.g_p_straight T.F_p_straight.kp T.b_p_straight (paf_cons (o := .b 0) (po_b (pv 0)) paf_nil))) (po_t (pf_int)) (fun _ _ => rfl))) paf_nil)))
      (psf_cons (f := asgF (tupF [.t (opF addD [.b 1, .t (litF (.int 1))]), .t (varF 1)]) (tgT 2 (tgCons (tgSub 2 (.b 1)) (tgCons (tgSub 2 (.t (opF addD [.b 1, .t (litF (.int 1))]))) (tgNil))))) (psf_asg (f := tupF [.t (opF addD [.b 1, .t (litF (.int 1))]), .t (varF 1)]) (g := tgT 2 (tgCons (tgSub 2 (.b 1)) (tgCons (tgSub 2 (.t (opF addD [.b 1, .t (litF (.int 1))]))) (tgNil)))) (pf_tup (paf_cons (o := .t (opF addD [.b 1, .t (litF (.int 1))])) (po_t (pf_bin op_addA vok_add (po_b (pv 1)) (po_t (pf_int)))) (paf_cons (o := .t (varF 1)) (po_t (pf_var (pv 1))) paf_nil))) (pgf_tup rfl (pgsf_cons (pgf_sub (k := 2) (oi := .b 1) (pv 2) (po_b (pv 1))) (pgsf_cons (pgf_sub (k := 2) (oi := .t (opF addD [.b 1, .t (litF (.int 1))])) (pv 2) (po_t (pf_bin op_addA vok_add (po_b (pv 1)) (po_t (pf_int))))) (pgsf_nil)))))
      (psf_cons (f := asgF (tupF [.t (opF addD [.t (opF addD [.b 0, .b 1]), .t (litF (.int 1))]), .t (opF addD [.b 0, .b 1])]) (tgT 2 (tgCons (tgSub 2 (.t (opF addD [.b 0, .b 1]))) (tgCons (tgSub 2 (.t (opF addD [.t (opF addD [.b 0, .b 1]), .t (litF (.int 1))]))) (tgNil))))) (psf_asg (f := tupF [.t (opF addD [.t (opF addD [.b 0, .b 1]), .t (litF (.int 1))]), .t (opF addD [.b 0, .b 1])]) (g := tgT 2 (tgCons (tgSub 2 (.t (opF addD [.b 0, .b 1]))) (tgCons (tgSub 2 (.t (opF addD [.t (opF addD [.b 0, .b 1]), .t (litF (.int 1))]))) (tgNil)))) (pf_tup (paf_cons (o := .t (opF addD [.t (opF addD [.b 0, .b 1]), .t (litF (.int 1))])) (po_t (pf_bin op_addA vok_add (po_t (pf_bin op_addA vok_add (po_b (pv 0)) (po_b (pv 1)))) (po_t (pf_int)))) (paf_cons (o := .t (opF addD [.b 0, .b 1])) (po_t (pf_bin op_addA vok_add (po_b (pv 0)) (po_b (pv 1)))) paf_nil))) (pgf_tup rfl (pgsf_cons (pgf_sub (k := 2) (oi := .t (opF addD [.b 0, .b 1])) (pv 2) (po_t (pf_bin op_addA vok_add (po_b (pv 0)) (po_b (pv 1))))) (pgsf_cons (pgf_sub (k := 2) (oi := .t (opF addD [.t (opF addD [.b 0, .b 1]), .t (litF (.int 1))])) (pv 2) (po_t (pf_bin op_addA vok_add (po_t (pf_bin op_addA vok_add (po_b (pv 0)) (po_b (pv 1)))) (po_t (pf_int))))) (pgsf_nil)))))
      (psf_one (psf_ret (pf_tup (paf_cons (o := .t (varF 0)) (po_t (pf_var (pv 0))) (paf_cons (o := .t (varF 0)) (po_t (pf_var (pv 0))) (paf_cons (o := .t (opF tupleD [.b 2])) (po_t (pf_callTy call_tuple_of vok_tuple (by rfl) T.z_tuple boot_tuple (paf_cons (o := .b 2) (po_b (pv 2)) paf_nil))) paf_nil))))))))))
theorem ok_p_value_of (T : Tx K mg) : FnOk P w K mg base CX0 4 T.f_p_value_of T.fd_p_value_of ["n", "word"] (spOf K fn_p_value_of) := by
  unfold fn_p_value_of
  refine fn_ok (k := 3) (x := "value_of") (qual := "value_of") (st := s_p_value_of) (N := ["n", "word", "value", "index"]) (ps := ["n", "word"]) (pins := [true, true]) (fb := F_p_value_of) T.F_p_value_of sc_p_value_of rfl (by decide) ?_
  intro cdv A outer s H E hr
  unfold F_p_value_of
  exact psf_cons (f := dropF (opF (starD fn_p_check_words 1) [.b 0, .b 1])) (psf_expr (pf_callS (ok_p_check_words T) (hr.mono (by decide)) (by rfl) T.g_p_check_words T.F_p_check_words.kp (paf_cons (o := .b 0) (po_b (pv 0)) (paf_cons (o := .b 1) (po_b (pv 1)) paf_nil))))
      (psf_cons (f := asgF (tupF [.t (litF (.int 0)), .t (callF fn_p_straight [.b 0])]) (tgN 2)) (psf_set (i := 2) sc_p_value_of.nd rfl (by first | exact .inl rfl | exact .inr rfl) (by decide) (pf_tup (paf_cons (o := .t (litF (.int 0))) (po_t (pf_int)) (paf_cons (o := .t (callF fn_p_straight [.b 0])) (po_t (pf_call (ok_p_straight T) (hr.mono (by decide)) (by rfl) T.g_p_straight T.F_p_straight.kp T.b_p_straight (paf_cons (o := .b 0) (po_b (pv 0)) paf_nil))) paf_nil))))
      (psf_cons (f := forF (itSeq (varF 1)) (tgN 3) (asgF (callF fn_p_chained [.b 2, .t (tupF [.t (litF (.int 0)), .t (callF fn_p_hook [.b 0, .b 3])])]) (tgN 2))) (psf_for (fi := itSeq (varF 1)) (g := tgN 3) PassesOwn.never rfl (pif_seq (pf_var (pv 1))) (pgf_name (i := 3) sc_p_value_of.nd rfl (by first | exact .inl rfl | exact .inr rfl) (by decide)) (psf_one (psf_set (i := 2) sc_p_value_of.nd rfl (by first | exact .inl rfl | exact .inr rfl) (by decide) (pf_call (ok_p_chained T) (hr.mono (by decide)) (by rfl) T.g_p_chained T.F_p_chained.kp T.b_p_chained (paf_cons (o := .b 2) (po_b (pv 2)) (paf_cons (o := .t (tupF [.t (litF (.int 0)), .t (callF fn_p_hook [.b 0, .b 3])])) (po_t (pf_tup (paf_cons (o := .t (litF (.int 0))) (po_t (pf_int)) (paf_cons (o := .t (callF fn_p_hook [.b 0, .b 3])) (po_t (pf_call (ok_p_hook T) (hr.mono (by decide)) (by rfl) T.g_p_hook T.F_p_hook.kp T.b_p_hook (paf_cons (o := .b 0) (po_b (pv 0)) (paf_cons (o := .b 3) (po_b (pv 3)) paf_nil)))) paf_nil)))) paf_nil))))))
      (psf_one (psf_ret (pf_mov (pv 2))))))
theorem ok_law (T : Tx K mg) : FnOk P w K mg base CX0 22 T.f_law T.fd_law ["_law_script"] (spOf K fn_law) := by
  unfold fn_law
  refine fn_ok (k := 21) (x := "law") (qual := "law") (st := s_law) (N := ["_law_script", "_law_well_here", "_law_k", "_law_n", "_law_word_here", "_law_due", "_law_at", "_law_left", "_law_right", "_law_rings", "_law_mat"]) (ps := ["_law_script"]) (pins := [true]) (fb := F_law) T.F_law sc_law rfl (by decide) ?_
  intro cdv A outer s H E hr
  unfold F_law
  exact psf_cons (f := asgF (callF fn_well [.b 0]) (tgN 1)) (psf_set (i := 1) sc_law.nd rfl (by first | exact .inl rfl | exact .inr rfl) (by decide) (pf_call (ok_well T) (hr.mono (by decide)) (by rfl) T.g_well T.F_well.kp T.b_well (paf_cons (o := .b 0) (po_b (pv 0)) paf_nil)))
      (psf_cons (f := forF (itRg rng1D [.t (litF (.int 4))]) (tgN 2) (seqF (asgF (opF addD [.t (litF (.int 1)), .t (callF fn_dip [.b 1, .t (litF (.int 8))])]) (tgN 3)) <|
      seqF (asgF (callF fn_word [.b 1, .b 3, .t (litF (.int 30))]) (tgN 4)) <|
      seqF (asgF (callF fn_value [.b 3, .b 4]) (tgN 5)) <|
      seqF (ifF (orF (notF (tstF (.t (callF fn_same [.t (callF fn_p_value_of [.b 3, .b 4]), .b 5, .t (litF (.int 9))])))) (notF (tstF (.t (callF fn_same [.t (callKF fn_p_value_of [1, 0] [.b 4, .b 3]), .b 5, .t (litF (.int 9))]))))) (retF (litF (.bl false))) (passF)) <|
      seqF (asgF (callF fn_dip [.b 1, .t (opF addD [.t (opF lenD [.b 4]), .t (litF (.int 1))])]) (tgN 6)) <|
      seqF (parF [7, 8] [.t (callF fn_p_value_of [.b 3, .t (opF (partD false true) [.b 4, .b 6])]), .t (callF fn_p_value_of [.b 3, .t (opF (partD true false) [.b 4, .b 6])])]) <|
      seqF (ifF (notF (tstF (.t (callF fn_same [.t (lstF [.t (varF 7), .t (varF 8)]), .t (lstF [.t (callF fn_value [.b 3, .t (opF (partD false true) [.b 4, .b 6])]), .t (callF fn_value [.b 3, .t (opF (partD true false) [.b 4, .b 6])])]), .t (litF (.int 9))])))) (retF (litF (.bl false))) (passF)) <|
      seqF (asgF (callF fn_behind [.t (opF ixD [.b 7, .t (litF (.int 1))]), .t (opF ixD [.b 8, .t (litF (.int 1))])]) (tgT 2 (tgCons (tgN 9) (tgCons (tgN 10) (tgNil))))) <|
      ifF (notF (tstF (.t (callF fn_same [.t (tupF [.t (opF addD [.t (opF addD [.t (opF ixD [.b 7, .t (litF (.int 0))]), .t (opF ixD [.b 8, .t (litF (.int 0))])]), .b 9]), .t (varF 10)]), .b 5, .t (litF (.int 9))])))) (retF (litF (.bl false))) (passF))) (psf_for (fi := itRg rng1D [.t (litF (.int 4))]) (g := tgN 2) PassesOwn.never rfl (pif_rng1 (by rfl) T.z_range (paf_cons (o := .t (litF (.int 4))) (po_t (pf_int)) paf_nil)) (pgf_name (i := 2) sc_law.nd rfl (by first | exact .inl rfl | exact .inr rfl) (by decide)) (psf_cons (f := asgF (opF addD [.t (litF (.int 1)), .t (callF fn_dip [.b 1, .t (litF (.int 8))])]) (tgN 3)) (psf_set (i := 3) sc_law.nd rfl (by first | exact .inl rfl | exact .inr rfl) (by decide) (pf_bin op_addA vok_add (po_t (pf_int)) (po_t (pf_call (ok_dip T) (hr.mono (by decide)) (by rfl) T.g_dip T.F_dip.kp T.b_dip (paf_cons (o := .b 1) (po_b (pv 1)) (paf_cons (o := .t (litF (.int 8))) (po_t (pf_int)) paf_nil))))))
      (psf_cons (f := asgF (callF fn_word [.b 1, .b 3, .t (litF (.int 30))]) (tgN 4)) (psf_set (i := 4) sc_law.nd rfl (by first | exact .inl rfl | exact .inr rfl) (by decide) (pf_call (ok_word T) (hr.mono (by decide)) (by rfl) T.g_word T.F_word.kp T.b_word (paf_cons (o := .b 1) (po_b (pv 1)) (paf_cons (o := .b 3) (po_b (pv 3)) (paf_cons (o := .t (litF (.int 30))) (po_t (pf_int)) paf_nil)))))
      (psf_cons (f := asgF (callF fn_value [.b 3, .b 4]) (tgN 5)) (psf_set (i := 5) sc_law.nd rfl (by first | exact .inl rfl | exact .inr rfl) (by decide) (pf_call (ok_value T) (hr.mono (by decide)) (by rfl) T.g_value T.F_value.kp T.b_value (paf_cons (o := .b 3) (po_b (pv 3)) (paf_cons (o := .b 4) (po_b (pv 4)) paf_nil))))
      (psf_cons (f := ifF (orF (notF (tstF (.t (callF fn_same [.t (callF fn_p_value_of [.b 3, .b 4]), .b 5, .t (litF (.int 9))])))) (notF (tstF (.t (callF fn_same [.t (callKF fn_p_value_of [1, 0] [.b 4, .b 3]), .b 5, .t (litF (.int 9))]))))) (retF (litF (.bl false))) (passF)) (psf_if (fc := orF (notF (tstF (.t (callF fn_same [.t (callF fn_p_value_of [.b 3, .b 4]), .b 5, .t (litF (.int 9))])))) (notF (tstF (.t (callF fn_same [.t (callKF fn_p_value_of [1, 0] [.b 4, .b 3]), .b 5, .t (litF (.int 9))]))))) ((pwf_or (ptf_not (pt_tst (o := .t (callF fn_same [.t (callF fn_p_value_of [.b 3, .b 4]), .b 5, .t (litF (.int 9))])) (po_t (pf_callDf (ops := [.t (callF fn_p_value_of [.b 3, .b 4]), .b 5]) (i := 9) (ok_same T) (hr.mono (by decide)) (by rfl) T.g_same T.F_same.kp T.d_same (paf_cons (o := .t (callF fn_p_value_of [.b 3, .b 4])) (po_t (pf_call (ok_p_value_of T) (hr.mono (by decide)) (by rfl) T.g_p_value_of T.F_p_value_of.kp T.b_p_value_of (paf_cons (o := .b 3) (po_b (pv 3)) (paf_cons (o := .b 4) (po_b (pv 4)) paf_nil)))) (paf_cons (o := .b 5) (po_b (pv 5)) paf_nil)))))) (pwf_or1 (ptf_not (pt_tst (o := .t (callF fn_same [.t (callKF fn_p_value_of [1, 0] [.b 4, .b 3]), .b 5, .t (litF (.int 9))])) (po_t (pf_callDf (ops := [.t (callKF fn_p_value_of [1, 0] [.b 4, .b 3]), .b 5]) (i := 9) (ok_same T) (hr.mono (by decide)) (by rfl) T.g_same T.F_same.kp T.d_same (paf_cons (o := .t (callKF fn_p_value_of [1, 0] [.b 4, .b 3])) (po_t (pf_callK0 (is := [1, 0]) (kops := [.b 4, .b 3]) (ok_p_value_of T) (hr.mono (by decide)) (by rfl) T.g_p_value_of T.F_p_value_of.kp T.kb0_p_value_of (by decide) rfl (pkf_cons (o := .b 4) (po_b (pv 4)) (pkf_cons (o := .b 3) (po_b (pv 3)) pkf_nil)))) (paf_cons (o := .b 5) (po_b (pv 5)) paf_nil)))))))).pt) (psf_one (psf_ret (pf_bl))) (psf_nil))
      (psf_cons (f := asgF (callF fn_dip [.b 1, .t (opF addD [.t (opF lenD [.b 4]), .t (litF (.int 1))])]) (tgN 6)) (psf_set (i := 6) sc_law.nd rfl (by first | exact .inl rfl | exact .inr rfl) (by decide) (pf_call (ok_dip T) (hr.mono (by decide)) (by rfl) T.g_dip T.F_dip.kp T.b_dip (paf_cons (o := .b 1) (po_b (pv 1)) (paf_cons (o := .t (opF addD [.t (opF lenD [.b 4]), .t (litF (.int 1))])) (po_t (pf_bin op_addA vok_add (po_t (pf_callB call_len_seq vok_len (by rfl) T.z_len PySem.boot_len (paf_cons (o := .b 4) (po_b (pv 4)) paf_nil))) (po_t (pf_int)))) paf_nil))))
      (psf_cons (f := parF [7, 8] [.t (callF fn_p_value_of [.b 3, .t (opF (partD false true) [.b 4, .b 6])]), .t (callF fn_p_value_of [.b 3, .t (opF (partD true false) [.b 4, .b 6])])]) (psf_par2 (i := 7) (j := 8) rfl sc_law.nd rfl rfl  (by decide)  (by decide) rfl rfl  (paf_cons (o := .t (callF fn_p_value_of [.b 3, .t (opF (partD false true) [.b 4, .b 6])])) (po_t (pf_call (ok_p_value_of T) (hr.mono (by decide)) (by rfl) T.g_p_value_of T.F_p_value_of.kp T.b_p_value_of (paf_cons (o := .b 3) (po_b (pv 3)) (paf_cons (o := .t (opF (partD false true) [.b 4, .b 6])) (po_t (pf_slH (po_b (pv 4)) (po_b (pv 6)))) paf_nil)))) (paf_cons (o := .t (callF fn_p_value_of [.b 3, .t (opF (partD true false) [.b 4, .b 6])])) (po_t (pf_call (ok_p_value_of T) (hr.mono (by decide)) (by rfl) T.g_p_value_of T.F_p_value_of.kp T.b_p_value_of (paf_cons (o := .b 3) (po_b (pv 3)) (paf_cons (o := .t (opF (partD true false) [.b 4, .b 6])) (po_t (pf_slL (po_b (pv 4)) (po_b (pv 6)))) paf_nil)))) paf_nil)) rfl)
      (psf_cons (f := ifF (notF (tstF (.t (callF fn_same [.t (lstF [.t (varF 7), .t (varF 8)]), .t (lstF [.t (callF fn_value [.b 3, .t (opF (partD false true) [.b 4, .b 6])]), .t (callF fn_value [.b 3, .t (opF (partD true false) [.b 4, .b 6])])]), .t (litF (.int 9))])))) (retF (litF (.bl false))) (passF)) (psf_if (fc := notF (tstF (.t (callF fn_same [.t (lstF [.t (varF 7), .t (varF 8)]), .t (lstF [.t (callF fn_value [.b 3, .t (opF (partD false true) [.b 4, .b 6])]), .t (callF fn_value [.b 3, .t (opF (partD true false) [.b 4, .b 6])])]), .t (litF (.int 9))])))) (ptf_not (pt_tst (o := .t (callF fn_same [.t (lstF [.t (varF 7), .t (varF 8)]), .t (lstF [.t (callF fn_value [.b 3, .t (opF (partD false true) [.b 4, .b 6])]), .t (callF fn_value [.b 3, .t (opF (partD true false) [.b 4, .b 6])])]), .t (litF (.int 9))])) (po_t (pf_callDf (ops := [.t (lstF [.t (varF 7), .t (varF 8)]), .t (lstF [.t (callF fn_value [.b 3, .t (opF (partD false true) [.b 4, .b 6])]), .t (callF fn_value [.b 3, .t (opF (partD true false) [.b 4, .b 6])])])]) (i := 9) (ok_same T) (hr.mono (by decide)) (by rfl) T.g_same T.F_same.kp T.d_same (paf_cons (o := .t (lstF [.t (varF 7), .t (varF 8)])) (po_t (pf_lst (paf_cons (o := .t (varF 7)) (po_t (pf_var (pv 7))) (paf_cons (o := .t (varF 8)) (po_t (pf_var (pv 8))) paf_nil)))) (paf_cons (o := .t (lstF [.t (callF fn_value [.b 3, .t (opF (partD false true) [.b 4, .b 6])]), .t (callF fn_value [.b 3, .t (opF (partD true false) [.b 4, .b 6])])])) (po_t (pf_lst (paf_cons (o := .t (callF fn_value [.b 3, .t (opF (partD false true) [.b 4, .b 6])])) (po_t (pf_call (ok_value T) (hr.mono (by decide)) (by rfl) T.g_value T.F_value.kp T.b_value (paf_cons (o := .b 3) (po_b (pv 3)) (paf_cons (o := .t (opF (partD false true) [.b 4, .b 6])) (po_t (pf_slH (po_b (pv 4)) (po_b (pv 6)))) paf_nil)))) (paf_cons (o := .t (callF fn_value [.b 3, .t (opF (partD true false) [.b 4, .b 6])])) (po_t (pf_call (ok_value T) (hr.mono (by decide)) (by rfl) T.g_value T.F_value.kp T.b_value (paf_cons (o := .b 3) (po_b (pv 3)) (paf_cons (o := .t (opF (partD true false) [.b 4, .b 6])) (po_t (pf_slL (po_b (pv 4)) (po_b (pv 6)))) paf_nil)))) paf_nil)))) paf_nil)))))) (psf_one (psf_ret (pf_bl))) (psf_nil))
      (psf_cons (f := asgF (callF fn_behind [.t (opF ixD [.b 7, .t (litF (.int 1))]), .t (opF ixD [.b 8, .t (litF (.int 1))])]) (tgT 2 (tgCons (tgN 9) (tgCons (tgN 10) (tgNil))))) (psf_asg (f := callF fn_behind [.t (opF ixD [.b 7, .t (litF (.int 1))]), .t (opF ixD [.b 8, .t (litF (.int 1))])]) (g := tgT 2 (tgCons (tgN 9) (tgCons (tgN 10) (tgNil)))) (pf_call (ok_behind T) (hr.mono (by decide)) (by rfl) T.g_behind T.F_behind.kp T.b_behind (paf_cons (o := .t (opF ixD [.b 7, .t (litF (.int 1))])) (po_t (pf_ix ix_seq vok_ix (po_b (pv 7)) (po_t (pf_int)) (fun _ _ => rfl))) (paf_cons (o := .t (opF ixD [.b 8, .t (litF (.int 1))])) (po_t (pf_ix ix_seq vok_ix (po_b (pv 8)) (po_t (pf_int)) (fun _ _ => rfl))) paf_nil))) (pgf_tup rfl (pgsf_cons (pgf_name (i := 9) sc_law.nd rfl (by first | exact .inl rfl | exact .inr rfl) (by decide)) (pgsf_cons (pgf_name (i := 10) sc_law.nd rfl (by first | exact .inl rfl | exact .inr rfl) (by decide)) (pgsf_nil)))))
      (psf_one (psf_if (fc := notF (tstF (.t (callF fn_same [.t (tupF [.t (opF addD [.t (opF addD [.t (opF ixD [.b 7, .t (litF (.int 0))]), .t (opF ixD [.b 8, .t (litF (.int 0))])]), .b 9]), .t (varF 10)]), .b 5, .t (litF (.int 9))])))) (ptf_not (pt_tst (o := .t (callF fn_same [.t (tupF [.t (opF addD [.t (opF addD [.t (opF ixD [.b 7, .t (litF (.int 0))]), .t (opF ixD [.b 8, .t (litF (.int 0))])]), .b 9]), .t (varF 10)]), .b 5, .t (litF (.int 9))])) (po_t (pf_callDf (ops := [.t (tupF [.t (opF addD [.t (opF addD [.t (opF ixD [.b 7, .t (litF (.int 0))]), .t (opF ixD [.b 8, .t (litF (.int 0))])]), .b 9]), .t (varF 10)]), .b 5]) (i := 9) (ok_same T) (hr.mono (by decide)) (by rfl) T.g_same T.F_same.kp T.d_same (paf_cons (o := .t (tupF [.t (opF addD [.t (opF addD [.t (opF ixD [.b 7, .t (litF (.int 0))]), .t (opF ixD [.b 8, .t (litF (.int 0))])]), .b 9]), .t (varF 10)])) (po_t (pf_tup (paf_cons (o := .t (opF addD [.t (opF addD [.t (opF ixD [.b 7, .t (litF (.int 0))]), .t (opF ixD [.b 8, .t (litF (.int 0))])]), .b 9])) (po_t (pf_bin op_addA vok_add (po_t (pf_bin op_addA vok_add (po_t (pf_ix ix_seq vok_ix (po_b (pv 7)) (po_t (pf_int)) (fun _ _ => rfl))) (po_t (pf_ix ix_seq vok_ix (po_b (pv 8)) (po_t (pf_int)) (fun _ _ => rfl))))) (po_b (pv 9)))) (paf_cons (o := .t (varF 10)) (po_t (pf_var (pv 10))) paf_nil)))) (paf_cons (o := .b 5) (po_b (pv 5)) paf_nil)))))) (psf_one (psf_ret (pf_bl))) (psf_nil))))))))))))
      (psf_one (psf_ret (pf_callDf (ops := [.t (lstF [.t (callF fn_p_value_of [.t (litF (.int 1)), .t (tupF [])]), .t (callF fn_p_value_of [.t (litF (.int 8)), .t (tupF [])])]), .t (lstF [.t (callF fn_value [.t (litF (.int 1)), .t (tupF [])]), .t (callF fn_value [.t (litF (.int 8)), .t (tupF [])])])]) (i := 9) (ok_same T) (hr.mono (by decide)) (by rfl) T.g_same T.F_same.kp T.d_same (paf_cons (o := .t (lstF [.t (callF fn_p_value_of [.t (litF (.int 1)), .t (tupF [])]), .t (callF fn_p_value_of [.t (litF (.int 8)), .t (tupF [])])])) (po_t (pf_lst (paf_cons (o := .t (callF fn_p_value_of [.t (litF (.int 1)), .t (tupF [])])) (po_t (pf_call (ok_p_value_of T) (hr.mono (by decide)) (by rfl) T.g_p_value_of T.F_p_value_of.kp T.b_p_value_of (paf_cons (o := .t (litF (.int 1))) (po_t (pf_int)) (paf_cons (o := .t (tupF [])) (po_t (pf_tup paf_nil)) paf_nil)))) (paf_cons (o := .t (callF fn_p_value_of [.t (litF (.int 8)), .t (tupF [])])) (po_t (pf_call (ok_p_value_of T) (hr.mono (by decide)) (by rfl) T.g_p_value_of T.F_p_value_of.kp T.b_p_value_of (paf_cons (o := .t (litF (.int 8))) (po_t (pf_int)) (paf_cons (o := .t (tupF [])) (po_t (pf_tup paf_nil)) paf_nil)))) paf_nil)))) (paf_cons (o := .t (lstF [.t (callF fn_value [.t (litF (.int 1)), .t (tupF [])]), .t (callF fn_value [.t (litF (.int 8)), .t (tupF [])])])) (po_t (pf_lst (paf_cons (o := .t (callF fn_value [.t (litF (.int 1)), .t (tupF [])])) (po_t (pf_call (ok_value T) (hr.mono (by decide)) (by rfl) T.g_value T.F_value.kp T.b_value (paf_cons (o := .t (litF (.int 1))) (po_t (pf_int)) (paf_cons (o := .t (tupF [])) (po_t (pf_tup paf_nil)) paf_nil)))) (paf_cons (o := .t (callF fn_value [.t (litF (.int 8)), .t (tupF [])])) (po_t (pf_call (ok_value T) (hr.mono (by decide)) (by rfl) T.g_value T.F_value.kp T.b_value (paf_cons (o := .t (litF (.int 8))) (po_t (pf_int)) (paf_cons (o := .t (tupF [])) (po_t (pf_tup paf_nil)) paf_nil)))) paf_nil)))) paf_nil))))))
end
theorem all_mk {l : PySem.W.OpenLaw} {w : World} {K : PySem.W.Frag} {h : Heap} {mg : Str → Option Value} {fa f_behind f_dip f_same f_hooked f_straight f_value f_well f_word f_p_far_end f_p_loose_rings f_p_put_behind f_p_chained f_p_check_size f_p_check_words f_p_straight f_p_hook f_p_value_of f_law : Addr} (X : K.In h) (G : h.Ns mainGlobals mg) (hfa : mg "law" = some (.ref fa))
    (hlaw : ∀ ns : List Int, ns.length ≤ 63 → ∃ os, fn_law.sem [.scr ns] = some (.bl true, os))
    {od_behind an_behind : Option Addr} {sl_behind : Array (Option Value)} {oc_behind kV_behind dc_behind pm_behind cd_behind ct_behind : Value}
    {od_dip an_dip : Option Addr} {sl_dip : Array (Option Value)} {oc_dip kV_dip dc_dip pm_dip cd_dip ct_dip : Value}
    {od_same an_same : Option Addr} {sl_same : Array (Option Value)} {oc_same kV_same dc_same pm_same cd_same ct_same : Value}
    {dT_same : Addr} {dod_same : Option Addr} {dgc_same : Value} {dits_same : Array Value} {dn_same : Nat} {dsl_same : Array (Option Value)}
    {od_hooked an_hooked : Option Addr} {sl_hooked : Array (Option Value)} {oc_hooked kV_hooked dc_hooked pm_hooked cd_hooked ct_hooked : Value}
    {od_straight an_straight : Option Addr} {sl_straight : Array (Option Value)} {oc_straight kV_straight dc_straight pm_straight cd_straight ct_straight : Value}
    {od_value an_value : Option Addr} {sl_value : Array (Option Value)} {oc_value kV_value dc_value pm_value cd_value ct_value : Value}
    {od_well an_well : Option Addr} {sl_well : Array (Option Value)} {oc_well kV_well dc_well pm_well cd_well ct_well : Value}
    {od_word an_word : Option Addr} {sl_word : Array (Option Value)} {oc_word kV_word dc_word pm_word cd_word ct_word : Value}
    {od_p_far_end an_p_far_end : Option Addr} {sl_p_far_end : Array (Option Value)} {oc_p_far_end kV_p_far_end dc_p_far_end pm_p_far_end cd_p_far_end ct_p_far_end : Value}
    {od_p_loose_rings an_p_loose_rings : Option Addr} {sl_p_loose_rings : Array (Option Value)} {oc_p_loose_rings kV_p_loose_rings dc_p_loose_rings pm_p_loose_rings cd_p_loose_rings ct_p_loose_rings : Value}
    {od_p_put_behind an_p_put_behind : Option Addr} {sl_p_put_behind : Array (Option Value)} {oc_p_put_behind kV_p_put_behind dc_p_put_behind pm_p_put_behind cd_p_put_behind ct_p_put_behind : Value}
    {od_p_chained an_p_chained : Option Addr} {sl_p_chained : Array (Option Value)} {oc_p_chained kV_p_chained dc_p_chained pm_p_chained cd_p_chained ct_p_chained : Value}
    {od_p_check_size an_p_check_size : Option Addr} {sl_p_check_size : Array (Option Value)} {oc_p_check_size kV_p_check_size dc_p_check_size pm_p_check_size cd_p_check_size ct_p_check_size : Value}
    {od_p_check_words an_p_check_words : Option Addr} {sl_p_check_words : Array (Option Value)} {oc_p_check_words kV_p_check_words dc_p_check_words pm_p_check_words cd_p_check_words ct_p_check_words : Value}
    {od_p_straight an_p_straight : Option Addr} {sl_p_straight : Array (Option Value)} {oc_p_straight kV_p_straight dc_p_straight pm_p_straight cd_p_straight ct_p_straight : Value}
    {od_p_hook an_p_hook : Option Addr} {sl_p_hook : Array (Option Value)} {oc_p_hook kV_p_hook dc_p_hook pm_p_hook cd_p_hook ct_p_hook : Value}
    {od_p_value_of an_p_value_of : Option Addr} {sl_p_value_of : Array (Option Value)} {oc_p_value_of kV_p_value_of dc_p_value_of pm_p_value_of cd_p_value_of ct_p_value_of : Value}
    {od_law an_law : Option Addr} {sl_law : Array (Option Value)} {oc_law kV_law dc_law pm_law cd_law ct_law : Value}
    (a_behind : PySem.W.nsIn K mainGlobals "_law_behind" = some (some (.ref f_behind))) (l_behind : K.lookup f_behind = some ⟨oc_behind, od_behind, .func (PySem.W.fnOf "_law_behind" "_law_behind" (defArgs s_behind) (defBody s_behind) (defScope s_behind) .none kV_behind dc_behind pm_behind an_behind cd_behind ct_behind), sl_behind⟩) (c_behind : PySem.W.codeIn K cd_behind "_law_behind" = true) (k_behind : PySem.W.keepIn K (.ref f_behind) = true)
    (a_dip : PySem.W.nsIn K mainGlobals "_law_dip" = some (some (.ref f_dip))) (l_dip : K.lookup f_dip = some ⟨oc_dip, od_dip, .func (PySem.W.fnOf "_law_dip" "_law_dip" (defArgs s_dip) (defBody s_dip) (defScope s_dip) .none kV_dip dc_dip pm_dip an_dip cd_dip ct_dip), sl_dip⟩) (c_dip : PySem.W.codeIn K cd_dip "_law_dip" = true) (k_dip : PySem.W.keepIn K (.ref f_dip) = true)
    (a_same : PySem.W.nsIn K mainGlobals "_law_same" = some (some (.ref f_same))) (l_same : K.lookup f_same = some ⟨oc_same, od_same, .func (PySem.W.fnOf "_law_same" "_law_same" (defArgs s_same) (defBody s_same) (defScope s_same) (.ref dT_same) kV_same dc_same pm_same an_same cd_same ct_same), sl_same⟩) (c_same : PySem.W.codeIn K cd_same "_law_same" = true) (k_same : PySem.W.keepIn K (.ref f_same) = true)
    (ld_same : K.lookup dT_same = some ⟨dgc_same, dod_same, .seq dits_same dn_same, dsl_same⟩) (vd_same : Vals (([9] : List Int).map V.int) dits_same.toList)
    (a_hooked : PySem.W.nsIn K mainGlobals "_law_hooked" = some (some (.ref f_hooked))) (l_hooked : K.lookup f_hooked = some ⟨oc_hooked, od_hooked, .func (PySem.W.fnOf "_law_hooked" "_law_hooked" (defArgs s_hooked) (defBody s_hooked) (defScope s_hooked) .none kV_hooked dc_hooked pm_hooked an_hooked cd_hooked ct_hooked), sl_hooked⟩) (c_hooked : PySem.W.codeIn K cd_hooked "_law_hooked" = true) (k_hooked : PySem.W.keepIn K (.ref f_hooked) = true)
    (a_straight : PySem.W.nsIn K mainGlobals "_law_straight" = some (some (.ref f_straight))) (l_straight : K.lookup f_straight = some ⟨oc_straight, od_straight, .func (PySem.W.fnOf "_law_straight" "_law_straight" (defArgs s_straight) (defBody s_straight) (defScope s_straight) .none kV_straight dc_straight pm_straight an_straight cd_straight ct_straight), sl_straight⟩) (c_straight : PySem.W.codeIn K cd_straight "_law_straight" = true) (k_straight : PySem.W.keepIn K (.ref f_straight) = true)
    (a_value : PySem.W.nsIn K mainGlobals "_law_value" = some (some (.ref f_value))) (l_value : K.lookup f_value = some ⟨oc_value, od_value, .func (PySem.W.fnOf "_law_value" "_law_value" (defArgs s_value) (defBody s_value) (defScope s_value) .none kV_value dc_value pm_value an_value cd_value ct_value), sl_value⟩) (c_value : PySem.W.codeIn K cd_value "_law_value" = true) (k_value : PySem.W.keepIn K (.ref f_value) = true)
    (a_well : PySem.W.nsIn K mainGlobals "_law_well" = some (some (.ref f_well))) (l_well : K.lookup f_well = some ⟨oc_well, od_well, .func (PySem.W.fnOf "_law_well" "_law_well" (defArgs s_well) (defBody s_well) (defScope s_well) .none kV_well dc_well pm_well an_well cd_well ct_well), sl_well⟩) (c_well : PySem.W.codeIn K cd_well "_law_well" = true) (k_well : PySem.W.keepIn K (.ref f_well) = true)
    (a_word : PySem.W.nsIn K mainGlobals "_law_word" = some (some (.ref f_word))) (l_word : K.lookup f_word = some ⟨oc_word, od_word, .func (PySem.W.fnOf "_law_word" "_law_word" (defArgs s_word) (defBody s_word) (defScope s_word) .none kV_word dc_word pm_word an_word cd_word ct_word), sl_word⟩) (c_word : PySem.W.codeIn K cd_word "_law_word" = true) (k_word : PySem.W.keepIn K (.ref f_word) = true)
    (a_p_far_end : PySem.W.nsIn K mainGlobals "far_end" = some (some (.ref f_p_far_end))) (l_p_far_end : K.lookup f_p_far_end = some ⟨oc_p_far_end, od_p_far_end, .func (PySem.W.fnOf "far_end" "far_end" (defArgs s_p_far_end) (defBody s_p_far_end) (defScope s_p_far_end) .none kV_p_far_end dc_p_far_end pm_p_far_end an_p_far_end cd_p_far_end ct_p_far_end), sl_p_far_end⟩) (c_p_far_end : PySem.W.codeIn K cd_p_far_end "far_end" = true) (k_p_far_end : PySem.W.keepIn K (.ref f_p_far_end) = true)
    (a_p_loose_rings : PySem.W.nsIn K mainGlobals "loose_rings" = some (some (.ref f_p_loose_rings))) (l_p_loose_rings : K.lookup f_p_loose_rings = some ⟨oc_p_loose_rings, od_p_loose_rings, .func (PySem.W.fnOf "loose_rings" "loose_rings" (defArgs s_p_loose_rings) (defBody s_p_loose_rings) (defScope s_p_loose_rings) .none kV_p_loose_rings dc_p_loose_rings pm_p_loose_rings an_p_loose_rings cd_p_loose_rings ct_p_loose_rings), sl_p_loose_rings⟩) (c_p_loose_rings : PySem.W.codeIn K cd_p_loose_rings "loose_rings" = true) (k_p_loose_rings : PySem.W.keepIn K (.ref f_p_loose_rings) = true)
    (a_p_put_behind : PySem.W.nsIn K mainGlobals "put_behind" = some (some (.ref f_p_put_behind))) (l_p_put_behind : K.lookup f_p_put_behind = some ⟨oc_p_put_behind, od_p_put_behind, .func (PySem.W.fnOf "put_behind" "put_behind" (defArgs s_p_put_behind) (defBody s_p_put_behind) (defScope s_p_put_behind) .none kV_p_put_behind dc_p_put_behind pm_p_put_behind an_p_put_behind cd_p_put_behind ct_p_put_behind), sl_p_put_behind⟩) (c_p_put_behind : PySem.W.codeIn K cd_p_put_behind "put_behind" = true) (k_p_put_behind : PySem.W.keepIn K (.ref f_p_put_behind) = true)
    (a_p_chained : PySem.W.nsIn K mainGlobals "chained" = some (some (.ref f_p_chained))) (l_p_chained : K.lookup f_p_chained = some ⟨oc_p_chained, od_p_chained, .func (PySem.W.fnOf "chained" "chained" (defArgs s_p_chained) (defBody s_p_chained) (defScope s_p_chained) .none kV_p_chained dc_p_chained pm_p_chained an_p_chained cd_p_chained ct_p_chained), sl_p_chained⟩) (c_p_chained : PySem.W.codeIn K cd_p_chained "chained" = true) (k_p_chained : PySem.W.keepIn K (.ref f_p_chained) = true)
    (a_p_check_size : PySem.W.nsIn K mainGlobals "check_size" = some (some (.ref f_p_check_size))) (l_p_check_size : K.lookup f_p_check_size = some ⟨oc_p_check_size, od_p_check_size, .func (PySem.W.fnOf "check_size" "check_size" (defArgs s_p_check_size) (defBody s_p_check_size) (defScope s_p_check_size) .none kV_p_check_size dc_p_check_size pm_p_check_size an_p_check_size cd_p_check_size ct_p_check_size), sl_p_check_size⟩) (c_p_check_size : PySem.W.codeIn K cd_p_check_size "check_size" = true) (k_p_check_size : PySem.W.keepIn K (.ref f_p_check_size) = true)
    (a_p_check_words : PySem.W.nsIn K mainGlobals "check_words" = some (some (.ref f_p_check_words))) (l_p_check_words : K.lookup f_p_check_words = some ⟨oc_p_check_words, od_p_check_words, .func (PySem.W.fnOf "check_words" "check_words" (defArgs s_p_check_words) (defBody s_p_check_words) (defScope s_p_check_words) .none kV_p_check_words dc_p_check_words pm_p_check_words an_p_check_words cd_p_check_words ct_p_check_words), sl_p_check_words⟩) (c_p_check_words : PySem.W.codeIn K cd_p_check_words "check_words" = true) (k_p_check_words : PySem.W.keepIn K (.ref f_p_check_words) = true)
    (a_p_straight : PySem.W.nsIn K mainGlobals "straight" = some (some (.ref f_p_straight))) (l_p_straight : K.lookup f_p_straight = some ⟨oc_p_straight, od_p_straight, .func (PySem.W.fnOf "straight" "straight" (defArgs s_p_straight) (defBody s_p_straight) (defScope s_p_straight) .none kV_p_straight dc_p_straight pm_p_straight an_p_straight cd_p_straight ct_p_straight), sl_p_straight⟩) (c_p_straight : PySem.W.codeIn K cd_p_straight "straight" = true) (k_p_straight : PySem.W.keepIn K (.ref f_p_straight) = true)
    (a_p_hook : PySem.W.nsIn K mainGlobals "hook" = some (some (.ref f_p_hook))) (l_p_hook : K.lookup f_p_hook = some ⟨oc_p_hook, od_p_hook, .func (PySem.W.fnOf "hook" "hook" (defArgs s_p_hook) (defBody s_p_hook) (defScope s_p_hook) .none kV_p_hook dc_p_hook pm_p_hook an_p_hook cd_p_hook ct_p_hook), sl_p_hook⟩) (c_p_hook : PySem.W.codeIn K cd_p_hook "hook" = true) (k_p_hook : PySem.W.keepIn K (.ref f_p_hook) = true)
    (a_p_value_of : PySem.W.nsIn K mainGlobals "value_of" = some (some (.ref f_p_value_of))) (l_p_value_of : K.lookup f_p_value_of = some ⟨oc_p_value_of, od_p_value_of, .func (PySem.W.fnOf "value_of" "value_of" (defArgs s_p_value_of) (defBody s_p_value_of) (defScope s_p_value_of) .none kV_p_value_of dc_p_value_of pm_p_value_of an_p_value_of cd_p_value_of ct_p_value_of), sl_p_value_of⟩) (c_p_value_of : PySem.W.codeIn K cd_p_value_of "value_of" = true) (k_p_value_of : PySem.W.keepIn K (.ref f_p_value_of) = true)
    (a_law : PySem.W.nsIn K mainGlobals "law" = some (some (.ref f_law))) (l_law : K.lookup f_law = some ⟨oc_law, od_law, .func (PySem.W.fnOf "law" "law" (defArgs s_law) (defBody s_law) (defScope s_law) .none kV_law dc_law pm_law an_law cd_law ct_law), sl_law⟩) (c_law : PySem.W.codeIn K cd_law "law" = true) (k_law : PySem.W.keepIn K (.ref f_law) = true)
    (z_bool : PySem.W.nsIn K mainGlobals "bool" = some none)
    (z_int : PySem.W.nsIn K mainGlobals "int" = some none)
    (z_isinstance : PySem.W.nsIn K mainGlobals "isinstance" = some none)
    (z_len : PySem.W.nsIn K mainGlobals "len" = some none)
    (z_list : PySem.W.nsIn K mainGlobals "list" = some none)
    (z_max : PySem.W.nsIn K mainGlobals "max" = some none)
    (z_min : PySem.W.nsIn K mainGlobals "min" = some none)
    (z_range : PySem.W.nsIn K mainGlobals "range" = some none)
    (z_str : PySem.W.nsIn K mainGlobals "str" = some none)
    (z_tuple : PySem.W.nsIn K mainGlobals "tuple" = some none)
    : ∃ fd : FuncData, (∀ (s : Shared) (v : Value), BindsTo s fd ⟨[v], []⟩ [("_law_script", v)]) ∧ ∀ base : Heap, K.In base → base.Ns mainGlobals mg → FnOk l.prog w K mg base CX0 22 fa fd ["_law_script"] (spLaw K) := by
  have e := hfa.symm.trans (PySem.W.mg_of X G a_law)
  cases e
  have F_behind := fun_mk (st := s_behind) l_behind c_behind k_behind
  have b_behind := F_behind.binds (ps := ["_law_one", "_law_other"]) fun _ _ _ _ _ _ us hl => match us, hl with | [_, _], _ => rfl
  have F_dip := fun_mk (st := s_dip) l_dip c_dip k_dip
  have b_dip := F_dip.binds (ps := ["_law_well_here", "_law_many"]) fun _ _ _ _ _ _ us hl => match us, hl with | [_, _], _ => rfl
  have F_same : FunDf K "_law_same" s_same [9] f_same _ := funDf_mk (st := s_same) l_same c_same k_same ld_same vd_same (by decide)
  have b_same := binds_all (F_same.binds1 (ps := ["_law_told", "_law_due", "_law_depth"]) 3 1 (by simp) rfl (fun _ _ _ _ _ _ _ us its h1 h2 => match us, its, h1, h2 with | [_, _, _], [_], _, _ => ⟨_, rfl, rfl⟩))
  have d_same := F_same.binds1 (ps := ["_law_told", "_law_due", "_law_depth"]) 2 0 (by simp) rfl (fun _ _ _ _ _ _ _ us its h1 h2 => match us, its, h1, h2 with | [_, _], [_], _, _ => ⟨_, rfl, rfl⟩)
  have F_hooked := fun_mk (st := s_hooked) l_hooked c_hooked k_hooked
  have b_hooked := F_hooked.binds (ps := ["_law_mat", "_law_index"]) fun _ _ _ _ _ _ us hl => match us, hl with | [_, _], _ => rfl
  have F_straight := fun_mk (st := s_straight) l_straight c_straight k_straight
  have b_straight := F_straight.binds (ps := ["_law_n"]) fun _ _ _ _ _ _ us hl => match us, hl with | [_], _ => rfl
  have F_value := fun_mk (st := s_value) l_value c_value k_value
  have b_value := F_value.binds (ps := ["_law_n", "_law_word_here"]) fun _ _ _ _ _ _ us hl => match us, hl with | [_, _], _ => rfl
  have F_well := fun_mk (st := s_well) l_well c_well k_well
  have b_well := F_well.binds (ps := ["_law_script"]) fun _ _ _ _ _ _ us hl => match us, hl with | [_], _ => rfl
  have F_word := fun_mk (st := s_word) l_word c_word k_word
  have b_word := F_word.binds (ps := ["_law_well_here", "_law_n", "_law_most"]) fun _ _ _ _ _ _ us hl => match us, hl with | [_, _, _], _ => rfl
  have F_p_far_end := fun_mk (st := s_p_far_end) l_p_far_end c_p_far_end k_p_far_end
  have b_p_far_end := F_p_far_end.binds (ps := ["one", "other", "peg", "passed"]) fun _ _ _ _ _ _ us hl => match us, hl with | [_, _, _, _], _ => rfl
  have F_p_loose_rings := fun_mk (st := s_p_loose_rings) l_p_loose_rings c_p_loose_rings k_p_loose_rings
  have b_p_loose_rings := F_p_loose_rings.binds (ps := ["one", "other", "passed"]) fun _ _ _ _ _ _ us hl => match us, hl with | [_, _, _], _ => rfl
  have F_p_put_behind := fun_mk (st := s_p_put_behind) l_p_put_behind c_p_put_behind k_p_put_behind
  have b_p_put_behind := F_p_put_behind.binds (ps := ["one", "other"]) fun _ _ _ _ _ _ us hl => match us, hl with | [_, _], _ => rfl
  have F_p_chained := fun_mk (st := s_p_chained) l_p_chained c_p_chained k_p_chained
  have b_p_chained := F_p_chained.binds (ps := ["one", "other"]) fun _ _ _ _ _ _ us hl => match us, hl with | [_, _], _ => rfl
  have F_p_check_size := fun_mk (st := s_p_check_size) l_p_check_size c_p_check_size k_p_check_size
  have b_p_check_size := F_p_check_size.binds (ps := ["n"]) fun _ _ _ _ _ _ us hl => match us, hl with | [_], _ => rfl
  have F_p_check_words := fun_mk (st := s_p_check_words) l_p_check_words c_p_check_words k_p_check_words
  have F_p_straight := fun_mk (st := s_p_straight) l_p_straight c_p_straight k_p_straight
  have b_p_straight := F_p_straight.binds (ps := ["n"]) fun _ _ _ _ _ _ us hl => match us, hl with | [_], _ => rfl
  have F_p_hook := fun_mk (st := s_p_hook) l_p_hook c_p_hook k_p_hook
  have b_p_hook := F_p_hook.binds (ps := ["n", "i"]) fun _ _ _ _ _ _ us hl => match us, hl with | [_, _], _ => rfl
  have F_p_value_of := fun_mk (st := s_p_value_of) l_p_value_of c_p_value_of k_p_value_of
  have b_p_value_of := F_p_value_of.binds (ps := ["n", "word"]) fun _ _ _ _ _ _ us hl => match us, hl with | [_, _], _ => rfl
  have F_law := fun_mk (st := s_law) l_law c_law k_law
  have b_law := F_law.binds (ps := ["_law_script"]) fun _ _ _ _ _ _ us hl => match us, hl with | [_], _ => rfl
  have kb0_p_value_of : KB K _ ["n", "word"] 0 ["word", "n"] [1, 0] := kb_of F_p_value_of fun _ _ _ _ _ _ us ws h1 h2 => match us, ws, h1, h2 with | [], [_, _], _, _ => rfl
  have T : Tx K mg := ⟨_, _, F_behind, b_behind, PySem.W.mg_of X G a_behind, _, _, F_dip, b_dip, PySem.W.mg_of X G a_dip, _, _, F_same, b_same, d_same, PySem.W.mg_of X G a_same, _, _, F_hooked, b_hooked, PySem.W.mg_of X G a_hooked, _, _, F_straight, b_straight, PySem.W.mg_of X G a_straight, _, _, F_value, b_value, PySem.W.mg_of X G a_value, _, _, F_well, b_well, PySem.W.mg_of X G a_well, _, _, F_word, b_word, PySem.W.mg_of X G a_word, _, _, F_p_far_end, b_p_far_end, PySem.W.mg_of X G a_p_far_end, _, _, F_p_loose_rings, b_p_loose_rings, PySem.W.mg_of X G a_p_loose_rings, _, _, F_p_put_behind, b_p_put_behind, PySem.W.mg_of X G a_p_put_behind, _, _, F_p_chained, b_p_chained, PySem.W.mg_of X G a_p_chained, _, _, F_p_check_size, b_p_check_size, PySem.W.mg_of X G a_p_check_size, _, _, F_p_check_words, PySem.W.mg_of X G a_p_check_words, _, _, F_p_straight, b_p_straight, PySem.W.mg_of X G a_p_straight, _, _, F_p_hook, b_p_hook, PySem.W.mg_of X G a_p_hook, _, _, F_p_value_of, b_p_value_of, PySem.W.mg_of X G a_p_value_of, _, _, F_law, b_law, PySem.W.mg_of X G a_law, kb0_p_value_of, PySem.W.mg_none_of X G z_bool, PySem.W.mg_none_of X G z_int, PySem.W.mg_none_of X G z_isinstance, PySem.W.mg_none_of X G z_len, PySem.W.mg_none_of X G z_list, PySem.W.mg_none_of X G z_max, PySem.W.mg_none_of X G z_min, PySem.W.mg_none_of X G z_range, PySem.W.mg_none_of X G z_str, PySem.W.mg_none_of X G z_tuple⟩
  exact ⟨_, fun s v => .of_eq rfl, fun base _ _ => (ok_law (P := l.prog) (w := w) (base := base) ⟨_, _, F_behind, b_behind, PySem.W.mg_of X G a_behind, _, _, F_dip, b_dip, PySem.W.mg_of X G a_dip, _, _, F_same, b_same, d_same, PySem.W.mg_of X G a_same, _, _, F_hooked, b_hooked, PySem.W.mg_of X G a_hooked, _, _, F_straight, b_straight, PySem.W.mg_of X G a_straight, _, _, F_value, b_value, PySem.W.mg_of X G a_value, _, _, F_well, b_well, PySem.W.mg_of X G a_well, _, _, F_word, b_word, PySem.W.mg_of X G a_word, _, _, F_p_far_end, b_p_far_end, PySem.W.mg_of X G a_p_far_end, _, _, F_p_loose_rings, b_p_loose_rings, PySem.W.mg_of X G a_p_loose_rings, _, _, F_p_put_behind, b_p_put_behind, PySem.W.mg_of X G a_p_put_behind, _, _, F_p_chained, b_p_chained, PySem.W.mg_of X G a_p_chained, _, _, F_p_check_size, b_p_check_size, PySem.W.mg_of X G a_p_check_size, _, _, F_p_check_words, PySem.W.mg_of X G a_p_check_words, _, _, F_p_straight, b_p_straight, PySem.W.mg_of X G a_p_straight, _, _, F_p_hook, b_p_hook, PySem.W.mg_of X G a_p_hook, _, _, F_p_value_of, b_p_value_of, PySem.W.mg_of X G a_p_value_of, _, _, F_law, b_law, PySem.W.mg_of X G a_law, kb0_p_value_of, PySem.W.mg_none_of X G z_bool, PySem.W.mg_none_of X G z_int, PySem.W.mg_none_of X G z_isinstance, PySem.W.mg_none_of X G z_len, PySem.W.mg_none_of X G z_list, PySem.W.mg_none_of X G z_max, PySem.W.mg_none_of X G z_min, PySem.W.mg_none_of X G z_range, PySem.W.mg_none_of X G z_str, PySem.W.mg_none_of X G z_tuple⟩).imp fun vs H Q E q => law_sp rfl hlaw q⟩
end VS
open PySem PySem.W PyProof.Rows
set_option maxHeartbeats 0 in
theorem PySem.Challenge.cw_hookmats_k18_whole_values_of_words_holds : PySem.Challenge.rw_hookmats_k18_whole_values_of_words.Holds := by
  w_on; o_law; k_head; (case hw => w_witness2)
  k_fill
  refine L2.walk_of (l := PySem.Challenge.rw_hookmats_k18_whole_values_of_words) (n := 63) (k := 22) (x := "_law_script") (CX := fun _ => L2.CX0) (sp := fun w => VS.spLaw _) rfl (by decide) rfl ⟨rfl, by decide, by decide⟩ (fun w h Y => PySem.W.kIn_of Y) ?F (fun _ _ a ns hl _ hS => ⟨a, ns, rfl, hS, hl, fun _ => rfl⟩) (fun _ _ _ _ _ h => h)
  case F =>
    intro w mg fa h KX G hmg
    refine' VS.all_mk KX G hmg VS.law_holds ?a_behind ?l_behind ?c_behind ?k_behind ?a_dip ?l_dip ?c_dip ?k_dip ?a_same ?l_same ?c_same ?k_same ?ld_same ?vd_same ?a_hooked ?l_hooked ?c_hooked ?k_hooked ?a_straight ?l_straight ?c_straight ?k_straight ?a_value ?l_value ?c_value ?k_value ?a_well ?l_well ?c_well ?k_well ?a_word ?l_word ?c_word ?k_word ?a_p_far_end ?l_p_far_end ?c_p_far_end ?k_p_far_end ?a_p_loose_rings ?l_p_loose_rings ?c_p_loose_rings ?k_p_loose_rings ?a_p_put_behind ?l_p_put_behind ?c_p_put_behind ?k_p_put_behind ?a_p_chained ?l_p_chained ?c_p_chained ?k_p_chained ?a_p_check_size ?l_p_check_size ?c_p_check_size ?k_p_check_size ?a_p_check_words ?l_p_check_words ?c_p_check_words ?k_p_check_words ?a_p_straight ?l_p_straight ?c_p_straight ?k_p_straight ?a_p_hook ?l_p_hook ?c_p_hook ?k_p_hook ?a_p_value_of ?l_p_value_of ?c_p_value_of ?k_p_value_of ?a_law ?l_law ?c_law ?k_law ?z_bool ?z_int ?z_isinstance ?z_len ?z_list ?z_max ?z_min ?z_range ?z_str ?z_tuple
    (case a_behind => k_is); (case l_behind => k_is); (case c_behind => k_is); (case k_behind => k_is); (case a_dip => k_is); (case l_dip => k_is); (case c_dip => k_is); (case k_dip => k_is); (case a_same => k_is); (case l_same => k_is); (case c_same => k_is); (case k_same => k_is); (case ld_same => k_is); (case a_hooked => k_is); (case l_hooked => k_is); (case c_hooked => k_is); (case k_hooked => k_is); (case a_straight => k_is); (case l_straight => k_is); (case c_straight => k_is); (case k_straight => k_is); (case a_value => k_is); (case l_value => k_is); (case c_value => k_is); (case k_value => k_is); (case a_well => k_is); (case l_well => k_is); (case c_well => k_is); (case k_well => k_is); (case a_word => k_is); (case l_word => k_is); (case c_word => k_is); (case k_word => k_is); (case a_p_far_end => k_is); (case l_p_far_end => k_is); (case c_p_far_end => k_is); (case k_p_far_end => k_is); (case a_p_loose_rings => k_is); (case l_p_loose_rings => k_is); (case c_p_loose_rings => k_is); (case k_p_loose_rings => k_is); (case a_p_put_behind => k_is); (case l_p_put_behind => k_is); (case c_p_put_behind => k_is); (case k_p_put_behind => k_is); (case a_p_chained => k_is); (case l_p_chained => k_is); (case c_p_chained => k_is); (case k_p_chained => k_is); (case a_p_check_size => k_is); (case l_p_check_size => k_is); (case c_p_check_size => k_is); (case k_p_check_size => k_is); (case a_p_check_words => k_is); (case l_p_check_words => k_is); (case c_p_check_words => k_is); (case k_p_check_words => k_is); (case a_p_straight => k_is); (case l_p_straight => k_is); (case c_p_straight => k_is); (case k_p_straight => k_is); (case a_p_hook => k_is); (case l_p_hook => k_is); (case c_p_hook => k_is); (case k_p_hook => k_is); (case a_p_value_of => k_is); (case l_p_value_of => k_is); (case c_p_value_of => k_is); (case k_p_value_of => k_is); (case a_law => k_is); (case l_law => k_is); (case c_law => k_is); (case k_law => k_is); (case z_bool => k_is); (case z_int => k_is); (case z_isinstance => k_is); (case z_len => k_is); (case z_list => k_is); (case z_max => k_is); (case z_min => k_is); (case z_range => k_is); (case z_str => k_is); (case z_tuple => k_is); (case vd_same => exact by repeat (first | exact .nil | refine .cons ⟨_, rfl⟩ ?_))
