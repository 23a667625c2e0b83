import PyProof.Rows.All
import Wide.All
import OpenK.AllK
import Wide.FinOn
import HandS.ForMost
import KE.DataEq
import KE.DataCmp
import KE.SortData
import HandS.TupAny
import HandS.Style
import HandS.Wide
import HandS.TupMul
import HandS.IsInst
import HandS.Zip
import HandS.TupLen
import HandS.DictTup
import HandS.SetFor
import KE.KDictPairs
import KE.KDictKeyed
import HandS.Conv
import HandS.More
import HandS.TupSets
import HandS.RaiseMore
import PySem.Challenge.RW_cellgrounds_k87_whole_trails_of_ants
section
set_option Elab.async false
set_option linter.all false
set_option maxRecDepth 100000
set_option maxHeartbeats 1000000
namespace VL
open PySem PySem.Spec PyProof.Rows L2

/-! ### data -/
inductive D where
  | non | bl (b : Bool) | int (i : Int) | str (x : Str) | ref (a : Addr) | ty (n : String)
  | tup (xs : List D) | ktup (xs : List D) | lst (xs : List D)
  | dT (kvs : List (List Key × D)) | dK (kvs : List (Key × D))

/-- the object has no dict of its own -/
def NoDict (K : PySem.W.Frag) (G : Hp) (a : Addr) : Prop := (∃ o u, Rd G a (.frz o u) ∧ o.dict = none) ∨ ∃ o, K.lookup a = some o ∧ o.dict = none
def SqZ (K : PySem.W.Frag) (G : Hp) (a : Addr) (vs : List V) : Prop := SqT K G a vs ∧ NoDict K G a
mutual
inductive Rep (K : PySem.W.Frag) (G : Hp) : V → D → Prop
  | non : Rep K G .non .non
  | bl (b : Bool) : Rep K G (.bl b) (.bl b)
  | int (i : Int) : Rep K G (.int i) (.int i)
  | str (x : Str) : Rep K G (.str x) (.str x)
  | ref (a : Addr) : Rep K G (.ref a) (.ref a)
  | ty (n : String) : Rep K G (.ty n) (.ty n)
  | tup {a : Addr} {vs : List V} {ds : List D} : G a = some (.tup vs) → Reps K G vs ds → Rep K G (.ref a) (.tup ds)
  | ktup {a : Addr} {vs : List V} {ds : List D} : SqZ K G a vs → Reps K G vs ds → Rep K G (.ref a) (.ktup ds)
  | lst {a : Addr} {vs : List V} {ds : List D} : SqL K G a vs → Reps K G vs ds → Rep K G (.ref a) (.lst ds)
  | dT {a : Addr} {kvs : List (List Key × V)} {kds : List (List Key × D)} : Rd G a (.dT kvs) → RepT K G kvs kds → Rep K G (.ref a) (.dT kds)
  | dK {a : Addr} {kvs : List (Key × V)} {kds : List (Key × D)} : Rd G a (.dK kvs) → RepK K G kvs kds → Rep K G (.ref a) (.dK kds)
inductive Reps (K : PySem.W.Frag) (G : Hp) : List V → List D → Prop
  | nil : Reps K G [] []
  | cons {v : V} {d : D} {vs : List V} {ds : List D} : Rep K G v d → Reps K G vs ds → Reps K G (v :: vs) (d :: ds)
inductive RepT (K : PySem.W.Frag) (G : Hp) : List (List Key × V) → List (List Key × D) → Prop
  | nil : RepT K G [] []
  | cons {k : List Key} {v : V} {d : D} {vs : List (List Key × V)} {ds : List (List Key × D)} : Rep K G v d → RepT K G vs ds → RepT K G ((k, v) :: vs) ((k, d) :: ds)
inductive RepK (K : PySem.W.Frag) (G : Hp) : List (Key × V) → List (Key × D) → Prop
  | nil : RepK K G [] []
  | cons {k : Key} {v : V} {d : D} {vs : List (Key × V)} {ds : List (Key × D)} : Rep K G v d → RepK K G vs ds → RepK K G ((k, v) :: vs) ((k, d) :: ds)
end

/-- a heap known in part -/
def Le (G H : Hp) : Prop := (∀ a u, Rd G a u → Rd H a u) ∧ ∀ a xs, G a = some (.tup xs) → H a = some (.tup xs)
theorem Le.refl (G : Hp) : Le G G := ⟨fun _ _ h => h, fun _ _ h => h⟩
theorem Le.trans {G H I : Hp} (a : Le G H) (b : Le H I) : Le G I := ⟨fun x u h => b.1 x u (a.1 x u h), fun x u h => b.2 x u (a.2 x u h)⟩
theorem Le.of {G H : Hp} (h : ∀ a u, G a = some u → H a = some u) : Le G H := ⟨fun a u r => by
  rcases r with r | ⟨o, r⟩
  · exact .inl (h _ _ r)
  · exact .inr ⟨o, h _ _ r⟩, fun a xs r => h _ _ r⟩
theorem Le.there {G H : Hp} (l : Le G H) {b : Addr} (h : G b ≠ none) : H b ≠ none := by
  cases e : G b with
  | none => exact absurd e h
  | some u =>
    rcases l.1 b u (.inl e) with q | ⟨o, q⟩ <;> (rw [q]; intro z; cases z)
theorem Le.sqL {K : PySem.W.Frag} {G H : Hp} (l : Le G H) {a : Addr} {xs : List V} (h : SqL K G a xs) : SqL K H a xs := h.imp (l.1 _ _) id
theorem Le.sqT {K : PySem.W.Frag} {G H : Hp} (l : Le G H) {a : Addr} {xs : List V} (h : SqT K G a xs) : SqT K H a xs := h.imp (l.1 _ _) id
theorem Le.sqZ {K : PySem.W.Frag} {G H : Hp} (l : Le G H) {a : Addr} {xs : List V} (h : SqZ K G a xs) : SqZ K H a xs := ⟨l.sqT h.1, h.2.imp (fun ⟨o, u, h1, h2⟩ => ⟨o, u, l.1 _ _ h1, h2⟩) id⟩

section
variable {K : PySem.W.Frag} {G H : Hp}
mutual
theorem Rep.mono (l : Le G H) : ∀ {v : V} {d : D}, Rep K G v d → Rep K H v d
  | _, _, .non => .non
  | _, _, .bl b => .bl b
  | _, _, .int i => .int i
  | _, _, .str x => .str x
  | _, _, .ref a => .ref a
  | _, _, .ty n => .ty n
  | _, _, .tup h hs => .tup (l.2 _ _ h) (Reps.mono l hs)
  | _, _, .ktup h hs => .ktup (l.sqZ h) (Reps.mono l hs)
  | _, _, .lst h hs => .lst (l.sqL h) (Reps.mono l hs)
  | _, _, .dT h hs => .dT (l.1 _ _ h) (RepT.mono l hs)
  | _, _, .dK h hs => .dK (l.1 _ _ h) (RepK.mono l hs)
theorem Reps.mono (l : Le G H) : ∀ {vs : List V} {ds : List D}, Reps K G vs ds → Reps K H vs ds
  | _, _, .nil => .nil
  | _, _, .cons h hs => .cons (Rep.mono l h) (Reps.mono l hs)
theorem RepT.mono (l : Le G H) : ∀ {vs : List (List Key × V)} {ds : List (List Key × D)}, RepT K G vs ds → RepT K H vs ds
  | _, _, .nil => .nil
  | _, _, .cons h hs => .cons (Rep.mono l h) (RepT.mono l hs)
theorem RepK.mono (l : Le G H) : ∀ {vs : List (Key × V)} {ds : List (Key × D)}, RepK K G vs ds → RepK K H vs ds
  | _, _, .nil => .nil
  | _, _, .cons h hs => .cons (Rep.mono l h) (RepK.mono l hs)
end
theorem Reps.length : ∀ {vs : List V} {ds : List D}, Reps K G vs ds → vs.length = ds.length
  | _, _, .nil => rfl
  | _, _, .cons _ hs => by rw [List.length_cons, List.length_cons, Reps.length hs]
theorem Reps.get : ∀ {vs : List V} {ds : List D} {i : Nat} {d : D}, Reps K G vs ds → ds[i]? = some d → ∃ v, vs[i]? = some v ∧ Rep K G v d
  | _, _, 0, _, .cons h _, e => by simp at e; subst e; exact ⟨_, rfl, h⟩
  | _, _, i + 1, d, .cons _ hs, e => by
    obtain ⟨v, h1, h2⟩ := Reps.get (i := i) (d := d) hs (by simpa using e)
    exact ⟨v, by simpa using h1, h2⟩
theorem Reps.append : ∀ {vs ws : List V} {ds es : List D}, Reps K G vs ds → Reps K G ws es → Reps K G (vs ++ ws) (ds ++ es)
  | _, _, _, _, .nil, h => h
  | _, _, _, _, .cons h hs, g => .cons h (Reps.append hs g)
theorem Reps.take : ∀ {vs : List V} {ds : List D} (n : Nat), Reps K G vs ds → Reps K G (vs.take n) (ds.take n)
  | _, _, 0, _ => .nil
  | _, _, _ + 1, .nil => .nil
  | _, _, n + 1, .cons h hs => .cons h (Reps.take n hs)
theorem Reps.drop : ∀ {vs : List V} {ds : List D} (n : Nat), Reps K G vs ds → Reps K G (vs.drop n) (ds.drop n)
  | _, _, 0, h => h
  | _, _, _ + 1, .nil => .nil
  | _, _, n + 1, .cons _ hs => Reps.drop n hs
theorem Reps.set {v : V} {d : D} (r : Rep K G v d) : ∀ {vs : List V} {ds : List D} (i : Nat), Reps K G vs ds → Reps K G (vs.set i v) (ds.set i d)
  | _, _, _, .nil => .nil
  | _, _, 0, .cons _ hs => .cons r hs
  | _, _, i + 1, .cons h hs => .cons h (Reps.set r i hs)
theorem Reps.one {v : V} {d : D} (r : Rep K G v d) : Reps K G [v] [d] := .cons r .nil
theorem Reps.reverse : ∀ {vs : List V} {ds : List D}, Reps K G vs ds → Reps K G vs.reverse ds.reverse
  | _, _, .nil => .nil
  | _, _, .cons h hs => by rw [List.reverse_cons, List.reverse_cons]; exact (Reps.reverse hs).append (.one h)
theorem Reps.nil_iff {vs : List V} {ds : List D} (h : Reps K G vs ds) : vs = [] ↔ ds = [] := by
  cases h <;> simp
theorem RepT.length : ∀ {vs : List (List Key × V)} {ds : List (List Key × D)}, RepT K G vs ds → vs.length = ds.length
  | _, _, .nil => rfl
  | _, _, .cons _ hs => by rw [List.length_cons, List.length_cons, RepT.length hs]
theorem RepK.length : ∀ {vs : List (Key × V)} {ds : List (Key × D)}, RepK K G vs ds → vs.length = ds.length
  | _, _, .nil => rfl
  | _, _, .cons _ hs => by rw [List.length_cons, List.length_cons, RepK.length hs]
end

/-! ### what a slot holds -/
inductive O1 where
  | fro (d : D) | lst (xs : List D) | dT (kvs : List (List Key × D)) | dK (kvs : List (Key × D))
inductive O where
  | s (o : O1) | ins (C : Addr) (fs : List (Str × O1))
def O1.fz : O1 → D
  | .fro d => d
  | .lst xs => .lst xs
  | .dT k => .dT k
  | .dK k => .dK k
abbrev Env := List (Option O)

def Own1 (K : PySem.W.Frag) (G H : Hp) (fp : List Addr) (v : V) : O1 → Prop
  | .fro d => fp = [] ∧ Rep K G v d
  | .lst ds => ∃ a vs, v = .ref a ∧ fp = [a] ∧ H a = some (.lst vs) ∧ Reps K G vs ds
  | .dT ds => ∃ a vs, v = .ref a ∧ fp = [a] ∧ H a = some (.dT vs) ∧ RepT K G vs ds
  | .dK ds => ∃ a vs, v = .ref a ∧ fp = [a] ∧ H a = some (.dK vs) ∧ RepK K G vs ds
inductive OwnF (K : PySem.W.Frag) (G H : Hp) : List (List Addr) → List (Str × V) → List (Str × O1) → Prop
  | nil : OwnF K G H [] [] []
  | cons {fp : List Addr} {f : Str} {v : V} {o : O1} {fps : List (List Addr)} {vs : List (Str × V)} {os : List (Str × O1)} : Own1 K G H fp v o → OwnF K G H fps vs os → OwnF K G H (fp :: fps) ((f, v) :: vs) ((f, o) :: os)
def OwnO (K : PySem.W.Frag) (G H : Hp) (fp : List Addr) (v : V) : O → Prop
  | .s o => Own1 K G H fp v o
  | .ins C fs => ∃ a dx vs fps, v = .ref a ∧ fp = a :: fps.flatten ∧ H a = some (.ins C dx vs) ∧ OwnF K G H fps vs fs

structure Rel (K : PySem.W.Frag) (B : List Nat) (ρ : Nat → V) (G H : Hp) (F : Nat → List Addr) (η : Env) (σ : L2.St) : Prop where
  le : Le G H
  dis : ∀ i b, b ∈ F i → G b = none
  ndi : ∀ i, (F i).Nodup
  sep : ∀ i j b, b ∈ F i → b ∈ F j → i = j
  slot : ∀ i o, η[i]? = some (some o) → ∃ v, σ[i]? = some (some v) ∧ OwnO K G H (F i) v o
  emp : ∀ i, (∀ o, η[i]? ≠ some (some o)) → F i = []
  len : η.length = σ.length
  bor : ∀ i ∈ B, σ[i]? = some (some (ρ i))
def OwnP (F : Nat → List Addr) (b : Addr) : Prop := ∃ i, b ∈ F i

/-- a tuple, nobody's own -/
def Tp (H : Hp) (b : Addr) : Prop := ∃ xs, H b = some (.tup xs)
structure Step (G H : Hp) (P : Addr → Prop) (G' H' : Hp) (P' : Addr → Prop) : Prop where
  le : Le G G'
  gin : ∀ b, G' b ≠ none → G b ≠ none ∨ H b = none ∨ P b ∨ Tp H b
  keep : ∀ b o, H b = some o → ¬ P b → H' b = some o
  there : ∀ b, H b ≠ none → H' b ≠ none
  fin : ∀ b, P' b → P b ∨ H b = none
theorem Step.refl (G H : Hp) (P : Addr → Prop) : Step G H P G H P := ⟨.refl G, fun _ h => .inl h, fun _ _ h _ => h, fun _ h => h, fun _ h => .inl h⟩
theorem Step.trans {G H G1 H1 G2 H2 : Hp} {P P1 P2 : Addr → Prop} (a : Step G H P G1 H1 P1) (b : Step G1 H1 P1 G2 H2 P2) : Step G H P G2 H2 P2 where
  le := a.le.trans b.le
  gin := fun x h => by
    rcases b.gin x h with h | h | h | h
    · exact a.gin x h
    · exact .inr (.inl (Classical.byContradiction fun n => a.there x n h))
    · rcases a.fin x h with q | q
      · exact .inr (.inr (.inl q))
      · exact .inr (.inl q)
    · obtain ⟨xs, h⟩ := h
      cases e : H x with
      | none => exact .inr (.inl rfl)
      | some o =>
        rcases Classical.em (P x) with q | q
        · exact .inr (.inr (.inl q))
        · have := a.keep x o e q
          rw [h] at this
          exact .inr (.inr (.inr ⟨xs, by rw [e, ← this]⟩))
  keep := fun x o h n => by
    refine b.keep x o (a.keep x o h n) fun q => ?_
    rcases a.fin x q with q | q
    · exact n q
    · rw [q] at h; cases h
  there := fun x h => b.there x (a.there x h)
  fin := fun x h => by
    rcases b.fin x h with h | h
    · exact a.fin x h
    · exact .inr (Classical.byContradiction fun n => a.there x n h)
/-- nothing changed, more is known -/
structure Grow (G H G' H' : Hp) : Prop where
  le : Le G G'
  gin : ∀ b, G' b ≠ none → G b ≠ none ∨ H b = none ∨ Tp H b
  keep : ∀ b o, H b = some o → H' b = some o
  leH : Le G' H'
theorem Grow.refl {G H : Hp} (l : Le G H) : Grow G H G H := ⟨.refl G, fun _ h => .inl h, fun _ _ h => h, l⟩
theorem Grow.trans {G H G1 H1 G2 H2 : Hp} (a : Grow G H G1 H1) (b : Grow G1 H1 G2 H2) : Grow G H G2 H2 where
  le := a.le.trans b.le
  gin := fun x h => by
    rcases b.gin x h with h | h | h
    · exact a.gin x h
    · refine .inr (.inl (Classical.byContradiction fun n => ?_))
      cases e : H x with
      | none => exact n e
      | some o => rw [a.keep x o e] at h; cases h
    · obtain ⟨xs, h⟩ := h
      cases e : H x with
      | none => exact .inr (.inl rfl)
      | some o =>
        have := a.keep x o e
        rw [h] at this
        exact .inr (.inr ⟨xs, by rw [e, ← this]⟩)
  keep := fun x o h => b.keep x o (a.keep x o h)
  leH := b.leH
theorem Grow.there {G H G' H' : Hp} (g : Grow G H G' H') : ∀ b, H b ≠ none → H' b ≠ none := fun b h => by
  cases e : H b with
  | none => exact absurd e h
  | some o => rw [g.keep b o e]; intro z; cases z
theorem Grow.step {G H G' H' : Hp} (g : Grow G H G' H') (P : Addr → Prop) : Step G H P G' H' P :=
  ⟨g.le, fun b h => (g.gin b h).imp id fun q => q.imp id .inr, fun b o h _ => g.keep b o h, g.there, fun _ h => .inl h⟩
/-- a new object, known at once -/
theorem Grow.new {G H : Hp} (l : Le G H) {p : Addr} {o : HO} (hp : H p = none) : Grow G H (upd G p o) (upd H p o) where
  le := .of fun a u h => by
    rw [upd_ne fun e => ?_]
    · exact h
    · subst e
      exact l.there (by rw [h]; intro z; cases z) hp
  gin := fun b h => by
    by_cases e : b = p
    · subst e; exact .inr (.inl hp)
    · rw [upd_ne e] at h; exact .inl h
  keep := fun b u h => by rw [upd_ne (ne_of_none h hp)]; exact h
  leH := by
    refine ⟨fun a u h => ?_, fun a xs h => ?_⟩
    · by_cases e : a = p
      · subst e
        rcases h with h | ⟨o', h⟩ <;> rw [upd_same] at h
        · exact .inl (by rw [upd_same]; exact h)
        · exact .inr ⟨o', by rw [upd_same]; exact h⟩
      · have h' : Rd G a u := by
          rcases h with h | ⟨o', h⟩ <;> rw [upd_ne e] at h
          · exact .inl h
          · exact .inr ⟨o', h⟩
        rcases l.1 a u h' with q | ⟨o', q⟩
        · exact .inl (by rw [upd_ne e]; exact q)
        · exact .inr ⟨o', by rw [upd_ne e]; exact q⟩
    · by_cases e : a = p
      · subst e; rw [upd_same] at h ⊢; exact h
      · rw [upd_ne e] at h ⊢; exact l.2 a xs h
/-- a new object that stays ours -/
theorem Grow.lay {G H : Hp} (l : Le G H) {p : Addr} {o : HO} (hp : H p = none) : Grow G H G (upd H p o) where
  le := .refl G
  gin := fun b h => .inl h
  keep := fun b u h => by rw [upd_ne (ne_of_none h hp)]; exact h
  leH := by
    have ne : ∀ a, H a ≠ none → a ≠ p := fun a h e => h (e ▸ hp)
    refine ⟨fun a u h => ?_, fun a xs h => ?_⟩
    · have := l.1 a u h
      rcases this with q | ⟨o', q⟩
      · exact .inl (by rw [upd_ne (ne_of_none q hp)]; exact q)
      · exact .inr ⟨o', by rw [upd_ne (ne_of_none q hp)]; exact q⟩
    · have q := l.2 a xs h
      rw [upd_ne (ne_of_none q hp)]; exact q

section
variable {K : PySem.W.Frag} {B : List Nat} {ρ : Nat → V} {G H G' H' : Hp} {F F' : Nat → List Addr} {η η' : Env} {σ : L2.St}
theorem Own1.mono {fp : List Addr} {v : V} {o : O1} (l : Le G G') (k : ∀ b ∈ fp, ∀ u, H b = some u → H' b = some u) (h : Own1 K G H fp v o) : Own1 K G' H' fp v o := by
  cases o with
  | fro d => exact ⟨h.1, h.2.mono l⟩
  | lst ds =>
    obtain ⟨a, vs, rfl, rfl, h1, h2⟩ := h
    exact ⟨a, vs, rfl, rfl, k a (by simp) _ h1, h2.mono l⟩
  | dT ds =>
    obtain ⟨a, vs, rfl, rfl, h1, h2⟩ := h
    exact ⟨a, vs, rfl, rfl, k a (by simp) _ h1, h2.mono l⟩
  | dK ds =>
    obtain ⟨a, vs, rfl, rfl, h1, h2⟩ := h
    exact ⟨a, vs, rfl, rfl, k a (by simp) _ h1, h2.mono l⟩
theorem OwnF.mono (l : Le G G') : ∀ {fps : List (List Addr)} {vs : List (Str × V)} {os : List (Str × O1)}, (∀ b ∈ fps.flatten, ∀ u, H b = some u → H' b = some u) → OwnF K G H fps vs os → OwnF K G' H' fps vs os
  | _, _, _, _, .nil => .nil
  | _, _, _, k, .cons h hs => .cons (h.mono l fun b hb => k b (by rw [List.flatten_cons, List.mem_append]; exact .inl hb)) (OwnF.mono l (fun b hb => k b (by rw [List.flatten_cons, List.mem_append]; exact .inr hb)) hs)
theorem OwnO.mono {fp : List Addr} {v : V} {o : O} (l : Le G G') (k : ∀ b ∈ fp, ∀ u, H b = some u → H' b = some u) (h : OwnO K G H fp v o) : OwnO K G' H' fp v o := by
  cases o with
  | s o => exact Own1.mono l k h
  | ins C fs =>
    obtain ⟨a, dx, vs, fps, rfl, rfl, h1, h2⟩ := h
    exact ⟨a, dx, vs, fps, rfl, rfl, k a (by simp) _ h1, h2.mono l fun b hb => k b (List.mem_cons_of_mem _ hb)⟩
theorem Own1.there {fp : List Addr} {v : V} {o : O1} (h : Own1 K G H fp v o) : ∀ b ∈ fp, H b ≠ none := by
  intro b hb
  cases o with
  | fro d => rw [h.1] at hb; cases hb
  | lst ds => obtain ⟨a, vs, rfl, rfl, h1, h2⟩ := h; simp at hb; subst hb; rw [h1]; intro z; cases z
  | dT ds => obtain ⟨a, vs, rfl, rfl, h1, h2⟩ := h; simp at hb; subst hb; rw [h1]; intro z; cases z
  | dK ds => obtain ⟨a, vs, rfl, rfl, h1, h2⟩ := h; simp at hb; subst hb; rw [h1]; intro z; cases z
theorem OwnF.there : ∀ {fps : List (List Addr)} {vs : List (Str × V)} {os : List (Str × O1)}, OwnF K G H fps vs os → ∀ b ∈ fps.flatten, H b ≠ none
  | _, _, _, .nil, b, hb => by simp at hb
  | _, _, _, .cons h hs, b, hb => by
    rw [List.flatten_cons, List.mem_append] at hb
    rcases hb with hb | hb
    · exact h.there b hb
    · exact OwnF.there hs b hb
theorem OwnO.there {fp : List Addr} {v : V} {o : O} (h : OwnO K G H fp v o) : ∀ b ∈ fp, H b ≠ none := by
  intro b hb
  cases o with
  | s o => exact Own1.there h b hb
  | ins C fs =>
    obtain ⟨a, dx, vs, fps, rfl, rfl, h1, h2⟩ := h
    rcases List.mem_cons.mp hb with rfl | hb
    · rw [h1]; intro z; cases z
    · exact h2.there b hb
theorem OwnF.noTup : ∀ {fps : List (List Addr)} {vs : List (Str × V)} {os : List (Str × O1)}, OwnF K G H fps vs os → ∀ b ∈ fps.flatten, ¬ Tp H b
  | _, _, _, .nil, b, hb => by simp at hb
  | _, _, _, .cons (o := o) h hs, b, hb => by
    rw [List.flatten_cons, List.mem_append] at hb
    rcases hb with hb | hb
    · rintro ⟨xs, e⟩
      cases o with
      | fro d => rw [h.1] at hb; cases hb
      | lst ds => obtain ⟨a, vs, rfl, rfl, h1, h2⟩ := h; simp at hb; subst hb; rw [h1] at e; cases e
      | dT ds => obtain ⟨a, vs, rfl, rfl, h1, h2⟩ := h; simp at hb; subst hb; rw [h1] at e; cases e
      | dK ds => obtain ⟨a, vs, rfl, rfl, h1, h2⟩ := h; simp at hb; subst hb; rw [h1] at e; cases e
    · exact OwnF.noTup hs b hb
theorem OwnO.noTup {fp : List Addr} {v : V} {o : O} (h : OwnO K G H fp v o) : ∀ b ∈ fp, ¬ Tp H b := by
  intro b hb
  cases o with
  | s o =>
    have hs : OwnF K G H [fp] [("", v)] [("", o)] := .cons h .nil
    exact hs.noTup b (by simpa using hb)
  | ins C fs =>
    obtain ⟨a, dx, vs, fps, rfl, rfl, h1, h2⟩ := h
    rcases List.mem_cons.mp hb with rfl | hb
    · rintro ⟨xs, e⟩; rw [h1] at e; cases e
    · exact h2.noTup b hb
theorem Rel.noTup (R : Rel K B ρ G H F η σ) : ∀ i b, b ∈ F i → ¬ Tp H b := fun i b hb => by
  cases e : η[i]? with
  | none =>
    have := R.emp i fun o h => by rw [e] at h; cases h
    rw [this] at hb; cases hb
  | some q =>
    cases q with
    | none =>
      have := R.emp i fun o h => by rw [e] at h; cases h
      rw [this] at hb; cases hb
    | some o =>
      obtain ⟨v, _, h⟩ := R.slot i o e
      exact h.noTup b hb
theorem Rel.there (R : Rel K B ρ G H F η σ) : ∀ i b, b ∈ F i → H b ≠ none := fun i b hb => by
  cases e : η[i]? with
  | none =>
    have := R.emp i fun o h => by rw [e] at h; cases h
    rw [this] at hb; cases hb
  | some q =>
    cases q with
    | none =>
      have := R.emp i fun o h => by rw [e] at h; cases h
      rw [this] at hb; cases hb
    | some o =>
      obtain ⟨v, _, h⟩ := R.slot i o e
      exact h.there b hb
/-- nothing that is ours changed -/
theorem Rel.grow (R : Rel K B ρ G H F η σ) (g : Grow G H G' H') : Rel K B ρ G' H' F η σ where
  le := g.leH
  dis := fun i b hb => Classical.byContradiction fun n => by
    rcases g.gin b n with h | h | h
    · exact h (R.dis i b hb)
    · exact R.there i b hb h
    · exact R.noTup i b hb h
  ndi := R.ndi
  sep := R.sep
  slot := fun i o e => by
    obtain ⟨v, h1, h2⟩ := R.slot i o e
    exact ⟨v, h1, h2.mono g.le fun b _ u h => g.keep b u h⟩
  emp := R.emp
  len := R.len
  bor := R.bor
/-- a slot's content changes (at its own addresses and new ones) -/
theorem Rel.put {i : Nat} {o : O} {v : V} {f : List Addr} (R : Rel K B ρ G H F η σ) (le : Le G G') (leH : Le G' H') (hi : i < η.length)
    (gin : ∀ b, G' b ≠ none → G b ≠ none ∨ H b = none ∨ b ∈ F i ∨ Tp H b) (keep : ∀ b u, H b = some u → b ∉ F i → H' b = some u)
    (hf : ∀ b ∈ f, (b ∈ F i ∨ H b = none) ∧ G' b = none) (nd : f.Nodup) (hs : σ[i]? = some (some v)) (hn : OwnO K G' H' f v o) :
    Rel K B ρ G' H' (fun j => if j = i then f else F j) (η.set i (some o)) σ where
  le := leH
  dis := fun j b hb => by
    by_cases e : j = i
    · subst e; simp only [if_true] at hb; exact (hf b hb).2
    · simp only [e, if_false] at hb
      refine Classical.byContradiction fun n => ?_
      rcases gin b n with h | h | h | h
      · exact h (R.dis j b hb)
      · exact R.there j b hb h
      · exact e (R.sep j i b hb h)
      · exact R.noTup j b hb h
  ndi := fun j => by
    by_cases e : j = i
    · subst e; simpa using nd
    · simpa [e] using R.ndi j
  sep := fun j k b h1 h2 => by
    have key : ∀ j, j ≠ i → b ∈ F j → b ∈ f → False := fun j e h h' => by
      rcases (hf b h').1 with q | q
      · exact e (R.sep j i b h q)
      · exact R.there j b h q
    by_cases ej : j = i <;> by_cases ek : k = i
    · rw [ej, ek]
    · subst ej; simp only [if_true] at h1; simp only [ek, if_false] at h2; exact (key k ek h2 h1).elim
    · subst ek; simp only [if_true] at h2; simp only [ej, if_false] at h1; exact (key j ej h1 h2).elim
    · simp only [ej, if_false] at h1; simp only [ek, if_false] at h2; exact R.sep j k b h1 h2
  slot := fun j o' e => by
    by_cases ej : j = i
    · subst ej
      rw [List.getElem?_set_self hi] at e
      cases e
      exact ⟨v, hs, by simpa using hn⟩
    · rw [List.getElem?_set_ne (Ne.symm ej)] at e
      obtain ⟨v', h1, h2⟩ := R.slot j o' e
      refine ⟨v', h1, ?_⟩
      simp only [ej, if_false]
      exact h2.mono le fun b hb u h => keep b u h fun q => ej (R.sep j i b hb q)
  emp := fun j hj => by
    by_cases ej : j = i
    · subst ej
      exact absurd (List.getElem?_set_self hi) (hj o)
    · simp only [ej, if_false]
      refine R.emp j fun o' h => hj o' ?_
      rw [List.getElem?_set_ne (Ne.symm ej)]
      exact h
  len := by rw [List.length_set]; exact R.len
  bor := R.bor
end
end VL
end
section
set_option Elab.async false
set_option linter.all false
set_option maxRecDepth 100000
set_option maxHeartbeats 1000000
namespace VL
open PySem PySem.Spec PyProof.Rows L2

abbrev ME (α : Type) := Env → Option (α × Env)
inductive Opd where
  | d (x : D) | loc (i : Nat) | fld (i : Nat) (f : Str)
def Opd.isF : Opd → Bool
  | .fld _ _ => true
  | _ => false
/-- what an operand reads as, now -/
def cont (η : Env) : Opd → Option D
  | .d x => some x
  | .loc i => match η[i]? with
    | some (some (.s o)) => some o.fz
    | _ => none
  | .fld i f => match η[i]? with
    | some (some (.ins _ fs)) => (fs.lookup f).map O1.fz
    | _ => none
def RepP (K : PySem.W.Frag) (G H : Hp) (σ : L2.St) (v : V) : Opd → Prop
  | .d x => Rep K G v x
  | .loc i => σ[i]? = some (some v)
  | .fld i f => ∃ a C dx vs, σ[i]? = some (some (.ref a)) ∧ H a = some (.ins C dx vs) ∧ vs.lookup f = some v
/-- v reads as d, what is in it being known -/
def RepC (K : PySem.W.Frag) (G H : Hp) (v : V) : D → Prop
  | .lst ds => ∃ a vs, v = .ref a ∧ SqL K H a vs ∧ Reps K G vs ds
  | .dT ds => ∃ a vs, v = .ref a ∧ Rd H a (.dT vs) ∧ RepT K G vs ds
  | .dK ds => ∃ a vs, v = .ref a ∧ Rd H a (.dK vs) ∧ RepK K G vs ds
  | .non => Rep K G v .non
  | .bl b => Rep K G v (.bl b)
  | .int i => Rep K G v (.int i)
  | .str x => Rep K G v (.str x)
  | .ref a => Rep K G v (.ref a)
  | .ty n => Rep K G v (.ty n)
  | .tup ds => Rep K G v (.tup ds)
  | .ktup ds => Rep K G v (.ktup ds)

section
variable {K : PySem.W.Frag} {B : List Nat} {ρ : Nat → V} {G H G' H' : Hp} {F F' : Nat → List Addr} {η η' : Env} {σ : L2.St} {v : V}
theorem Rep.c (l : Le G H) : ∀ {d : D}, Rep K G v d → RepC K G H v d
  | .non, h => h
  | .bl _, h => h
  | .int _, h => h
  | .str _, h => h
  | .ref _, h => h
  | .ty _, h => h
  | .tup _, h => h
  | .ktup _, h => h
  | .lst _, .lst h hs => ⟨_, _, rfl, l.sqL h, hs⟩
  | .dT _, .dT h hs => ⟨_, _, rfl, l.1 _ _ h, hs⟩
  | .dK _, .dK h hs => ⟨_, _, rfl, l.1 _ _ h, hs⟩
theorem Own1.c (l : Le G H) {fp : List Addr} {o : O1} (h : Own1 K G H fp v o) : RepC K G H v o.fz := by
  cases o with
  | fro d => exact h.2.c l
  | lst ds => obtain ⟨a, vs, rfl, _, h1, h2⟩ := h; exact ⟨a, vs, rfl, SqL.of h1, h2⟩
  | dT ds => obtain ⟨a, vs, rfl, _, h1, h2⟩ := h; exact ⟨a, vs, rfl, .inl h1, h2⟩
  | dK ds => obtain ⟨a, vs, rfl, _, h1, h2⟩ := h; exact ⟨a, vs, rfl, .inl h1, h2⟩
theorem OwnF.get : ∀ {fps : List (List Addr)} {vs : List (Str × V)} {os : List (Str × O1)} {f : Str}, OwnF K G H fps vs os →
    (∀ o, os.lookup f = some o → ∃ v fp, vs.lookup f = some v ∧ Own1 K G H fp v o ∧ ∀ b ∈ fp, b ∈ fps.flatten) ∧ (os.lookup f = none → vs.lookup f = none)
  | _, _, _, f, .nil => ⟨fun _ h => (by cases h), fun _ => rfl⟩
  | _, _, _, f, .cons (f := g) (v := v) (o := o) (vs := vs) (os := os) h hs => by
    obtain ⟨i1, i2⟩ := OwnF.get (f := f) hs
    cases e : f == g with
    | true =>
      have a1 : ((g, o) :: os).lookup f = some o := by rw [List.lookup_cons, e]
      have a2 : ((g, v) :: vs).lookup f = some v := by rw [List.lookup_cons, e]
      refine ⟨fun o' q => ?_, fun q => ?_⟩
      · rw [a1] at q; cases q
        exact ⟨_, _, a2, h, fun b hb => by rw [List.flatten_cons, List.mem_append]; exact .inl hb⟩
      · rw [a1] at q; cases q
    | false =>
      have a1 : ((g, o) :: os).lookup f = os.lookup f := by rw [List.lookup_cons, e]
      have a2 : ((g, v) :: vs).lookup f = vs.lookup f := by rw [List.lookup_cons, e]
      rw [a1, a2]
      exact ⟨fun o' q => let ⟨v', fp, q1, q2, q3⟩ := i1 o' q; ⟨v', fp, q1, q2, fun b hb => by rw [List.flatten_cons, List.mem_append]; exact .inr (q3 b hb)⟩, i2⟩
theorem RepP.cont (R : Rel K B ρ G H F η σ) {x : Opd} {d : D} (h : RepP K G H σ v x) (e : cont η x = some d) : RepC K G H v d := by
  cases x with
  | d y => cases e; exact Rep.c R.le h
  | loc i =>
    simp only [VL.cont] at e
    split at e
    · rename_i o q
      cases e
      obtain ⟨v', h1, h2⟩ := R.slot i _ q
      have h : σ[i]? = some (some v) := h
      rw [h1] at h; cases h
      exact Own1.c R.le h2
    · cases e
  | fld i f =>
    simp only [VL.cont] at e
    split at e
    · rename_i C fs q
      obtain ⟨v', h1, h2⟩ := R.slot i _ q
      obtain ⟨a, C', dx, vs, g1, g2, g3⟩ := h
      rw [h1] at g1; cases g1
      obtain ⟨a', dx', vs', fps, e1, _, e3, e4⟩ := h2
      cases e1
      rw [g2] at e3; cases e3
      cases q : fs.lookup f with
      | none => rw [q] at e; cases e
      | some o =>
        rw [q] at e; cases e
        obtain ⟨v2, fp, k1, k2, _⟩ := (OwnF.get e4).1 o q
        rw [g3] at k1; cases k1
        exact k2.c R.le
    · cases e
theorem RepP.step {P P' : Addr → Prop} (st : Step G H P G' H' P') {x : Opd} (hx : x.isF = false ∨ Same H H') (h : RepP K G H σ v x) : RepP K G' H' σ v x := by
  cases x with
  | d y => exact Rep.mono st.le h
  | loc i => exact h
  | fld i f =>
    rcases hx with hx | hx
    · cases hx
    · obtain ⟨a, C, dx, vs, g1, g2, g3⟩ := h
      exact ⟨a, C, dx, vs, g1, hx _ _ g2, g3⟩
theorem RepC.rep {d : D} (h : RepC K G H v d) (l : Le G H) : ∃ G', Rep K G' v d ∧ Le G G' ∧ Le G' H := by
  have own : ∀ {a u}, Rd H a u → True := fun _ => trivial
  have triv : Rep K G v d → ∃ G', Rep K G' v d ∧ Le G G' ∧ Le G' H := fun r => ⟨G, r, .refl G, l⟩
  cases d with
  | lst ds => obtain ⟨a, vs, rfl, h1, h2⟩ := h; exact ⟨H, .lst h1 (h2.mono l), l, .refl H⟩
  | dT ds => obtain ⟨a, vs, rfl, h1, h2⟩ := h; exact ⟨H, .dT h1 (h2.mono l), l, .refl H⟩
  | dK ds => obtain ⟨a, vs, rfl, h1, h2⟩ := h; exact ⟨H, .dK h1 (h2.mono l), l, .refl H⟩
  | non => exact triv h
  | bl _ => exact triv h
  | int _ => exact triv h
  | str _ => exact triv h
  | ref _ => exact triv h
  | ty _ => exact triv h
  | tup _ => exact triv h
  | ktup _ => exact triv h
/-- as a datum of the whole heap -/
theorem RepC.all {d : D} (h : RepC K G H v d) (l : Le G H) : Rep K H v d := by
  obtain ⟨G', r, _, l'⟩ := h.rep l
  exact r.mono l'
end

/-! ### judgements -/
def rdE (K : PySem.W.Frag) (B : List Nat) (p : Bool) (m : ME D) : TE := fun σ H Q => ∃ G F η ρ d η', m η = some (d, η') ∧ Rel K B ρ G H F η σ ∧
  ∀ v G' H' F', Step G H (OwnP F) G' H' (OwnP F') → (p = true → Same H H') → Rel K B ρ G' H' F' η' σ → Rep K G' v d → Q v H'
def rdO (K : PySem.W.Frag) (B : List Nat) (p : Bool) (m : ME Opd) : TE := fun σ H Q => ∃ G F η ρ x η', m η = some (x, η') ∧ Rel K B ρ G H F η σ ∧
  ∀ v G' H' F', Step G H (OwnP F) G' H' (OwnP F') → (p = true → Same H H') → Rel K B ρ G' H' F' η' σ → RepP K G' H' σ v x → Q v H'
/-- a new thing that is ours -/
def rdN (K : PySem.W.Frag) (B : List Nat) (p : Bool) (m : ME O) : TE := fun σ H Q => ∃ G F η ρ o η', m η = some (o, η') ∧ Rel K B ρ G H F η σ ∧
  ∀ v G' H' F', Step G H (OwnP F) G' H' (OwnP F') → (p = true → Same H H') → Rel K B ρ G' H' F' (η' ++ [some o]) (σ ++ [some v]) → Q v H'
def rdT (K : PySem.W.Frag) (B : List Nat) (p : Bool) (m : ME Bool) : TT := fun σ H Q => ∃ G F η ρ b η', m η = some (b, η') ∧ Rel K B ρ G H F η σ ∧
  ∀ G' H' F', Step G H (OwnP F) G' H' (OwnP F') → (p = true → Same H H') → Rel K B ρ G' H' F' η' σ → Q b H'
inductive RepPs (K : PySem.W.Frag) (G H : Hp) (σ : L2.St) : List V → List Opd → Prop
  | nil : RepPs K G H σ [] []
  | cons {v : V} {x : Opd} {vs : List V} {xs : List Opd} : RepP K G H σ v x → RepPs K G H σ vs xs → RepPs K G H σ (v :: vs) (x :: xs)
def rdA (K : PySem.W.Frag) (B : List Nat) (p : Bool) (m : ME (List Opd)) : TA := fun σ H Q => ∃ G F η ρ xs η', m η = some (xs, η') ∧ Rel K B ρ G H F η σ ∧
  ∀ vs G' H' F', Step G H (OwnP F) G' H' (OwnP F') → (p = true → Same H H') → Rel K B ρ G' H' F' η' σ → RepPs K G' H' σ vs xs → Q vs H'

def VE (X : Cx) (B : List Nat) (p : Bool) (e : Expr) (m : ME D) : Prop := PE X e (rdE X.K B p m)
def VN (X : Cx) (B : List Nat) (p : Bool) (e : Expr) (m : ME O) : Prop := PE X e (rdN X.K B p m)
structure VO (X : Cx) (B : List Nat) (q p : Bool) (e : Expr) (m : ME Opd) : Prop where
  run : PE X e (rdO X.K B p m)
  nof : q = false → ∀ η x η', m η = some (x, η') → x.isF = false
def VT (X : Cx) (B : List Nat) (p : Bool) (e : Expr) (m : ME Bool) : Prop := PT X e (rdT X.K B p m)
def VW (X : Cx) (B : List Nat) (p : Bool) (e : Expr) (m : ME Bool) : Prop := PW X e (rdT X.K B p m)
/-- arguments from the left -/
structure VA (X : Cx) (B : List Nat) (q p : Bool) (es : List Expr) (m : ME (List Opd)) : Prop where
  run : PA X es (rdA X.K B p m)
  nof : q = false → ∀ η xs η', m η = some (xs, η') → ∀ x ∈ xs, x.isF = false

theorem pe_imp {X : Cx} {e : Expr} {t t' : TE} (h : PE X e t) (f : ∀ σ H Q, t' σ H Q → t σ H Q) : PE X e t' := ⟨fun pins s σ H Q I q => h.run pins s σ H Q I (f _ _ _ q)⟩
theorem pt_imp {X : Cx} {e : Expr} {t t' : TT} (h : PT X e t) (f : ∀ σ H Q, t' σ H Q → t σ H Q) : PT X e t' := ⟨fun pins s σ H Q I q => h.run pins s σ H Q I (f _ _ _ q)⟩
theorem pw_imp {X : Cx} {e : Expr} {t t' : TT} (h : PW X e t) (f : ∀ σ H Q, t' σ H Q → t σ H Q) : PW X e t' := ⟨fun whole pins s σ H Q I q => h.run whole pins s σ H Q I (f _ _ _ q)⟩
theorem pa_imp {X : Cx} {es : List Expr} {t t' : TA} (h : PA X es t) (f : ∀ σ H Q, t' σ H Q → t σ H Q) : PA X es t' := ⟨fun pos pins s σ H Q I q => h.run pos pins s σ H Q I (f _ _ _ q)⟩
theorem ps_imp {X : Cx} {st : Stmt} {t t' : TS} (h : PS X st t) (f : ∀ D σ H, t' D σ H → t D σ H) : PS X st t' := ⟨fun pins s σ H D I q => h.run pins s σ H D I (f _ _ _ q)⟩
theorem pss_imp {X : Cx} {st : List Stmt} {t t' : TS} (h : PSs X st t) (f : ∀ D σ H, t' D σ H → t D σ H) : PSs X st t' := ⟨fun pins s σ H D I q => h.run pins s σ H D I (f _ _ _ q)⟩

section
variable {X : Cx} {B : List Nat}
theorem Same.refl' {H : Hp} : Same H H := Same.refl H

/-! ### names, constants -/
def mName (i : Nat) : ME D := fun η => match η[i]? with
  | some (some (.s (.fro d))) => some (d, η)
  | _ => none
def mLoc (i : Nat) : ME Opd := fun η => match η[i]? with
  | some (some _) => some (.loc i, η)
  | _ => none
def mC (d : D) : ME D := fun η => some (d, η)
theorem ve_name {e : Expr} (i : Nat) (h : PE X e (tVar i)) : VE X B true e (mName i) := by
  refine pe_imp h fun σ H Q ⟨G, F, η, ρ, d, η', hm, R, k⟩ => ?_
  unfold mName at hm
  split at hm
  · rename_i d' q
    cases hm
    obtain ⟨v, h1, h2⟩ := R.slot i _ q
    exact ⟨v, h1, k v G H F (.refl _ _ _) (fun _ => .refl H) R h2.2⟩
  · cases hm
theorem vo_loc {e : Expr} (i : Nat) (h : PE X e (tVar i)) : VO X B false true e (mLoc i) := by
  refine ⟨pe_imp h fun σ H Q ⟨G, F, η, ρ, x, η', hm, R, k⟩ => ?_, fun _ η x η' h => ?_⟩
  · unfold mLoc at hm
    split at hm
    · rename_i o q
      cases hm
      obtain ⟨v, h1, h2⟩ := R.slot i _ q
      exact ⟨v, h1, k v G H F (.refl _ _ _) (fun _ => .refl H) R h1⟩
    · cases hm
  · unfold mLoc at h
    split at h
    · cases h; rfl
    · cases h
theorem ve_c {e : Expr} {v : V} {d : D} (h : PE X e (tC v)) (r : ∀ K G, Rep K G v d) : VE X B true e (mC d) := by
  refine pe_imp h fun σ H Q ⟨G, F, η, ρ, d', η', hm, R, k⟩ => ?_
  cases hm
  exact k v G H F (.refl _ _ _) (fun _ => .refl H) R (r _ _)
theorem ve_int {i j pos} : VE X B true (.Constant (.int i) j pos) (mC (.int i)) := ve_c pe_int fun _ _ => .int i
theorem ve_bl {b j pos} : VE X B true (.Constant (.bool b) j pos) (mC (.bl b)) := ve_c pe_bl fun _ _ => .bl b
theorem ve_non {j pos} : VE X B true (.Constant .none j pos) (mC .non) := ve_c pe_non fun _ _ => .non
theorem ve_str {x j pos} : VE X B true (.Constant (.str x) j pos) (mC (.str x)) := ve_c pe_str fun _ _ => .str x

/-- a frozen value as an operand -/
def mD (m : ME D) : ME Opd := fun η => (m η).bind fun p => some (.d p.1, p.2)
theorem vo_d {e : Expr} {p : Bool} {m : ME D} (h : VE X B p e m) : VO X B false p e (mD m) := by
  refine ⟨pe_imp h fun σ H Q ⟨G, F, η, ρ, x, η', hm, R, k⟩ => ?_, fun _ η x η' h => ?_⟩
  · simp only [mD, Option.bind_eq_some_iff] at hm
    obtain ⟨⟨d, η1⟩, h1, h2⟩ := hm
    cases h2
    exact ⟨G, F, η, ρ, d, η1, h1, R, fun v G' H' F' st pu R' r => k v G' H' F' st pu R' r⟩
  · simp only [mD, Option.bind_eq_some_iff] at h
    obtain ⟨⟨d, η1⟩, h1, h2⟩ := h
    cases h2
    rfl

/-! ### operators on values -/
def OpS (K : PySem.W.Frag) (r : R2) (f : D → D → Option D) : Prop := ∀ (G H : Hp) (x y : V) (a b d : D) (Q : VK), f a b = some d → RepC K G H x a → RepC K G H y b → Le G H →
  (∀ v G' H', Grow G H G' H' → Rep K G' v d → Q v H') → r x y H Q
def mOp2 (f : D → D → Option D) (ma mb : ME Opd) : ME D := fun η => (ma η).bind fun p => (mb p.2).bind fun q => (cont q.2 p.1).bind fun a => (cont q.2 q.1).bind fun b => (f a b).bind fun d => some (d, q.2)
theorem ve_op2 {e a b : Expr} {qa qb pa pb : Bool} {ma mb : ME Opd} {r : R2} {f : D → D → Option D} (hc : ∀ {ta tb : TE}, PE X a ta → PE X b tb → PE X e (tOp r ta tb)) (hs : OpS X.K r f)
    (ha : VO X B qa pa a ma) (hb : VO X B qb pb b mb) (hq : qa = false ∨ pb = true := by decide) : VE X B (pa && pb) e (mOp2 f ma mb) := by
  refine pe_imp (hc ha.run hb.run) fun σ H Q ⟨G, F, η, ρ, d, η', hm, R, k⟩ => ?_
  simp only [mOp2, Option.bind_eq_some_iff] at hm
  obtain ⟨⟨x, η1⟩, h1, ⟨y, η2⟩, h2, a', h3, b', h4, d', h5, h6⟩ := hm
  cases h6
  refine ⟨G, F, η, ρ, x, η1, h1, R, fun v G1 H1 F1 st1 pu1 R1 r1 => ?_⟩
  refine ⟨G1, F1, η1, ρ, y, η2, h2, R1, fun u G2 H2 F2 st2 pu2 R2 r2 => ?_⟩
  have r1' : RepP X.K G2 H2 σ v x := r1.step st2 (by
    rcases hq with hq | hq
    · exact .inl (ha.nof hq _ _ _ h1)
    · exact .inr (pu2 hq))
  refine hs G2 H2 v u a' b' d Q h5 (r1'.cont R2 h3) (r2.cont R2 h4) R2.le fun z G3 H3 g r3 => ?_
  refine k z G3 H3 F2 ((st1.trans st2).trans (g.step _)) (fun hp => ?_) (R2.grow g) r3
  rw [Bool.and_eq_true] at hp
  exact ((pu1 hp.1).trans (pu2 hp.2)).trans g.keep

/-- one operand -/
def UnS (K : PySem.W.Frag) (r : V → Hp → VK → Prop) (f : D → Option D) : Prop := ∀ (G H : Hp) (x : V) (a d : D) (Q : VK), f a = some d → RepC K G H x a → Le G H →
  (∀ v G' H', Grow G H G' H' → Rep K G' v d → Q v H') → r x H Q
def mUn (f : D → Option D) (ma : ME Opd) : ME D := fun η => (ma η).bind fun p => (cont p.2 p.1).bind fun a => (f a).bind fun d => some (d, p.2)
theorem ve_un {e a : Expr} {qa pa : Bool} {ma : ME Opd} {r : V → Hp → VK → Prop} {f : D → Option D} (hc : ∀ {ta : TE}, PE X a ta → PE X e (tUn r ta)) (hs : UnS X.K r f)
    (ha : VO X B qa pa a ma) : VE X B pa e (mUn f ma) := by
  refine pe_imp (hc ha.run) fun σ H Q ⟨G, F, η, ρ, d, η', hm, R, k⟩ => ?_
  simp only [mUn, Option.bind_eq_some_iff] at hm
  obtain ⟨⟨x, η1⟩, h1, a', h3, d', h5, h6⟩ := hm
  cases h6
  refine ⟨G, F, η, ρ, x, η1, h1, R, fun v G1 H1 F1 st1 pu1 R1 r1 => ?_⟩
  refine hs G1 H1 v a' d Q h5 (r1.cont R1 h3) R1.le fun z G3 H3 g r3 => ?_
  exact k z G3 H3 F1 (st1.trans (g.step _)) (fun hp => (pu1 hp).trans g.keep) (R1.grow g) r3

/-! ### tests -/
def mB (m : ME D) : ME Bool := fun η => (m η).bind fun p => match p.1 with
  | .bl b => some (b, p.2)
  | _ => none
theorem vt_of {e : Expr} {p : Bool} {m : ME D} (h : PT X e (tTest (rdE X.K B p m))) : VT X B p e (mB m) := by
  refine pt_imp h fun σ H Q ⟨G, F, η, ρ, b, η', hm, R, k⟩ => ?_
  simp only [mB, Option.bind_eq_some_iff] at hm
  obtain ⟨⟨d, η1⟩, h1, h2⟩ := hm
  split at h2
  · rename_i b' q
    cases h2
    refine ⟨G, F, η, ρ, d, η1, h1, R, fun v G' H' F' st pu R' r => ?_⟩
    have q : d = .bl b := q
    rw [q] at r
    cases r
    exact ⟨b, rfl, k G' H' F' st pu R'⟩
  · cases h2
theorem vt_val {e : Expr} {p : Bool} {m : ME D} (h : VE X B p e m) (he : ∀ whole, isTrue e X.env whole = (do let v ← whole; standAt e.pos; holding [v] (truthy v)) := by intro _; rfl) : VT X B p e (mB m) :=
  vt_of (pt_val h he)
/-- a comparison as a test -/
theorem vt_op2 {e a b : Expr} {qa qb pa pb : Bool} {ma mb : ME Opd} {r : R2} {f : D → D → Option D} (hc : ∀ {ta tb : TE}, PE X a ta → PE X b tb → PT X e (tTest (tOp r ta tb))) (hs : OpS X.K r f)
    (ha : VO X B qa pa a ma) (hb : VO X B qb pb b mb) (hq : qa = false ∨ pb = true := by decide) : VT X B (pa && pb) e (mB (mOp2 f ma mb)) := by
  refine pt_imp (hc ha.run hb.run) fun σ H Q ⟨G, F, η, ρ, bb, η', hm, R, k⟩ => ?_
  simp only [mB, mOp2, Option.bind_eq_some_iff] at hm
  obtain ⟨⟨d, η0⟩, ⟨⟨x, η1⟩, h1, ⟨y, η2⟩, h2, a', h3, b', h4, d', h5, h6⟩, h7⟩ := hm
  cases h6
  split at h7
  · rename_i bb' q
    cases h7
    have q : d = .bl bb := q
    subst q
    refine ⟨G, F, η, ρ, x, η1, h1, R, fun v G1 H1 F1 st1 pu1 R1 r1 => ?_⟩
    refine ⟨G1, F1, η1, ρ, y, η2, h2, R1, fun u G2 H2 F2 st2 pu2 R2 r2 => ?_⟩
    have r1' : RepP X.K G2 H2 σ v x := r1.step st2 (by
      rcases hq with hq | hq
      · exact .inl (ha.nof hq _ _ _ h1)
      · exact .inr (pu2 hq))
    refine hs G2 H2 v u a' b' _ _ h5 (r1'.cont R2 h3) (r2.cont R2 h4) R2.le fun z G3 H3 g r3 => ?_
    cases r3
    refine ⟨bb, rfl, k G3 H3 F2 ((st1.trans st2).trans (g.step _)) (fun hp => ?_) (R2.grow g)⟩
    rw [Bool.and_eq_true] at hp
    exact ((pu1 hp.1).trans (pu2 hp.2)).trans g.keep
  · cases h7
def mNot (m : ME Bool) : ME Bool := fun η => (m η).bind fun p => some (!p.1, p.2)
theorem vt_not {a : Expr} {p : Bool} {m : ME Bool} {pos : Pos} (h : VT X B p a m) : VT X B p (.UnaryOp .Not a pos) (mNot m) := by
  refine pt_imp (pt_not h) fun σ H Q ⟨G, F, η, ρ, b, η', hm, R, k⟩ => ?_
  simp only [mNot, Option.bind_eq_some_iff] at hm
  obtain ⟨⟨b', η1⟩, h1, h2⟩ := hm
  cases h2
  exact ⟨G, F, η, ρ, b', η1, h1, R, fun G' H' F' st pu R' => k G' H' F' st pu R'⟩
def mAnd (ma mb : ME Bool) : ME Bool := fun η => (ma η).bind fun p => if p.1 = true then mb p.2 else some (false, p.2)
def mOr (ma mb : ME Bool) : ME Bool := fun η => (ma η).bind fun p => if p.1 = true then some (true, p.2) else mb p.2
theorem vw_and1 {a : Expr} {p : Bool} {m : ME Bool} {pos : Pos} (h : VT X B p a m) : VW X B p (.BoolOp .And [a] pos) m := pw_and1 h
theorem vw_or1 {a : Expr} {p : Bool} {m : ME Bool} {pos : Pos} (h : VT X B p a m) : VW X B p (.BoolOp .Or [a] pos) m := pw_or1 h
theorem vw_and {a b : Expr} {rest : List Expr} {p q : Bool} {ma mb : ME Bool} {pos : Pos} (ha : VT X B p a ma) (hb : VW X B q (.BoolOp .And (b :: rest) pos) mb) : VW X B (p && q) (.BoolOp .And (a :: b :: rest) pos) (mAnd ma mb) := by
  refine pw_imp (pw_and ha hb) fun σ H Q ⟨G, F, η, ρ, bb, η', hm, R, k⟩ => ?_
  simp only [mAnd, Option.bind_eq_some_iff] at hm
  obtain ⟨⟨c, η1⟩, h1, h2⟩ := hm
  refine ⟨G, F, η, ρ, c, η1, h1, R, fun G1 H1 F1 st1 pu1 R1 => ?_⟩
  cases c with
  | true =>
    simp only [if_true] at h2 ⊢
    refine ⟨G1, F1, η1, ρ, bb, η', h2, R1, fun G2 H2 F2 st2 pu2 R2 => k G2 H2 F2 (st1.trans st2) (fun hp => ?_) R2⟩
    rw [Bool.and_eq_true] at hp
    exact (pu1 hp.1).trans (pu2 hp.2)
  | false =>
    simp only [Bool.false_eq_true, if_false] at h2 ⊢
    cases h2
    refine k G1 H1 F1 st1 (fun hp => ?_) R1
    rw [Bool.and_eq_true] at hp
    exact pu1 hp.1
theorem vw_or {a b : Expr} {rest : List Expr} {p q : Bool} {ma mb : ME Bool} {pos : Pos} (ha : VT X B p a ma) (hb : VW X B q (.BoolOp .Or (b :: rest) pos) mb) : VW X B (p && q) (.BoolOp .Or (a :: b :: rest) pos) (mOr ma mb) := by
  refine pw_imp (pw_or ha hb) fun σ H Q ⟨G, F, η, ρ, bb, η', hm, R, k⟩ => ?_
  simp only [mOr, Option.bind_eq_some_iff] at hm
  obtain ⟨⟨c, η1⟩, h1, h2⟩ := hm
  refine ⟨G, F, η, ρ, c, η1, h1, R, fun G1 H1 F1 st1 pu1 R1 => ?_⟩
  cases c with
  | true =>
    simp only [if_true] at h2 ⊢
    cases h2
    refine k G1 H1 F1 st1 (fun hp => ?_) R1
    rw [Bool.and_eq_true] at hp
    exact pu1 hp.1
  | false =>
    simp only [Bool.false_eq_true, if_false] at h2 ⊢
    refine ⟨G1, F1, η1, ρ, bb, η', h2, R1, fun G2 H2 F2 st2 pu2 R2 => k G2 H2 F2 (st1.trans st2) (fun hp => ?_) R2⟩
    rw [Bool.and_eq_true] at hp
    exact (pu1 hp.1).trans (pu2 hp.2)
theorem vt_w {e : Expr} {p : Bool} {m : ME Bool} (h : VW X B p e m) : VT X B p e m := h.pt

/-! ### as values: and, or, not, .. if .. else .. -/
def mAndV (ma mb : ME D) : ME D := fun η => (ma η).bind fun p => match p.1 with
  | .bl true => mb p.2
  | .bl false => some (.bl false, p.2)
  | _ => none
def mOrV (ma mb : ME D) : ME D := fun η => (ma η).bind fun p => match p.1 with
  | .bl true => some (.bl true, p.2)
  | .bl false => mb p.2
  | _ => none
def mNotV (ma : ME D) : ME D := fun η => (ma η).bind fun p => match p.1 with
  | .bl b => some (.bl (!b), p.2)
  | _ => none
theorem ve_one {op : BoolOp} {a : Expr} {p : Bool} {m : ME D} {pos : Pos} (h : VE X B p a m) : VE X B p (.BoolOp op [a] pos) m := pe_one h
theorem ve_and {a b : Expr} {rest : List Expr} {p q : Bool} {ma mb : ME D} {pos : Pos} (ha : VE X B p a ma) (hb : VE X B q (.BoolOp .And (b :: rest) pos) mb) : VE X B (p && q) (.BoolOp .And (a :: b :: rest) pos) (mAndV ma mb) := by
  refine pe_imp (pe_and ha hb) fun σ H Q ⟨G, F, η, ρ, d, η', hm, R, k⟩ => ?_
  simp only [mAndV, Option.bind_eq_some_iff] at hm
  obtain ⟨⟨c, η1⟩, h1, h2⟩ := hm
  refine ⟨G, F, η, ρ, c, η1, h1, R, fun v G1 H1 F1 st1 pu1 R1 r1 => ?_⟩
  split at h2
  · rename_i q'
    have q' : c = .bl true := q'
    subst q'
    cases r1
    refine ⟨true, rfl, ?_⟩
    simp only [if_true]
    refine ⟨G1, F1, η1, ρ, d, η', h2, R1, fun v G2 H2 F2 st2 pu2 R2 r2 => k v G2 H2 F2 (st1.trans st2) (fun hp => ?_) R2 r2⟩
    rw [Bool.and_eq_true] at hp
    exact (pu1 hp.1).trans (pu2 hp.2)
  · rename_i q'
    have q' : c = .bl false := q'
    subst q'
    cases h2
    cases r1
    refine ⟨false, rfl, ?_⟩
    simp only [Bool.false_eq_true, if_false]
    refine k _ G1 H1 F1 st1 (fun hp => ?_) R1 (.bl false)
    rw [Bool.and_eq_true] at hp
    exact pu1 hp.1
  · cases h2
theorem ve_or {a b : Expr} {rest : List Expr} {p q : Bool} {ma mb : ME D} {pos : Pos} (ha : VE X B p a ma) (hb : VE X B q (.BoolOp .Or (b :: rest) pos) mb) : VE X B (p && q) (.BoolOp .Or (a :: b :: rest) pos) (mOrV ma mb) := by
  refine pe_imp (pe_or ha hb) fun σ H Q ⟨G, F, η, ρ, d, η', hm, R, k⟩ => ?_
  simp only [mOrV, Option.bind_eq_some_iff] at hm
  obtain ⟨⟨c, η1⟩, h1, h2⟩ := hm
  refine ⟨G, F, η, ρ, c, η1, h1, R, fun v G1 H1 F1 st1 pu1 R1 r1 => ?_⟩
  split at h2
  · rename_i q'
    have q' : c = .bl true := q'
    subst q'
    cases h2
    cases r1
    refine ⟨true, rfl, ?_⟩
    simp only [if_true]
    refine k _ G1 H1 F1 st1 (fun hp => ?_) R1 (.bl true)
    rw [Bool.and_eq_true] at hp
    exact pu1 hp.1
  · rename_i q'
    have q' : c = .bl false := q'
    subst q'
    cases r1
    refine ⟨false, rfl, ?_⟩
    simp only [Bool.false_eq_true, if_false]
    refine ⟨G1, F1, η1, ρ, d, η', h2, R1, fun v G2 H2 F2 st2 pu2 R2 r2 => k v G2 H2 F2 (st1.trans st2) (fun hp => ?_) R2 r2⟩
    rw [Bool.and_eq_true] at hp
    exact (pu1 hp.1).trans (pu2 hp.2)
  · cases h2
theorem ve_not {a : Expr} {p : Bool} {m : ME D} {pos : Pos} (h : VE X B p a m) : VE X B p (.UnaryOp .Not a pos) (mNotV m) := by
  refine pe_imp (pe_not h) fun σ H Q ⟨G, F, η, ρ, d, η', hm, R, k⟩ => ?_
  simp only [mNotV, Option.bind_eq_some_iff] at hm
  obtain ⟨⟨c, η1⟩, h1, h2⟩ := hm
  refine ⟨G, F, η, ρ, c, η1, h1, R, fun v G1 H1 F1 st1 pu1 R1 r1 => ?_⟩
  split at h2
  · rename_i b q'
    have q' : c = .bl b := q'
    subst q'
    cases h2
    cases r1
    exact ⟨b, rfl, k _ G1 H1 F1 st1 pu1 R1 (.bl _)⟩
  · cases h2
def mIf {α : Type} (c : ME Bool) (ma mb : ME α) : ME α := fun η => (c η).bind fun p => if p.1 = true then ma p.2 else mb p.2
theorem ve_if {c a b : Expr} {pc p q : Bool} {mc : ME Bool} {ma mb : ME D} {pos : Pos} (hc : VT X B pc c mc) (ha : VE X B p a ma) (hb : VE X B q b mb) : VE X B (pc && (p && q)) (.IfExp c a b pos) (mIf mc ma mb) := by
  refine pe_imp (pe_ifExp hc ha hb) fun σ H Q ⟨G, F, η, ρ, d, η', hm, R, k⟩ => ?_
  simp only [mIf, Option.bind_eq_some_iff] at hm
  obtain ⟨⟨c', η1⟩, h1, h2⟩ := hm
  refine ⟨G, F, η, ρ, c', η1, h1, R, fun G1 H1 F1 st1 pu1 R1 => ?_⟩
  cases c' with
  | true =>
    simp only [if_true] at h2 ⊢
    refine ⟨G1, F1, η1, ρ, d, η', h2, R1, fun v G2 H2 F2 st2 pu2 R2 r2 => k v G2 H2 F2 (st1.trans st2) (fun hp => ?_) R2 r2⟩
    rw [Bool.and_eq_true, Bool.and_eq_true] at hp
    exact (pu1 hp.1).trans (pu2 hp.2.1)
  | false =>
    simp only [Bool.false_eq_true, if_false] at h2 ⊢
    refine ⟨G1, F1, η1, ρ, d, η', h2, R1, fun v G2 H2 F2 st2 pu2 R2 r2 => k v G2 H2 F2 (st1.trans st2) (fun hp => ?_) R2 r2⟩
    rw [Bool.and_eq_true, Bool.and_eq_true] at hp
    exact (pu1 hp.1).trans (pu2 hp.2.2)
end
end VL
end
section
set_option Elab.async false
set_option linter.all false
set_option maxRecDepth 100000
set_option maxHeartbeats 1000000
namespace VL
open PySem PySem.Spec PyProof.Rows L2

/-! ### as the kit's data (no dicts, no references), nested below n -/
mutual
def toP : Nat → D → Option PyData
  | _, .non => some .none
  | _, .bl b => some (.bool b)
  | _, .int i => some (.int i)
  | _, .str x => some (.str x)
  | 0, .tup _ => none
  | 0, .lst _ => none
  | 0, .ktup _ => none
  | n + 1, .tup xs => (toPs n xs).map PyData.tuple
  | n + 1, .ktup xs => (toPs n xs).map PyData.tuple
  | n + 1, .lst xs => (toPs n xs).map PyData.list
  | _, .ref _ => none
  | _, .ty _ => none
  | _, .dT _ => none
  | _, .dK _ => none
def toPs : Nat → List D → Option (List PyData)
  | _, [] => some []
  | n, x :: xs => (toP n x).bind fun p => (toPs n xs).map fun ps => p :: ps
end
section
variable {K : PySem.W.Frag} {H : Hp}
mutual
theorem toP_plain : ∀ {n : Nat} {d : D} {p : PyData}, toP n d = some p → p.plain = true ∧ p.depth ≤ n
  | n, .non, _, h => by unfold toP at h; cases h; exact ⟨rfl, by simp [PyData.depth]⟩
  | n, .bl b, _, h => by unfold toP at h; cases h; exact ⟨rfl, by simp [PyData.depth]⟩
  | n, .int i, _, h => by unfold toP at h; cases h; exact ⟨rfl, by simp [PyData.depth]⟩
  | n, .str x, _, h => by unfold toP at h; cases h; exact ⟨rfl, by simp [PyData.depth]⟩
  | 0, .tup _, _, h => by unfold toP at h; cases h
  | 0, .lst _, _, h => by unfold toP at h; cases h
  | 0, .ktup _, _, h => by unfold toP at h; cases h
  | n + 1, .tup xs, _, h => by
    unfold toP at h
    obtain ⟨ps, h1, rfl⟩ := Option.map_eq_some_iff.mp h
    obtain ⟨a, b⟩ := toPs_plain h1
    exact ⟨by simpa [PyData.plain] using a, by simp only [PyData.depth]; omega⟩
  | n + 1, .ktup xs, _, h => by
    unfold toP at h
    obtain ⟨ps, h1, rfl⟩ := Option.map_eq_some_iff.mp h
    obtain ⟨a, b⟩ := toPs_plain h1
    exact ⟨by simpa [PyData.plain] using a, by simp only [PyData.depth]; omega⟩
  | n + 1, .lst xs, _, h => by
    unfold toP at h
    obtain ⟨ps, h1, rfl⟩ := Option.map_eq_some_iff.mp h
    obtain ⟨a, b⟩ := toPs_plain h1
    exact ⟨by simpa [PyData.plain] using a, by simp only [PyData.depth]; omega⟩
  | n, .ref _, _, h => by unfold toP at h; cases h
  | n, .ty _, _, h => by unfold toP at h; cases h
  | n, .dT _, _, h => by unfold toP at h; cases h
  | n, .dK _, _, h => by unfold toP at h; cases h
theorem toPs_plain : ∀ {n : Nat} {ds : List D} {ps : List PyData}, toPs n ds = some ps → PyData.plainAll ps = true ∧ PyData.depthAll ps ≤ n
  | n, [], _, h => by unfold toPs at h; cases h; exact ⟨rfl, by simp [PyData.depthAll]⟩
  | n, x :: xs, _, h => by
    unfold toPs at h
    obtain ⟨p, h1, h2⟩ := Option.bind_eq_some_iff.mp h
    obtain ⟨ps, h3, rfl⟩ := Option.map_eq_some_iff.mp h2
    obtain ⟨a, b⟩ := toP_plain h1
    obtain ⟨c, d⟩ := toPs_plain h3
    exact ⟨by simp [PyData.plainAll, a, c], by simp only [PyData.depthAll]; omega⟩
end
mutual
theorem Rep.dp : ∀ {n : Nat} {d : D} {p : PyData} {v : V}, Rep K H v d → toP n d = some p → Dp K H v p
  | n, .non, _, _, .non, h => by unfold toP at h; cases h; exact .non
  | n, .bl b, _, _, .bl _, h => by unfold toP at h; cases h; exact .bl b
  | n, .int i, _, _, .int _, h => by unfold toP at h; cases h; exact .int i
  | n, .str x, _, _, .str _, h => by unfold toP at h; cases h; exact .str x
  | 0, .tup _, _, _, _, h => by unfold toP at h; cases h
  | 0, .lst _, _, _, _, h => by unfold toP at h; cases h
  | 0, .ktup _, _, _, _, h => by unfold toP at h; cases h
  | n + 1, .tup xs, _, _, .tup h1 h2, h => by
    unfold toP at h
    obtain ⟨ps, h3, rfl⟩ := Option.map_eq_some_iff.mp h
    exact .tup (SqT.of h1) (Reps.dp h2 h3)
  | n + 1, .ktup xs, _, _, .ktup h1 h2, h => by
    unfold toP at h
    obtain ⟨ps, h3, rfl⟩ := Option.map_eq_some_iff.mp h
    exact .tup h1.1 (Reps.dp h2 h3)
  | n + 1, .lst xs, _, _, .lst h1 h2, h => by
    unfold toP at h
    obtain ⟨ps, h3, rfl⟩ := Option.map_eq_some_iff.mp h
    exact .lst h1 (Reps.dp h2 h3)
  | n, .ref _, _, _, _, h => by unfold toP at h; cases h
  | n, .ty _, _, _, _, h => by unfold toP at h; cases h
  | n, .dT _, _, _, _, h => by unfold toP at h; cases h
  | n, .dK _, _, _, _, h => by unfold toP at h; cases h
theorem Reps.dp : ∀ {n : Nat} {ds : List D} {ps : List PyData} {vs : List V}, Reps K H vs ds → toPs n ds = some ps → DpAll K H vs ps
  | n, [], _, _, .nil, h => by unfold toPs at h; cases h; exact .nil
  | n, x :: xs, _, _, .cons r rs, h => by
    unfold toPs at h
    obtain ⟨p, h1, h2⟩ := Option.bind_eq_some_iff.mp h
    obtain ⟨ps, h3, rfl⟩ := Option.map_eq_some_iff.mp h2
    exact .cons (Rep.dp r h1) (Reps.dp rs h3)
end
end

/-! ### rules of the kit's layer, for plain data -/
section
variable {X : Cx}
def rEqP (K : PySem.W.Frag) : R2 := fun x y H Q => ∃ d e, Dp K H x d ∧ Dp K H y e ∧ d.plain = true ∧ e.plain = true ∧ d.depth ≤ 64 ∧ Q (.bl (PyData.eqv d e)) H
def rNeP (K : PySem.W.Frag) : R2 := fun x y H Q => ∃ d e, Dp K H x d ∧ Dp K H y e ∧ d.plain = true ∧ e.plain = true ∧ d.depth ≤ 64 ∧ Q (.bl (!PyData.eqv d e)) H
theorem op_eqP (hu : X.A.units + 64 < cLine) : OpR X (compareOp .Eq) (rEqP X.K) := by
  intro pins s σ H x y v u Q I rx ry h
  obtain ⟨d, e, hd, he, sd, se, hl, q⟩ := h
  obtain ⟨as, r1⟩ := Dp.reads I d x v hd rx
  obtain ⟨bs, r2⟩ := Dp.reads I e y u he ry
  exact SeqAt.eq_plain r1 r2 sd se (by omega) ⟨.bl _, H, I, rfl, q⟩
theorem op_neP (hu : X.A.units + 64 < cLine) : OpR X (compareOp .NotEq) (rNeP X.K) := by
  intro pins s σ H x y v u Q I rx ry h
  obtain ⟨d, e, hd, he, sd, se, hl, q⟩ := h
  obtain ⟨as, r1⟩ := Dp.reads I d x v hd rx
  obtain ⟨bs, r2⟩ := Dp.reads I e y u he ry
  exact SeqAt.ne_plain r1 r2 sd se (by omega) ⟨.bl _, H, I, rfl, q⟩
/-- x in a list or tuple -/
def rInP (K : PySem.W.Frag) (neg : Bool) : R2 := fun x y H Q => ∃ d ds, Dp K H x d ∧ (Dp K H y (.list ds) ∨ Dp K H y (.tuple ds)) ∧ d.plain = true ∧ PyData.plainAll ds = true ∧ d.depth ≤ 60 ∧
  Q (.bl (if neg then !ds.any fun z => PyData.eqv z d else ds.any fun z => PyData.eqv z d)) H
theorem op_inP (hu : X.A.units + 64 < cLine) : OpR X (compareOp .In) (rInP X.K false) := by
  intro pins s σ H x y v u Q I rx ry h
  obtain ⟨d, ds, hd, he, sd, se, hl, q⟩ := h
  obtain ⟨as, r1⟩ := Dp.reads I d x v hd rx
  rcases he with he | he
  · obtain ⟨bs, r2⟩ := Dp.reads I _ y u he ry
    exact SeqAt.in_list_data r2 r1 se sd (by omega) ⟨.bl _, H, I, rfl, q⟩
  · obtain ⟨bs, r2⟩ := Dp.reads I _ y u he ry
    exact SeqAt.in_tuple_data r2 r1 se sd (by omega) ⟨.bl _, H, I, rfl, q⟩
theorem op_notInP (hu : X.A.units + 64 < cLine) : OpR X (compareOp .NotIn) (rInP X.K true) := by
  intro pins s σ H x y v u Q I rx ry h
  obtain ⟨d, ds, hd, he, sd, se, hl, q⟩ := h
  obtain ⟨as, r1⟩ := Dp.reads I d x v hd rx
  rcases he with he | he
  · obtain ⟨bs, r2⟩ := Dp.reads I _ y u he ry
    exact SeqAt.notIn_list_data r2 r1 se sd (by omega) ⟨.bl _, H, I, rfl, q⟩
  · obtain ⟨bs, r2⟩ := Dp.reads I _ y u he ry
    exact SeqAt.notIn_tuple_data r2 r1 se sd (by omega) ⟨.bl _, H, I, rfl, q⟩
/-- order of alike data -/
def rLtP (K : PySem.W.Frag) (f : PyData → PyData → Bool) : R2 := fun x y H Q => ∃ d e, Dp K H x d ∧ Dp K H y e ∧ PySem.W.alike d e = true ∧ d ≠ .none ∧ d.depth ≤ 64 ∧ Q (.bl (f d e)) H
theorem op_ltP (hu : X.A.units + 64 < cLine) : OpR X (compareOp .Lt) (rLtP X.K fun d e => PySem.W.dataLt d e) := by
  intro pins s σ H x y v u Q I rx ry h
  obtain ⟨d, e, hd, he, ha, hn, hl, q⟩ := h
  obtain ⟨as, r1⟩ := Dp.reads I d x v hd rx
  obtain ⟨bs, r2⟩ := Dp.reads I e y u he ry
  exact PySem.W.lt_data r1 r2 ha hn (by omega) ⟨.bl _, H, I, rfl, q⟩
theorem op_leP (hu : X.A.units + 64 < cLine) : OpR X (compareOp .LtE) (rLtP X.K fun d e => !PySem.W.dataLt e d) := by
  intro pins s σ H x y v u Q I rx ry h
  obtain ⟨d, e, hd, he, ha, hn, hl, q⟩ := h
  obtain ⟨as, r1⟩ := Dp.reads I d x v hd rx
  obtain ⟨bs, r2⟩ := Dp.reads I e y u he ry
  exact PySem.W.le_data r1 r2 ha hn (by omega) ⟨.bl _, H, I, rfl, q⟩
theorem op_gtP (hu : X.A.units + 64 < cLine) : OpR X (compareOp .Gt) (rLtP X.K fun d e => PySem.W.dataLt e d) := by
  intro pins s σ H x y v u Q I rx ry h
  obtain ⟨d, e, hd, he, ha, hn, hl, q⟩ := h
  obtain ⟨as, r1⟩ := Dp.reads I d x v hd rx
  obtain ⟨bs, r2⟩ := Dp.reads I e y u he ry
  exact PySem.W.gt_data r1 r2 ha hn (by omega) ⟨.bl _, H, I, rfl, q⟩
theorem op_geP (hu : X.A.units + 64 < cLine) : OpR X (compareOp .GtE) (rLtP X.K fun d e => !PySem.W.dataLt d e) := by
  intro pins s σ H x y v u Q I rx ry h
  obtain ⟨d, e, hd, he, ha, hn, hl, q⟩ := h
  obtain ⟨as, r1⟩ := Dp.reads I d x v hd rx
  obtain ⟨bs, r2⟩ := Dp.reads I e y u he ry
  exact PySem.W.ge_data r1 r2 ha hn (by omega) ⟨.bl _, H, I, rfl, q⟩
/-- a list plus a list, however they stand -/
def rCatS (K : PySem.W.Frag) : R2 := fun x y H Q => ∃ l b xs zs, x = .ref l ∧ y = .ref b ∧ SqL K H l xs ∧ SqL K H b zs ∧ xs.length + zs.length ≤ sizeLine ∧ ∀ p, H p = none → Q (.ref p) (upd H p (.lst (xs ++ zs)))
theorem op_catS : OpR X (binaryOp .Add) (rCatS X.K) := by
  intro pins s σ H x y v u Q I rx ry h
  obtain ⟨l, b, xs, zs, rfl, rfl, hH, hB, hz, q⟩ := h
  cases rx
  cases ry
  obtain ⟨its, r1, p1, _⟩ := I.list hH
  obtain ⟨its2, r2, p2, _⟩ := I.list hB
  have l1 := r1.length
  have l2 := r2.length
  obtain ⟨⟨cls, dd, data, sl⟩, ho, hc, n, hd⟩ := p1.isList
  obtain ⟨⟨cls2, dd2, data2, sl2⟩, ho2, hc2, n2, hd2⟩ := p2.isList
  simp only at hc hd hc2 hd2
  subst hc hd hc2 hd2
  have ea : its.toArray ++ its2.toArray = (its ++ its2).toArray := by simp
  refine concat_meets ⟨_, ho, rfl⟩ ⟨_, ho2, rfl⟩ noFill_list_add seq_list_add PySem.F.slot_list_add PySem.F.entry_list_add (PySem.F.args_list_add_2 _ _) (list_addW l b its.toArray its2.toArray n n2 dd dd2 sl sl2 (by rw [List.size_toArray, List.size_toArray]; omega)) ⟨ho, ho2, ?_⟩
  rw [ea]
  exact ⟨.ref _, _, I.lnew (t' := s.toks) (r1.append r2) (by rw [List.length_append]; omega), rfl, q _ I.fresh⟩
end

/-! ### the operators on D -/
section
variable {K : PySem.W.Frag}
theorem OpS.or {r r' : R2} {f : D → D → Option D} (h : ∀ (G H : Hp) (x y : V) (a b d : D) (Q : VK), f a b = some d → RepC K G H x a → RepC K G H y b → Le G H →
  (∀ v G' H', Grow G H G' H' → Rep K G' v d → Q v H') → r x y H Q ∨ r' x y H Q) : OpS K (fun x y H Q => r x y H Q ∨ r' x y H Q) f := h
def dAdd : D → D → Option D
  | .int i, .int j => some (.int (i + j))
  | .str x, .str y => if x.length + y.length ≤ 16777216 then some (.str (x ++ y)) else none
  | .tup xs, .tup ys => if xs.length + ys.length ≤ 16777216 then some (.tup (xs ++ ys)) else none
  | .lst xs, .lst ys => if xs.length + ys.length ≤ 16777216 then some (.lst (xs ++ ys)) else none
  | _, _ => none
def rAddAll (K : PySem.W.Frag) : R2 := fun x y H Q => rI0 (fun i j => .int (i + j)) x y H Q ∨ ((∃ i j, x = .str i ∧ y = .str j ∧ i.length + j.length ≤ sizeLine ∧ Q (.str (i ++ j)) H) ∨ (rCatA K x y H Q ∨ rCatS K x y H Q))
theorem op_addAll {X : Cx} : OpR X (binaryOp .Add) (rAddAll X.K) := op_add.or (op_add_str.or (op_catA.or op_catS))
theorem sz_le {n : Nat} (h : n ≤ 16777216) : n ≤ sizeLine := by rw [sizeLine_eq]; exact h
theorem os_add : OpS K (rAddAll K) dAdd := by
  intro G H x y a b d Q hf ra rb l k
  unfold dAdd at hf
  split at hf
  · cases hf; cases ra; cases rb
    exact .inl ⟨_, _, rfl, rfl, k _ G H (.refl l) (.int _)⟩
  · split at hf
    · cases hf; cases ra; cases rb
      rename_i h
      exact .inr (.inl ⟨_, _, rfl, rfl, sz_le h, k _ G H (.refl l) (.str _)⟩)
    · cases hf
  · rename_i xs ys
    split at hf
    · rename_i hz
      cases hf
      cases ra with
      | tup h1 h2 =>
        rename_i a1 vs1
        cases rb with
        | tup g1 g2 =>
          rename_i a2 vs2
          have e1 := h2.length
          have e2 := g2.length
          refine .inr (.inr (.inl ⟨a1, a2, vs1, vs2, rfl, rfl, SqT.of (l.2 _ _ h1), SqT.of (l.2 _ _ g1), sz_le (by omega), fun e => ?_, fun e e' => ?_, fun e e' p hp => ?_⟩))
          · have : xs = [] := h2.nil_iff.mp e
            subst this
            exact k _ G H (.refl l) (.tup g1 g2)
          · have : ys = [] := g2.nil_iff.mp e'
            subst this
            rw [List.append_nil] at k
            exact k _ G H (.refl l) (.tup h1 h2)
          · have g := Grow.new l (o := .tup (vs1 ++ vs2)) hp
            exact k _ _ _ g (.tup upd_same ((h2.append g2).mono g.le))
    · cases hf
  · rename_i xs ys
    split at hf
    · rename_i hz
      cases hf
      obtain ⟨a1, vs1, rfl, h1, h2⟩ := ra
      obtain ⟨a2, vs2, rfl, g1, g2⟩ := rb
      have e1 := h2.length
      have e2 := g2.length
      refine .inr (.inr (.inr ⟨a1, a2, vs1, vs2, rfl, rfl, h1, g1, sz_le (by omega), fun p hp => ?_⟩))
      have g := Grow.new l (o := .lst (vs1 ++ vs2)) hp
      exact k _ _ _ g (.lst (SqL.of upd_same) ((h2.append g2).mono g.le))
    · cases hf
  · cases hf
def dSub : D → D → Option D
  | .int i, .int j => some (.int (i - j))
  | _, _ => none
theorem os_sub : OpS K (rI0 fun i j => .int (i - j)) dSub := by
  intro G H x y a b d Q hf ra rb l k
  unfold dSub at hf
  split at hf
  · cases hf; cases ra; cases rb
    exact ⟨_, _, rfl, rfl, k _ G H (.refl l) (.int _)⟩
  · cases hf
end
end VL
end
section
set_option Elab.async false
set_option linter.all false
set_option maxRecDepth 100000
set_option maxHeartbeats 1000000
namespace VL
open PySem PySem.Spec PyProof.Rows L2
section
variable {K : PySem.W.Frag}
def dMul : D → D → Option D
  | .int i, .int j => if (-(2 ^ 64) < i ∧ i < 2 ^ 64) ∨ (-(2 ^ 64) < j ∧ j < 2 ^ 64) then some (.int (i * j)) else if i.natAbs.log2 + j.natAbs.log2 < 1000000 then some (.int (i * j)) else none
  | .tup xs, .int k => if xs ≠ [] ∧ 2 ≤ k ∧ k ≤ 1000 ∧ xs.length ≤ 1000 then some (.tup (List.replicate k.toNat xs).flatten) else none
  | _, _ => none
def rMulAll (K : PySem.W.Frag) : R2 := fun x y H Q => rI CMul (fun i j => .int (i * j)) x y H Q ∨ (rI CMulW (fun i j => .int (i * j)) x y H Q ∨ rRepT K x y H Q)
theorem op_mulAll {X : Cx} : OpR X (binaryOp .Mult) (rMulAll X.K) := op_mul.or (op_mulW.or op_repT)
instance (xs : List D) : Decidable (xs ≠ []) := match xs with
  | [] => .isFalse fun h => h rfl
  | _ :: _ => .isTrue fun h => nomatch h
theorem Reps.replicate {G : Hp} {vs : List V} {ds : List D} (h : Reps K G vs ds) : ∀ n : Nat, Reps K G (List.replicate n vs).flatten (List.replicate n ds).flatten
  | 0 => .nil
  | n + 1 => by
    rw [List.replicate_succ, List.replicate_succ, List.flatten_cons, List.flatten_cons]
    exact h.append (Reps.replicate h n)
theorem os_mul : OpS K (rMulAll K) dMul := by
  intro G H x y a b d Q hf ra rb l k
  unfold dMul at hf
  split at hf
  · split at hf
    · rename_i h
      cases hf; cases ra; cases rb
      exact .inl ⟨_, _, rfl, rfl, h, k _ G H (.refl l) (.int _)⟩
    · split at hf
      · rename_i h
        cases hf; cases ra; cases rb
        exact .inr (.inl ⟨_, _, rfl, rfl, h, k _ G H (.refl l) (.int _)⟩)
      · cases hf
  · rename_i xs0 k0
    split at hf
    · rename_i h
      cases hf
      cases rb
      cases ra with
      | tup h1 h2 =>
        rename_i a1 vs1
        have e1 := h2.length
        refine .inr (.inr ⟨a1, _, vs1, rfl, rfl, SqT.of (l.2 _ _ h1), fun e => h.1 (h2.nil_iff.mp e), h.2.1, h.2.2.1, by omega, fun p hp => ?_⟩)
        have g := Grow.new l (o := .tup (List.replicate k0.toNat vs1).flatten) hp
        exact k _ _ _ g (.tup upd_same ((h2.replicate _).mono g.le))
    · cases hf
  · cases hf
def dFdiv : D → D → Option D
  | .int i, .int j => if 0 < j then (if j < 1073741824 then some (.int (i / j)) else if j.natAbs.log2 < 9000 then some (.int (i / j)) else none) else none
  | _, _ => none
def rFdivAll : R2 := fun x y H Q => rI CDiv (fun i j => .int (i / j)) x y H Q ∨ rI CDivW (fun i j => .int (i / j)) x y H Q
theorem op_fdivAll {X : Cx} : OpR X (binaryOp .FloorDiv) rFdivAll := op_fdiv.or op_fdivW
theorem os_fdiv : OpS K rFdivAll dFdiv := by
  intro G H x y a b d Q hf ra rb l k
  unfold dFdiv at hf
  split at hf
  · split at hf
    · rename_i h0
      split at hf
      · rename_i h
        cases hf; cases ra; cases rb
        exact .inl ⟨_, _, rfl, rfl, ⟨h0, h⟩, k _ G H (.refl l) (.int _)⟩
      · split at hf
        · rename_i h
          cases hf; cases ra; cases rb
          exact .inr ⟨_, _, rfl, rfl, ⟨h0, h⟩, k _ G H (.refl l) (.int _)⟩
        · cases hf
    · cases hf
  · cases hf
def dMod : D → D → Option D
  | .int i, .int j => if 0 < j then some (.int (i % j)) else none
  | _, _ => none
theorem os_mod : OpS K (rI (fun _ j => 0 < j) fun i j => .int (i % j)) dMod := by
  intro G H x y a b d Q hf ra rb l k
  unfold dMod at hf
  split at hf
  · split at hf
    · rename_i h
      cases hf; cases ra; cases rb
      exact ⟨_, _, rfl, rfl, h, k _ G H (.refl l) (.int _)⟩
    · cases hf
  · cases hf
def dPow : D → D → Option D
  | .int i, .int j => if 0 ≤ j ∧ j ≤ 1000000 ∧ i.natAbs < 2 ^ 64 then some (.int (i ^ j.toNat)) else none
  | _, _ => none
theorem os_pow : OpS K (rI CPow fun i j => .int (i ^ j.toNat)) dPow := by
  intro G H x y a b d Q hf ra rb l k
  unfold dPow at hf
  split at hf
  · split at hf
    · rename_i h
      cases hf; cases ra; cases rb
      exact ⟨_, _, rfl, rfl, h, k _ G H (.refl l) (.int _)⟩
    · cases hf
  · cases hf
def dNeg : D → Option D
  | .int i => some (.int (-i))
  | _ => none
theorem us_neg : UnS K (rU fun i => .int (-i)) dNeg := by
  intro G H x a d Q hf ra l k
  unfold dNeg at hf
  split at hf
  · cases hf; cases ra
    exact ⟨_, rfl, k _ G H (.refl l) (.int _)⟩
  · cases hf

/-! ### comparisons -/
def dEq (a b : D) : Option D := (toP 60 a).bind fun p => (toP 60 b).bind fun q => some (.bl (PyData.eqv p q))
def dNe (a b : D) : Option D := (toP 60 a).bind fun p => (toP 60 b).bind fun q => some (.bl (!PyData.eqv p q))
theorem os_eq : OpS K (rEqP K) dEq := by
  intro G H x y a b d Q hf ra rb l k
  simp only [dEq, Option.bind_eq_some_iff] at hf
  obtain ⟨p, h1, q, h2, h3⟩ := hf
  cases h3
  have e1 := toP_plain h1
  have e2 := toP_plain h2
  exact ⟨p, q, (ra.all l).dp h1, (rb.all l).dp h2, e1.1, e2.1, Nat.le_trans e1.2 (by decide), k _ G H (.refl l) (.bl _)⟩
theorem os_ne : OpS K (rNeP K) dNe := by
  intro G H x y a b d Q hf ra rb l k
  simp only [dNe, Option.bind_eq_some_iff] at hf
  obtain ⟨p, h1, q, h2, h3⟩ := hf
  cases h3
  have e1 := toP_plain h1
  have e2 := toP_plain h2
  exact ⟨p, q, (ra.all l).dp h1, (rb.all l).dp h2, e1.1, e2.1, Nat.le_trans e1.2 (by decide), k _ G H (.refl l) (.bl _)⟩
def pdNone : PyData → Bool
  | .none => true
  | _ => false
theorem pdNone_ne {p : PyData} (h : pdNone p = false) : p ≠ .none := fun e => by subst e; cases h
/-- order: ints at once, else alike data -/
def dOrd (fi : Int → Int → Bool) (f : PyData → PyData → Bool) : D → D → Option D
  | .int i, .int j => some (.bl (fi i j))
  | a, b => (toP 60 a).bind fun p => (toP 60 b).bind fun q => if PySem.W.alike p q = true ∧ pdNone p = false then some (.bl (f p q)) else none
theorem os_ord {fi : Int → Int → Bool} {f : PyData → PyData → Bool} : OpS K (fun x y H Q => rI0 (fun i j => .bl (fi i j)) x y H Q ∨ rLtP K f x y H Q) (dOrd fi f) := by
  intro G H x y a b d Q hf ra rb l k
  unfold dOrd at hf
  split at hf
  · cases hf; cases ra; cases rb
    exact .inl ⟨_, _, rfl, rfl, k _ G H (.refl l) (.bl _)⟩
  · simp only [Option.bind_eq_some_iff] at hf
    obtain ⟨p, h1, q, h2, h3⟩ := hf
    split at h3
    · rename_i h
      cases h3
      have e1 := toP_plain h1
      exact .inr ⟨p, q, (ra.all l).dp h1, (rb.all l).dp h2, h.1, pdNone_ne h.2, Nat.le_trans e1.2 (by decide), k _ G H (.refl l) (.bl _)⟩
    · cases h3
def dLt : D → D → Option D := dOrd (fun i j => decide (i < j)) fun p q => PySem.W.dataLt p q
def dLe : D → D → Option D := dOrd (fun i j => decide (i ≤ j)) fun p q => !PySem.W.dataLt q p
def dGt : D → D → Option D := dOrd (fun i j => decide (j < i)) fun p q => PySem.W.dataLt q p
def dGe : D → D → Option D := dOrd (fun i j => decide (j ≤ i)) fun p q => !PySem.W.dataLt p q
theorem op_ltAll {X : Cx} (hu : X.A.units + 64 < cLine) : OpR X (compareOp .Lt) (fun x y H Q => rI0 (fun i j => .bl (decide (i < j))) x y H Q ∨ rLtP X.K (fun p q => PySem.W.dataLt p q) x y H Q) := op_lt.or (op_ltP hu)
theorem op_leAll {X : Cx} (hu : X.A.units + 64 < cLine) : OpR X (compareOp .LtE) (fun x y H Q => rI0 (fun i j => .bl (decide (i ≤ j))) x y H Q ∨ rLtP X.K (fun p q => !PySem.W.dataLt q p) x y H Q) := op_le.or (op_leP hu)
theorem op_gtAll {X : Cx} (hu : X.A.units + 64 < cLine) : OpR X (compareOp .Gt) (fun x y H Q => rI0 (fun i j => .bl (decide (j < i))) x y H Q ∨ rLtP X.K (fun p q => PySem.W.dataLt q p) x y H Q) := op_gt.or (op_gtP hu)
theorem op_geAll {X : Cx} (hu : X.A.units + 64 < cLine) : OpR X (compareOp .GtE) (fun x y H Q => rI0 (fun i j => .bl (decide (j ≤ i))) x y H Q ∨ rLtP X.K (fun p q => !PySem.W.dataLt p q) x y H Q) := op_ge.or (op_geP hu)
/-! is -/
def isPlainD : D → Bool
  | .non => true
  | .bl _ => true
  | _ => false
def isNonD : D → Bool
  | .non => true
  | _ => false
def isBlD (c : Bool) : D → Bool
  | .bl e => e == c
  | _ => false
/-- x is None | True | False, any x -/
def dIs (a b : D) : Option D := match b with
  | .non => some (.bl (isNonD a))
  | .bl c => some (.bl (isBlD c a))
  | _ => none
def dIsNot (a b : D) : Option D := match b with
  | .non => some (.bl (!(isNonD a)))
  | .bl c => some (.bl (!(isBlD c a)))
  | _ => none
def rIsG (neg : Bool) : R2 := fun x y H Q => (y = .non ∨ ∃ c, y = .bl c) ∧ Q (.bl (if neg then !decide (x = y) else decide (x = y))) H
theorem op_isG {X : Cx} : OpR X (compareOp .Is) (rIsG false) := by
  intro pins s σ H x y v u Q I rx ry h
  obtain ⟨hy, q⟩ := h
  rcases hy with rfl | ⟨c, rfl⟩
  · exact op_isN pins s σ H x _ v u Q I rx ry ⟨rfl, q⟩
  · cases (show u = Value.bool c from ry)
    have fin : ∀ b : Bool, b = decide (x = V.bl c) → EP X pins σ Q (.bool b) s := fun b e => ⟨.bl b, H, I, rfl, by subst e; exact q⟩
    cases x with
    | bl b =>
      cases (show v = Value.bool b from rx)
      by_cases e : b = c
      · subst e; exact wpAny_is_self rfl (fin true (by simp))
      · exact wpAny_is_other rfl (fun z => e (Value.bool.inj z)) (fin false (by simp [e]))
    | non => cases (show v = Value.none from rx); exact wpAny_is_other rfl (fun z => nomatch z) (fin false (by simp))
    | int i => obtain ⟨t, rfl⟩ := (show ∃ t, v = Value.int i t from rx); exact wpAny_is_other rfl (fun z => nomatch z) (fin false (by simp))
    | str i => obtain ⟨t, rfl⟩ := (show ∃ t, v = Value.str i t from rx); exact wpAny_is_other rfl (fun z => nomatch z) (fin false (by simp))
    | byt i => obtain ⟨t, rfl⟩ := (show ∃ t, v = Value.bytes i t from rx); exact wpAny_is_other rfl (fun z => nomatch z) (fin false (by simp))
    | flt i => obtain ⟨t, rfl⟩ := (show ∃ t, v = Value.float i t from rx); exact wpAny_is_other rfl (fun z => nomatch z) (fin false (by simp))
    | ref a => cases (show v = Value.ref a from rx); exact wpAny_is_other rfl (fun z => nomatch z) (fin false (by simp))
    | ty n => cases (show v = Value.type n from rx); exact wpAny_is_other rfl (fun z => nomatch z) (fin false (by simp))
theorem op_isNotG {X : Cx} : OpR X (compareOp .IsNot) (rIsG true) := by
  intro pins s σ H x y v u Q I rx ry h
  obtain ⟨hy, q⟩ := h
  rcases hy with rfl | ⟨c, rfl⟩
  · exact op_notN pins s σ H x _ v u Q I rx ry ⟨rfl, q⟩
  · cases (show u = Value.bool c from ry)
    have fin : ∀ b : Bool, b = !decide (x = V.bl c) → EP X pins σ Q (.bool b) s := fun b e => ⟨.bl b, H, I, rfl, by subst e; exact q⟩
    cases x with
    | bl b =>
      cases (show v = Value.bool b from rx)
      by_cases e : b = c
      · subst e; exact wpAny_isNot_self rfl (fin false (by simp))
      · exact wpAny_isNot_other rfl (fun z => e (Value.bool.inj z)) (fin true (by simp [e]))
    | non => cases (show v = Value.none from rx); exact wpAny_isNot_other rfl (fun z => nomatch z) (fin true (by simp))
    | int i => obtain ⟨t, rfl⟩ := (show ∃ t, v = Value.int i t from rx); exact wpAny_isNot_other rfl (fun z => nomatch z) (fin true (by simp))
    | str i => obtain ⟨t, rfl⟩ := (show ∃ t, v = Value.str i t from rx); exact wpAny_isNot_other rfl (fun z => nomatch z) (fin true (by simp))
    | byt i => obtain ⟨t, rfl⟩ := (show ∃ t, v = Value.bytes i t from rx); exact wpAny_isNot_other rfl (fun z => nomatch z) (fin true (by simp))
    | flt i => obtain ⟨t, rfl⟩ := (show ∃ t, v = Value.float i t from rx); exact wpAny_isNot_other rfl (fun z => nomatch z) (fin true (by simp))
    | ref a => cases (show v = Value.ref a from rx); exact wpAny_isNot_other rfl (fun z => nomatch z) (fin true (by simp))
    | ty n => cases (show v = Value.type n from rx); exact wpAny_isNot_other rfl (fun z => nomatch z) (fin true (by simp))
theorem RepC.is {G H : Hp} {x : V} {a : D} (h : RepC K G H x a) : decide (x = .non) = (isNonD a) ∧ ∀ c, decide (x = .bl c) = (isBlD c a) := by
  cases a with
  | bl b => cases h; exact ⟨rfl, fun c => by simp; rfl⟩
  | non => cases h; exact ⟨rfl, fun c => rfl⟩
  | int i => cases h; exact ⟨rfl, fun c => rfl⟩
  | str i => cases h; exact ⟨rfl, fun c => rfl⟩
  | ref i => cases h; exact ⟨rfl, fun c => rfl⟩
  | ty i => cases h; exact ⟨rfl, fun c => rfl⟩
  | tup i => cases h; exact ⟨rfl, fun c => rfl⟩
  | ktup i => cases h; exact ⟨rfl, fun c => rfl⟩
  | lst i => obtain ⟨_, _, rfl, _⟩ := h; exact ⟨rfl, fun c => rfl⟩
  | dT i => obtain ⟨_, _, rfl, _⟩ := h; exact ⟨rfl, fun c => rfl⟩
  | dK i => obtain ⟨_, _, rfl, _⟩ := h; exact ⟨rfl, fun c => rfl⟩
theorem os_is : OpS K (rIsG false) dIs := by
  intro G H x y a b d Q hf ra rb l k
  unfold dIs at hf
  split at hf
  · cases hf; cases rb
    refine ⟨.inl rfl, ?_⟩
    simp only [Bool.false_eq_true, if_false]
    rw [ra.is.1]
    exact k _ G H (.refl l) (.bl _)
  · rename_i c
    cases hf; cases rb
    refine ⟨.inr ⟨_, rfl⟩, ?_⟩
    simp only [Bool.false_eq_true, if_false]
    rw [ra.is.2 c]
    exact k _ G H (.refl l) (.bl _)
  · cases hf
theorem os_isNot : OpS K (rIsG true) dIsNot := by
  intro G H x y a b d Q hf ra rb l k
  unfold dIsNot at hf
  split at hf
  · cases hf; cases rb
    refine ⟨.inl rfl, ?_⟩
    simp only [if_true]
    rw [ra.is.1]
    exact k _ G H (.refl l) (.bl _)
  · rename_i c
    cases hf; cases rb
    refine ⟨.inr ⟨_, rfl⟩, ?_⟩
    simp only [if_true]
    rw [ra.is.2 c]
    exact k _ G H (.refl l) (.bl _)
  · cases hf

/-! ### in -/
/-- a key of a dict -/
def atomKey : D → Option Key
  | .int i => some (.inl i)
  | .str x => some (.inr x)
  | _ => none
def atomKeys : List D → Option (List Key)
  | [] => some []
  | d :: ds => (atomKey d).bind fun k => (atomKeys ds).map fun ks => k :: ks
def tupKey : D → Option (List Key)
  | .tup ds => atomKeys ds
  | _ => none
def getT (kvs : List (List Key × D)) (k : List Key) : Option D := (kvs.find? fun kv => decide (kv.1 = k)).map (·.2)
def getK (kvs : List (Key × D)) (k : Key) : Option D := (kvs.find? fun kv => decide (kv.1 = k)).map (·.2)
theorem atomKeys_vals {G : Hp} : ∀ {vs : List V} {ds : List D} {ks : List Key}, Reps K G vs ds → atomKeys ds = some ks → vs = ks.map kV
  | _, _, _, .nil, h => by unfold atomKeys at h; cases h; rfl
  | _, _, _, .cons r rs, h => by
    unfold atomKeys at h
    simp only [Option.bind_eq_some_iff, Option.map_eq_some_iff] at h
    obtain ⟨k, h1, ks, h2, rfl⟩ := h
    rw [List.map_cons, ← atomKeys_vals rs h2]
    unfold atomKey at h1
    split at h1
    · cases h1; cases r; rfl
    · cases h1; cases r; rfl
    · cases h1
theorem RepT.get {G : Hp} (k : List Key) : ∀ {vs : List (List Key × V)} {ds : List (List Key × D)}, RepT K G vs ds → (∀ d, getT ds k = some d → ∃ v, valV vs k = some v ∧ Rep K G v d) ∧ (getT ds k = none → valV vs k = none)
  | _, _, .nil => ⟨fun _ h => (by simp [getT] at h), fun _ => rfl⟩
  | _, _, .cons (k := k') (v := v) (d := d) r rs => by
    obtain ⟨i1, i2⟩ := RepT.get k rs
    by_cases e : k' = k
    · subst e
      refine ⟨fun d' h => ?_, fun h => ?_⟩
      · simp [getT, List.find?_cons] at h; subst h; exact ⟨v, by simp [valV, List.find?_cons], r⟩
      · simp [getT, List.find?_cons] at h
    · refine ⟨fun d' h => ?_, fun h => ?_⟩
      · rw [valV_neg (by simpa using e)]
        exact i1 d' (by simpa [getT, List.find?_cons, e] using h)
      · rw [valV_neg (by simpa using e)]
        exact i2 (by simpa [getT, List.find?_cons, e] using h)
theorem RepK.get {G : Hp} (k : Key) : ∀ {vs : List (Key × V)} {ds : List (Key × D)}, RepK K G vs ds → (∀ d, getK ds k = some d → ∃ v, valV vs k = some v ∧ Rep K G v d) ∧ (getK ds k = none → valV vs k = none)
  | _, _, .nil => ⟨fun _ h => (by simp [getK] at h), fun _ => rfl⟩
  | _, _, .cons (k := k') (v := v) (d := d) r rs => by
    obtain ⟨i1, i2⟩ := RepK.get k rs
    by_cases e : k' = k
    · subst e
      refine ⟨fun d' h => ?_, fun h => ?_⟩
      · simp [getK, List.find?_cons] at h; subst h; exact ⟨v, by simp [valV, List.find?_cons], r⟩
      · simp [getK, List.find?_cons] at h
    · refine ⟨fun d' h => ?_, fun h => ?_⟩
      · rw [valV_neg (by simpa using e)]
        exact i1 d' (by simpa [getK, List.find?_cons, e] using h)
      · rw [valV_neg (by simpa using e)]
        exact i2 (by simpa [getK, List.find?_cons, e] using h)
/-- what a dict has at a key: none, where this is no dict or no key of it -/
def dLook (d k : D) : Option (Option D) := match d with
  | .dT kvs => (tupKey k).map fun ks => getT kvs ks
  | .dK kvs => (atomKey k).map fun ks => getK kvs ks
  | _ => none
theorem tupKey_rep {G H : Hp} {y : V} {k : D} {ks : List Key} (l : Le G H) (r : RepC K G H y k) (h : tupKey k = some ks) : ∃ b, y = .ref b ∧ H b = some (.tup (ks.map kV)) := by
  unfold tupKey at h
  split at h
  · cases r with
    | tup h1 h2 => exact ⟨_, rfl, by rw [← atomKeys_vals h2 h]; exact l.2 _ _ h1⟩
  · cases h
theorem atomKey_rep {G H : Hp} {y : V} {k : D} {ks : Key} (r : RepC K G H y k) (h : atomKey k = some ks) : y = kV ks := by
  unfold atomKey at h
  split at h
  · cases h; cases r; rfl
  · cases h; cases r; rfl
  · cases h
theorem dLook_get {G H : Hp} {x y : V} {d k : D} {o : Option D} (l : Le G H) (rx : RepC K G H x d) (ry : RepC K G H y k) (h : dLook d k = some o) :
    ∃ a ov, x = .ref a ∧ DGet H a y ov ∧ IsD H a ∧ (∀ z, o = some z → ∃ v, ov = some v ∧ Rep K G v z) ∧ (o = none → ov = none) := by
  unfold dLook at h
  split at h
  · obtain ⟨ks, h1, rfl⟩ := Option.map_eq_some_iff.mp h
    obtain ⟨a, kvs, rfl, h2, h3⟩ := rx
    obtain ⟨b, rfl, hb⟩ := tupKey_rep l ry h1
    obtain ⟨g1, g2⟩ := h3.get ks
    exact ⟨a, valV kvs ks, rfl, .inr ⟨kvs, ks, b, h2, rfl, hb, rfl⟩, .inr ⟨_, h2⟩, fun z e => g1 z e, fun e => g2 e⟩
  · obtain ⟨ks, h1, rfl⟩ := Option.map_eq_some_iff.mp h
    obtain ⟨a, kvs, rfl, h2, h3⟩ := rx
    have e := atomKey_rep ry h1
    subst e
    obtain ⟨g1, g2⟩ := h3.get ks
    exact ⟨a, valV kvs ks, rfl, .inl ⟨kvs, ks, h2, rfl, rfl⟩, .inl ⟨_, h2⟩, fun z e => g1 z e, fun e => g2 e⟩
  · cases h
def items : D → Option (List D)
  | .lst xs => some xs
  | .tup xs => some xs
  | .ktup xs => some xs
  | _ => none
def dInB (neg : Bool) (a b : D) : Option D := match b with
  | .str z => (match a with
    | .str y => if y.cps.size = 1 then some (.bl (if neg then !decide (y.cps.getD 0 0 ∈ z.cps.toList) else decide (y.cps.getD 0 0 ∈ z.cps.toList))) else none
    | _ => none)
  | .dT kvs => (dLook (.dT kvs) a).map fun o => .bl (if neg then !o.isSome else o.isSome)
  | .dK kvs => (dLook (.dK kvs) a).map fun o => .bl (if neg then !o.isSome else o.isSome)
  | b => (items b).bind fun xs => (toP 60 a).bind fun p => (toPs 60 xs).bind fun ps => some (.bl (if neg then !ps.any fun z => PyData.eqv z p else ps.any fun z => PyData.eqv z p))
def rInS (neg : Bool) : R2 := fun x y H Q => ∃ (c : Nat) (z : Str), x = .str ⟨#[c]⟩ ∧ y = .str z ∧ Q (.bl (if neg then !decide (c ∈ z.cps.toList) else decide (c ∈ z.cps.toList))) H
def rInDict (neg : Bool) : R2 := fun x y H Q => ∃ a o, y = .ref a ∧ DGet H a x o ∧ Q (.bl (if neg then !o.isSome else o.isSome)) H
def rInAll (K : PySem.W.Frag) (neg : Bool) : R2 := fun x y H Q => rInS neg x y H Q ∨ (rInDict neg x y H Q ∨ rInP K neg x y H Q)
theorem op_inDict {X : Cx} (hu : X.A.units + 64 < cLine) : OpR X (compareOp .In) (rInDict false) := by
  intro pins s σ H x y v u Q I rx ry h
  obtain ⟨a, o, rfl, g, q⟩ := h
  cases ry
  exact d_in (by omega) I g rx fun s' I' => ⟨.bl _, H, I', rfl, q⟩
theorem op_notInDict {X : Cx} (hu : X.A.units + 64 < cLine) : OpR X (compareOp .NotIn) (rInDict true) := by
  intro pins s σ H x y v u Q I rx ry h
  obtain ⟨a, o, rfl, g, q⟩ := h
  cases ry
  exact d_notIn (by omega) I g rx fun s' I' => ⟨.bl _, H, I', rfl, q⟩
theorem op_inAll {X : Cx} (hu : X.A.units + 64 < cLine) : OpR X (compareOp .In) (rInAll X.K false) := OpR.or op_in_sign ((op_inDict hu).or (op_inP hu))
theorem op_notInAll {X : Cx} (hu : X.A.units + 64 < cLine) : OpR X (compareOp .NotIn) (rInAll X.K true) := OpR.or op_notIn_sign ((op_notInDict hu).or (op_notInP hu))
theorem str_one {y : Str} (h : y.cps.size = 1) : y = ⟨#[y.cps.getD 0 0]⟩ := by
  obtain ⟨⟨l⟩⟩ := y
  match l, h with
  | [c], _ => rfl
theorem os_in {neg : Bool} : OpS K (rInAll K neg) (dInB neg) := by
  intro G H x y a b d Q hf ra rb l k
  have dict : ∀ {o}, dLook b a = some o → (∀ v G' H', Grow G H G' H' → Rep K G' v (.bl (if neg then !o.isSome else o.isSome)) → Q v H') → rInAll K neg x y H Q := fun {o} h k' => by
    obtain ⟨a', ov, e, g, _, h1, h2⟩ := dLook_get l rb ra h
    refine .inr (.inl ⟨a', ov, e, g, ?_⟩)
    have e2 : ov.isSome = o.isSome := by
      cases o with
      | none => rw [h2 rfl]; rfl
      | some z => obtain ⟨v, e, _⟩ := h1 z rfl; rw [e]; rfl
    rw [e2]
    exact k' _ G H (.refl l) (.bl _)
  have seq : ∀ {xs}, items b = some xs → ((toP 60 a).bind fun p => (toPs 60 xs).bind fun ps => some (D.bl (if neg then !ps.any fun z => PyData.eqv z p else ps.any fun z => PyData.eqv z p))) = some d → rInAll K neg x y H Q := fun {xs} h hf => by
    simp only [Option.bind_eq_some_iff] at hf
    obtain ⟨p, h1, ps, h2, h3⟩ := hf
    cases h3
    have e1 := toP_plain h1
    have e2 := toPs_plain h2
    refine .inr (.inr ⟨p, ps, (ra.all l).dp h1, ?_, e1.1, e2.1, e1.2, k _ G H (.refl l) (.bl _)⟩)
    have rb' := rb.all l
    unfold items at h
    split at h
    · cases h; exact .inl (rb'.dp (n := 61) (by unfold toP; rw [h2]; rfl))
    · cases h; exact .inr (rb'.dp (n := 61) (by unfold toP; rw [h2]; rfl))
    · cases h; exact .inr (rb'.dp (n := 61) (by unfold toP; rw [h2]; rfl))
    · cases h
  unfold dInB at hf
  split at hf
  · split at hf
    · split at hf
      · rename_i h
        cases hf; cases ra; cases rb
        exact .inl ⟨_, _, congrArg V.str (str_one h), rfl, k _ G H (.refl l) (.bl _)⟩
      · cases hf
    · cases hf
  · obtain ⟨o, h1, rfl⟩ := Option.map_eq_some_iff.mp hf
    exact dict h1 k
  · obtain ⟨o, h1, rfl⟩ := Option.map_eq_some_iff.mp hf
    exact dict h1 k
  · obtain ⟨xs, h1, h2⟩ := Option.bind_eq_some_iff.mp hf
    exact seq h1 h2
def dIn : D → D → Option D := dInB false
def dNotIn : D → D → Option D := dInB true

/-! ### items -/
def dIx (a b : D) : Option D := match a, b with
  | .str z, .int i => if z.cps.size ≤ 16777216 then (atI z.cps.toList i).map fun c => .str ⟨#[c]⟩ else none
  | .dT kvs, k => (dLook (.dT kvs) k).bind id
  | .dK kvs, k => (dLook (.dK kvs) k).bind id
  | a, .int i => (items a).bind fun xs => atI xs i
  | _, _ => none
theorem atI_reps {G : Hp} {vs : List V} {ds : List D} (r : Reps K G vs ds) {i : Int} {d : D} (h : atI ds i = some d) : ∃ v, atI vs i = some v ∧ Rep K G v d := by
  unfold atI at h ⊢
  rw [r.length]
  obtain ⟨j, h1, h2⟩ := Option.bind_eq_some_iff.mp h
  obtain ⟨v, g1, g2⟩ := r.get h2
  exact ⟨v, Option.bind_eq_some_iff.mpr ⟨j, h1, g1⟩, g2⟩
def rIxDict : R2 := fun x y H Q => ∃ a v, x = .ref a ∧ DGet H a y (some v) ∧ Q v H
theorem ix_dict {X : Cx} (hu : X.A.units + 64 < cLine) : IxR X rIxDict := by
  intro value slice pins s σ H x y v u Q I rx ry h hs
  obtain ⟨a, z, rfl, g, q⟩ := h
  cases rx
  have hT := dict_typeIs I g
  unfold subscriptTail
  refine wpAny_bind ?_
  rw [getitemInPython_of_ne hT.not_modules]
  refine wpAny_bind (wpAny_specialOf hT PySem.F.slot_dict_getitem.lookup ?_)
  have fin : wpAny (model X.prog X.w) X.A (subscripted slice false (.ref a) u) (fun r s₃ => wpAny (model X.prog X.w) X.A (letTemporaryGo value (.ref a) r >>= fun _ => pure r) (EP X pins σ Q) X.xe s₃) X.xe s := by
    rw [hs]
    exact wpAny_operating (d_getItem (by omega) I g ry fun w' s3 I3 rw' => wpAny_bind (wpAny_letTemporaryGo (wpAny_pure ⟨z, H, I3, rw', q⟩)))
  first
    | exact wpAny_pure (wpAny_bind fin)
    | exact wpAny_bind (wpAny_pure (wpAny_bind fin))
    | exact wpAny_bind fin
def rIxAll (K : PySem.W.Frag) : R2 := fun x y H Q => rIxDict x y H Q ∨ rIx K x y H Q
theorem ix_all {X : Cx} (hu : X.A.units + 64 < cLine) : IxR X (rIxAll X.K) := (ix_dict hu).or ix_seq
def seqIx (a : D) (i : Int) : Option D := (items a).bind fun xs => atI xs i
theorem os_ix : OpS K (rIxAll K) dIx := by
  intro G H x y a b d Q hf ra rb l k
  have dict : (dLook a b).bind id = some d → rIxAll K x y H Q := fun h => by
    obtain ⟨o, h1, h2⟩ := Option.bind_eq_some_iff.mp h
    have h2 : o = some d := h2
    subst h2
    obtain ⟨p, ov, e, g, _, g1, _⟩ := dLook_get l ra rb h1
    obtain ⟨v, e2, r⟩ := g1 d rfl
    subst e2
    exact .inl ⟨p, v, e, g, k _ G H (.refl l) r⟩
  have seq : ∀ {xs i}, items a = some xs → b = .int i → atI xs i = some d → rIxAll K x y H Q := fun {xs i} h e h2 => by
    subst e
    cases rb
    unfold items at h
    split at h
    · cases h
      obtain ⟨p, vs, rfl, h3, h4⟩ := ra
      obtain ⟨v, g1, g2⟩ := atI_reps h4 h2
      exact .inr (.inl ⟨p, vs, i, v, rfl, rfl, h3, g1, k _ G H (.refl l) g2⟩)
    · cases h
      cases ra with
      | tup h3 h4 =>
        obtain ⟨v, g1, g2⟩ := atI_reps h4 h2
        exact .inr (.inr (.inl ⟨_, _, i, v, rfl, rfl, SqT.of (l.2 _ _ h3), g1, k _ G H (.refl l) g2⟩))
    · cases h
      cases ra with
      | ktup h3 h4 =>
        obtain ⟨v, g1, g2⟩ := atI_reps h4 h2
        exact .inr (.inr (.inl ⟨_, _, i, v, rfl, rfl, l.sqT h3.1, g1, k _ G H (.refl l) g2⟩))
    · cases h
  unfold dIx at hf
  split at hf
  · split at hf
    · rename_i h
      obtain ⟨c, h1, rfl⟩ := Option.map_eq_some_iff.mp hf
      cases ra; cases rb
      exact .inr (.inr (.inr ⟨_, _, c, rfl, rfl, sz_le h, h1, k _ G H (.refl l) (.str _)⟩))
    · cases hf
  · exact dict hf
  · exact dict hf
  · obtain ⟨xs, h1, h2⟩ := Option.bind_eq_some_iff.mp hf
    exact seq h1 rfl h2
  · cases hf

/-! ### slices -/
def cut {α : Type} (xs : List α) (lo hi : Option Int) : List α := (xs.drop (HT.sIx xs.length 0 lo)).take (HT.sIx xs.length xs.length hi - HT.sIx xs.length 0 lo)
theorem cut_reps {G : Hp} {vs : List V} {ds : List D} (r : Reps K G vs ds) (lo hi : Option Int) : Reps K G (cutV vs lo hi) (cut ds lo hi) := by
  unfold cutV cut
  rw [r.length]
  exact (r.drop _).take _
theorem cut_all {α : Type} {xs : List α} {lo hi : Option Int} (h : HT.sIx xs.length 0 lo = 0 ∧ HT.sIx xs.length xs.length hi = xs.length) : cut xs lo hi = xs := by
  unfold cut
  rw [h.1, h.2]
  simp
def dCut (a : D) (lo hi : Option Int) : Option D := match a with
  | .lst xs => some (.lst (cut xs lo hi))
  | .tup xs => some (.tup (cut xs lo hi))
  | .ktup xs => if HT.sIx xs.length 0 lo = 0 ∧ HT.sIx xs.length xs.length hi = xs.length then some (.ktup xs) else some (.tup (cut xs lo hi))
  | .str z => if z.cps.size ≤ 16777216 then some (.str (cutS z lo hi)) else none
  | _ => none
end
end VL
end
section
set_option Elab.async false
set_option linter.all false
set_option maxRecDepth 100000
set_option maxHeartbeats 1000000
namespace VL
open PySem PySem.Spec PyProof.Rows L2

/-! ### slots laid at the end, frozen, moved -/
section
variable {K : PySem.W.Frag} {B : List Nat} {ρ : Nat → V} {G H G' H' : Hp} {F F' : Nat → List Addr} {η η' : Env} {σ : L2.St} {v : V} {o : O} {f : List Addr}
theorem Le.known {a : Addr} {u : HO} (l : Le G H) (h : H a = some u) : Le (upd G a u) H := by
  refine ⟨fun b w r => ?_, fun b xs r => ?_⟩
  · by_cases e : b = a
    · subst e
      rcases r with r | ⟨o, r⟩ <;> (rw [upd_same] at r; cases r)
      · exact .inl h
      · exact .inr ⟨_, h⟩
    · refine l.1 b w ?_
      rcases r with r | ⟨o, r⟩ <;> rw [upd_ne e] at r
      · exact .inl r
      · exact .inr ⟨_, r⟩
  · by_cases e : b = a
    · subst e; rw [upd_same] at r; cases r; exact h
    · rw [upd_ne e] at r; exact l.2 b xs r
theorem Le.more {a : Addr} {u : HO} (h : G a = none) : Le G (upd G a u) := .of fun b w r => by rw [upd_ne (ne_of_none r h)]; exact r
/-- one more slot, of new objects -/
theorem Rel.push (R : Rel K B ρ G H F η σ) (g : Grow G H G' H') (hf : ∀ b ∈ f, H b = none ∧ G' b = none) (nd : f.Nodup) (hn : OwnO K G' H' f v o) :
    Rel K B ρ G' H' (fun j => if j = η.length then f else F j) (η ++ [some o]) (σ ++ [some v]) := by
  have R' := R.grow g
  have out : ∀ j, η.length ≤ j → F j = [] := fun j hj => R.emp j fun o h => by
    rw [List.getElem?_eq_none hj] at h; cases h
  refine ⟨R'.le, fun j b hb => ?_, fun j => ?_, fun j k b h1 h2 => ?_, fun j o' e => ?_, fun j hj => ?_, by rw [List.length_append, List.length_append, R.len]; rfl, fun i hi => ?_⟩
  · by_cases e : j = η.length
    · subst e; simp only [if_true] at hb; exact (hf b hb).2
    · simp only [e, if_false] at hb; exact R'.dis j b hb
  · by_cases e : j = η.length
    · subst e; simpa using nd
    · simpa [e] using R'.ndi j
  · have key : ∀ j, b ∈ F j → b ∈ f → False := fun j h h' => R.there j b h (hf b h').1
    by_cases ej : j = η.length <;> by_cases ek : k = η.length
    · rw [ej, ek]
    · subst ej; simp only [if_true] at h1; simp only [ek, if_false] at h2; exact (key k h2 h1).elim
    · subst ek; simp only [if_true] at h2; simp only [ej, if_false] at h1; exact (key j h1 h2).elim
    · simp only [ej, if_false] at h1; simp only [ek, if_false] at h2; exact R.sep j k b h1 h2
  · rcases Nat.lt_or_ge j η.length with h | h
    · rw [List.getElem?_append_left h] at e
      obtain ⟨v', h1, h2⟩ := R'.slot j o' e
      refine ⟨v', by rw [List.getElem?_append_left (by rw [← R.len]; exact h)]; exact h1, ?_⟩
      simp only [Nat.ne_of_lt h, if_false]; exact h2
    · rw [List.getElem?_append_right h] at e
      have : j = η.length := by
        have := (List.getElem?_eq_some_iff.mp e).1
        simp at this; omega
      subst this
      simp at e; subst e
      exact ⟨v, by rw [List.getElem?_append_right (by rw [R.len]; exact Nat.le_refl _), R.len]; simp, by simpa using hn⟩
  · by_cases e : j = η.length
    · subst e; exact absurd (by simp) (hj o)
    · simp only [e, if_false]
      refine R.emp j fun o' h => hj o' ?_
      rw [List.getElem?_append_left (List.getElem?_eq_some_iff.mp h).1]; exact h
  · have := R.bor i hi
    rw [List.getElem?_append_left (List.getElem?_eq_some_iff.mp this).1]; exact this
/-- the last slot let go -/
theorem Rel.pop (R : Rel K B ρ G H F (η ++ [some o]) (σ ++ [some v])) (hB : ∀ i ∈ B, i < η.length) : Rel K B ρ G H (fun j => if j = η.length then [] else F j) η σ ∧ OwnO K G H (F η.length) v o ∧ η.length = σ.length := by
  have len : η.length = σ.length := by have := R.len; simp at this; exact this
  refine ⟨⟨R.le, fun j b hb => ?_, fun j => ?_, fun j k b h1 h2 => ?_, fun j o' e => ?_, fun j hj => ?_, len, fun i hi => ?_⟩, ?_, len⟩
  · by_cases e : j = η.length
    · simp [e] at hb
    · simp only [e, if_false] at hb; exact R.dis j b hb
  · by_cases e : j = η.length
    · simp [e]
    · simpa [e] using R.ndi j
  · by_cases ej : j = η.length
    · simp [ej] at h1
    · by_cases ek : k = η.length
      · simp [ek] at h2
      · simp only [ej, if_false] at h1; simp only [ek, if_false] at h2; exact R.sep j k b h1 h2
  · have hj : j < η.length := (List.getElem?_eq_some_iff.mp e).1
    obtain ⟨v', h1, h2⟩ := R.slot j o' (by rw [List.getElem?_append_left hj]; exact e)
    rw [List.getElem?_append_left (by rw [← len]; exact hj)] at h1
    exact ⟨v', h1, by simpa [Nat.ne_of_lt hj] using h2⟩
  · by_cases e : j = η.length
    · simp [e]
    · simp only [e, if_false]
      refine R.emp j fun o' h => ?_
      rcases Nat.lt_or_ge j η.length with hl | hl
      · rw [List.getElem?_append_left hl] at h; exact hj o' h
      · have := (List.getElem?_eq_some_iff.mp h).1
        simp at this; omega
  · have := R.bor i hi
    rw [List.getElem?_append_left (by rw [← len]; exact hB i hi)] at this; exact this
  · obtain ⟨v', h1, h2⟩ := R.slot η.length o (by simp)
    rw [List.getElem?_append_right (by rw [len]; exact Nat.le_refl _), len] at h1
    simp at h1; subst h1; exact h2
/-- what is ours becomes known -/
theorem Own1.freeze {o : O1} (l : Le G H) (h : Own1 K G H f v o) (hd : ∀ b ∈ f, G b = none) : ∃ G', Le G G' ∧ Le G' H ∧ Rep K G' v o.fz ∧ (∀ b, G' b ≠ none → G b ≠ none ∨ b ∈ f) := by
  cases o with
  | fro d => exact ⟨G, .refl G, l, h.2, fun b h => .inl h⟩
  | lst ds =>
    obtain ⟨a, vs, rfl, rfl, h1, h2⟩ := h
    have hG := hd a (by simp)
    refine ⟨upd G a (.lst vs), .more hG, l.known h1, .lst (SqL.of upd_same) (h2.mono (.more hG)), fun b hb => ?_⟩
    by_cases e : b = a
    · subst e; exact .inr (by simp)
    · rw [upd_ne e] at hb; exact .inl hb
  | dT ds =>
    obtain ⟨a, vs, rfl, rfl, h1, h2⟩ := h
    have hG := hd a (by simp)
    refine ⟨upd G a (.dT vs), .more hG, l.known h1, .dT (.inl upd_same) (h2.mono (.more hG)), fun b hb => ?_⟩
    by_cases e : b = a
    · subst e; exact .inr (by simp)
    · rw [upd_ne e] at hb; exact .inl hb
  | dK ds =>
    obtain ⟨a, vs, rfl, rfl, h1, h2⟩ := h
    have hG := hd a (by simp)
    refine ⟨upd G a (.dK vs), .more hG, l.known h1, .dK (.inl upd_same) (h2.mono (.more hG)), fun b hb => ?_⟩
    by_cases e : b = a
    · subst e; exact .inr (by simp)
    · rw [upd_ne e] at hb; exact .inl hb
theorem Step.known {P : Addr → Prop} (l : Le G G') (gin : ∀ b, G' b ≠ none → G b ≠ none ∨ P b) (P' : Addr → Prop) (fin : ∀ b, P' b → P b) : Step G H P G' H P' :=
  ⟨l, fun b h => (gin b h).imp id fun q => .inr (.inl q), fun _ _ h _ => h, fun _ h => h, fun b h => .inl (fin b h)⟩
/-- a slot is frozen -/
theorem Rel.freeze {i : Nat} {o : O1} (R : Rel K B ρ G H F η σ) (e : η[i]? = some (some (.s o))) : ∃ v G', σ[i]? = some (some v) ∧ Rep K G' v o.fz ∧
    Rel K B ρ G' H (fun j => if j = i then [] else F j) (η.set i (some (.s (.fro o.fz)))) σ ∧ Step G H (OwnP F) G' H (OwnP fun j => if j = i then [] else F j) := by
  obtain ⟨v, h1, h2⟩ := R.slot i _ e
  obtain ⟨G', l1, l2, r, gin⟩ := Own1.freeze R.le h2 (R.dis i)
  have hi : i < η.length := (List.getElem?_eq_some_iff.mp e).1
  refine ⟨v, G', h1, r, R.put l1 l2 hi (fun b hb => (gin b hb).imp id fun q => .inr (.inl q)) (fun b u h _ => h) (fun b hb => by cases hb) .nil h1 ⟨rfl, r⟩, ?_⟩
  refine .known l1 (fun b hb => (gin b hb).imp id fun h => ⟨i, h⟩) _ fun b ⟨j, hb⟩ => ?_
  by_cases ej : j = i
  · simp [ej] at hb
  · exact ⟨j, by simpa [ej] using hb⟩
/-- the last slot is frozen and let go -/
theorem Rel.popFreeze {o : O1} (R : Rel K B ρ G H F (η ++ [some (.s o)]) (σ ++ [some v])) (hB : ∀ i ∈ B, i < η.length) : ∃ G' F', Rep K G' v o.fz ∧ Rel K B ρ G' H F' η σ ∧ Step G H (OwnP F) G' H (OwnP F') := by
  obtain ⟨v', G', h1, h2, h3, h4⟩ := R.freeze (i := η.length) (o := o) (by simp)
  have len : η.length = σ.length := by have := R.len; simp at this; exact this
  rw [List.getElem?_append_right (by rw [len]; exact Nat.le_refl _), len] at h1
  simp at h1; subst h1
  have e : (η ++ [some (O.s o)]).set η.length (some (.s (.fro o.fz))) = η ++ [some (.s (.fro o.fz))] := by simp
  rw [e] at h3
  obtain ⟨h5, _, _⟩ := h3.pop hB
  refine ⟨G', _, h2, h5, h4.trans (.known (.refl _) (fun b hb => .inl hb) _ fun b ⟨j, hb⟩ => ?_)⟩
  by_cases ej : j = η.length
  · simp [ej] at hb
  · exact ⟨j, by simpa [ej] using hb⟩
end

/-! ### the borrowed slots lie within the frame -/
theorem Rel.bIn {K : PySem.W.Frag} {B : List Nat} {ρ : Nat → V} {G H : Hp} {F : Nat → List Addr} {η : Env} {σ : L2.St} (R : Rel K B ρ G H F η σ) : ∀ i ∈ B, i < η.length := fun i hi => by
  have := (List.getElem?_eq_some_iff.mp (R.bor i hi)).1
  rw [R.len]; exact this

section
variable {X : Cx} {B : List Nat}
/-- a name as a value: what it holds is known from now on -/
def mTake (i : Nat) : ME D := fun η => match η[i]? with
  | some (some (.s o)) => some (o.fz, η.set i (some (.s (.fro o.fz))))
  | _ => none
theorem ve_take {e : Expr} (i : Nat) (h : PE X e (tVar i)) : VE X B true e (mTake i) := by
  refine pe_imp h fun σ H Q ⟨G, F, η, ρ, d, η', hm, R, k⟩ => ?_
  unfold mTake at hm
  split at hm
  · rename_i o q
    cases hm
    obtain ⟨v, G', h1, h2, h3, h4⟩ := R.freeze q
    exact ⟨v, h1, k v G' H _ h4 (fun _ => .refl H) h3 h2⟩
  · cases hm
/-- something new, frozen at once -/
def mFz (m : ME O) : ME D := fun η => (m η).bind fun p => match p.1 with
  | .s o => some (o.fz, p.2)
  | _ => none
theorem ve_fz {e : Expr} {p : Bool} {m : ME O} (h : VN X B p e m) : VE X B p e (mFz m) := by
  refine pe_imp h fun σ H Q ⟨G, F, η, ρ, d, η', hm, R, k⟩ => ?_
  simp only [mFz, Option.bind_eq_some_iff] at hm
  obtain ⟨⟨o, η1⟩, h1, h2⟩ := hm
  split at h2
  · rename_i o1 q
    cases h2
    have q : o = .s o1 := q
    subst q
    refine ⟨G, F, η, ρ, _, η1, h1, R, fun v G' H' F' st pu R' => ?_⟩
    have hB : ∀ i ∈ B, i < η1.length := fun i hi => by
      have h1 := R.bIn i hi
      have h2 := R'.len
      have h3 := R.len
      simp at h2
      omega
    obtain ⟨G2, F2, r, R2, st2⟩ := R'.popFreeze hB
    exact k v G2 H' F2 (st.trans st2) pu R2 r
  · cases h2
def mN (m : ME D) : ME O := fun η => (m η).bind fun p => some (.s (.fro p.1), p.2)
theorem vn_of {e : Expr} {p : Bool} {m : ME D} (h : VE X B p e m) : VN X B p e (mN m) := by
  refine pe_imp h fun σ H Q ⟨G, F, η, ρ, d, η', hm, R, k⟩ => ?_
  simp only [mN, Option.bind_eq_some_iff] at hm
  obtain ⟨⟨o, η1⟩, h1, h2⟩ := hm
  cases h2
  refine ⟨G, F, η, ρ, o, η1, h1, R, fun v G' H' F' st pu R' r => ?_⟩
  have R2 := R'.push (f := []) (v := v) (o := .s (.fro o)) (.refl R'.le) (fun b hb => by cases hb) .nil ⟨rfl, r⟩
  have out : F' η1.length = [] := R'.emp _ fun o h => by rw [List.getElem?_eq_none (Nat.le_refl _)] at h; cases h
  have e : (fun j => if j = η1.length then [] else F' j) = F' := by
    funext j
    by_cases ej : j = η1.length
    · simp [ej, out]
    · simp [ej]
  rw [e] at R2
  exact k v G' H' F' st pu R2

/-! ### rows of frozen values; arguments -/
def rdEs (K : PySem.W.Frag) (B : List Nat) (p : Bool) (m : ME (List D)) : TA := fun σ H Q => ∃ G F η ρ ds η', m η = some (ds, η') ∧ Rel K B ρ G H F η σ ∧
  ∀ vs G' H' F', Step G H (OwnP F) G' H' (OwnP F') → (p = true → Same H H') → Rel K B ρ G' H' F' η' σ → Reps K G' vs ds → Q vs H'
def VEs (X : Cx) (B : List Nat) (p : Bool) (es : List Expr) (m : ME (List D)) : Prop := PA X es (rdEs X.K B p m)
def mNil {α : Type} : ME (List α) := fun η => some ([], η)
def mCons {α : Type} (m : ME α) (ms : ME (List α)) : ME (List α) := fun η => (m η).bind fun p => (ms p.2).bind fun q => some (p.1 :: q.1, q.2)
theorem ves_nil : VEs X B true [] mNil := by
  refine pa_imp pa_nil fun σ H Q ⟨G, F, η, ρ, ds, η', hm, R, k⟩ => ?_
  cases hm
  exact k [] G H F (.refl _ _ _) (fun _ => .refl H) R .nil
theorem ves_cons {e : Expr} {es : List Expr} {p q : Bool} {m : ME D} {ms : ME (List D)} (h : VE X B p e m) (hs : VEs X B q es ms)
    (hst : starEach (e :: es) X.env = (false, eval e X.env) :: starEach es X.env := by rfl) : VEs X B (p && q) (e :: es) (mCons m ms) := by
  refine pa_imp (pa_cons h hs hst) fun σ H Q ⟨G, F, η, ρ, ds, η', hm, R, k⟩ => ?_
  simp only [mCons, Option.bind_eq_some_iff] at hm
  obtain ⟨⟨d, η1⟩, h1, ⟨ds', η2⟩, h2, h3⟩ := hm
  cases h3
  refine ⟨G, F, η, ρ, d, η1, h1, R, fun v G1 H1 F1 st1 pu1 R1 r1 => ?_⟩
  refine ⟨G1, F1, η1, ρ, ds', η2, h2, R1, fun vs G2 H2 F2 st2 pu2 R2 r2 => ?_⟩
  refine k (v :: vs) G2 H2 F2 (st1.trans st2) (fun hp => ?_) R2 (.cons (r1.mono st2.le) r2)
  rw [Bool.and_eq_true] at hp
  exact (pu1 hp.1).trans (pu2 hp.2)
theorem va_nil : VA X B false true [] mNil := by
  refine ⟨pa_imp pa_nil fun σ H Q ⟨G, F, η, ρ, ds, η', hm, R, k⟩ => ?_, fun _ η xs η' h x hx => ?_⟩
  · cases hm
    exact k [] G H F (.refl _ _ _) (fun _ => .refl H) R .nil
  · cases h; cases hx
theorem va_cons {e : Expr} {es : List Expr} {q p q' p' : Bool} {m : ME Opd} {ms : ME (List Opd)} (h : VO X B q p e m) (hs : VA X B q' p' es ms)
    (hq : q = false ∨ p' = true := by decide) (hst : starEach (e :: es) X.env = (false, eval e X.env) :: starEach es X.env := by rfl) : VA X B (q || q') (p && p') (e :: es) (mCons m ms) := by
  refine ⟨pa_imp (pa_cons h.run hs.run hst) fun σ H Q ⟨G, F, η, ρ, ds, η', hm, R, k⟩ => ?_, fun hq η xs η' hm x hx => ?_⟩
  · simp only [mCons, Option.bind_eq_some_iff] at hm
    obtain ⟨⟨d, η1⟩, h1, ⟨ds', η2⟩, h2, h3⟩ := hm
    cases h3
    refine ⟨G, F, η, ρ, d, η1, h1, R, fun v G1 H1 F1 st1 pu1 R1 r1 => ?_⟩
    refine ⟨G1, F1, η1, ρ, ds', η2, h2, R1, fun vs G2 H2 F2 st2 pu2 R2 r2 => ?_⟩
    refine k (v :: vs) G2 H2 F2 (st1.trans st2) (fun hp => ?_) R2 (.cons (r1.step st2 ?_) r2)
    · rw [Bool.and_eq_true] at hp
      exact (pu1 hp.1).trans (pu2 hp.2)
    · rcases hq with hq | hq
      · exact .inl (h.nof hq _ _ _ h1)
      · exact .inr (pu2 hq)
  · simp only [mCons, Option.bind_eq_some_iff] at hm
    obtain ⟨⟨d, η1⟩, h1, ⟨ds', η2⟩, h2, h3⟩ := hm
    cases h3
    rw [Bool.or_eq_false_iff] at hq
    rcases List.mem_cons.mp hx with rfl | hx
    · exact h.nof hq.1 _ _ _ h1
    · exact hs.nof hq.2 _ _ _ h2 x hx

/-! ### displays -/
def mTup (ms : ME (List D)) : ME D := fun η => (ms η).bind fun p => if p.1.length ≤ 16777216 then some (.tup p.1, p.2) else none
theorem ve_tup {es : List Expr} {p : Bool} {ms : ME (List D)} {x1 pos} (h : VEs X B p es ms) : VE X B p (.Tuple es x1 pos) (mTup ms) := by
  refine pe_imp (pe_tup h) fun σ H Q ⟨G, F, η, ρ, d, η', hm, R, k⟩ => ?_
  simp only [mTup, Option.bind_eq_some_iff] at hm
  obtain ⟨⟨ds, η1⟩, h1, h2⟩ := hm
  split at h2
  · rename_i hz
    cases h2
    refine ⟨G, F, η, ρ, ds, η1, h1, R, fun vs G1 H1 F1 st1 pu1 R1 r1 => ⟨sz_le (by rw [r1.length]; exact hz), fun q hq => ?_⟩⟩
    have g := Grow.new R1.le (o := .tup vs) hq
    exact k _ _ _ F1 (st1.trans (g.step _)) (fun hp => (pu1 hp).trans g.keep) (R1.grow g) (.tup upd_same (r1.mono g.le))
  · cases h2
def mLst (ms : ME (List D)) : ME O := fun η => (ms η).bind fun p => if p.1.length ≤ 16777216 then some (.s (.lst p.1), p.2) else none
theorem new_nd {p : Addr} : ([p] : List Addr).Nodup := by simp
theorem Step.push {G H G1 H1 : Hp} {F : Nat → List Addr} {f : List Addr} {n : Nat} (hF : F n = []) (g : Grow G H G1 H1) (hf : ∀ b ∈ f, H b = none) : Step G H (OwnP F) G1 H1 (OwnP fun j => if j = n then f else F j) :=
  ⟨g.le, fun b h => (g.gin b h).imp id fun q => q.imp id .inr, fun b o h _ => g.keep b o h, g.there, fun b ⟨j, hb⟩ => by
    by_cases e : j = n
    · subst e; simp only [if_true] at hb; exact .inr (hf b hb)
    · simp only [e, if_false] at hb; exact .inl ⟨j, hb⟩⟩
theorem Rel.out {K : PySem.W.Frag} {B : List Nat} {ρ : Nat → V} {G H : Hp} {F : Nat → List Addr} {η : Env} {σ : L2.St} (R : Rel K B ρ G H F η σ) : F η.length = [] :=
  R.emp _ fun o h => by rw [List.getElem?_eq_none (Nat.le_refl _)] at h; cases h
theorem Grow.laid_none {G H : Hp} (l : Le G H) {p : Addr} (hp : H p = none) : G p = none := Classical.byContradiction fun n => l.there n hp
/-- a new list of known values -/
theorem vn_new {K : PySem.W.Frag} {ρ : Nat → V} {G H : Hp} {F : Nat → List Addr} {η : Env} {σ : L2.St} (R : Rel K B ρ G H F η σ) {p : Addr} {u : HO} {o : O1} (hp : H p = none) (ho : Own1 K G (upd H p u) [p] (.ref p) o) :
    ∃ F', Rel K B ρ G (upd H p u) F' (η ++ [some (.s o)]) (σ ++ [some (.ref p)]) ∧ Step G H (OwnP F) G (upd H p u) (OwnP F') := by
  have g := Grow.lay R.le (o := u) hp
  exact ⟨_, R.push g (fun b hb => by simp at hb; subst hb; exact ⟨hp, Grow.laid_none R.le hp⟩) new_nd ho, Step.push R.out g (fun b hb => by simp at hb; subst hb; exact hp)⟩
theorem vn_lst {es : List Expr} {p : Bool} {ms : ME (List D)} {pos} (h : VEs X B p es ms) : VN X B p (.List es pos) (mLst ms) := by
  refine pe_imp (pe_lst h) fun σ H Q ⟨G, F, η, ρ, d, η', hm, R, k⟩ => ?_
  simp only [mLst, Option.bind_eq_some_iff] at hm
  obtain ⟨⟨ds, η1⟩, h1, h2⟩ := hm
  split at h2
  · rename_i hz
    cases h2
    refine ⟨G, F, η, ρ, ds, η1, h1, R, fun vs G1 H1 F1 st1 pu1 R1 r1 => ⟨sz_le (by rw [r1.length]; exact hz), fun q hq => ?_⟩⟩
    obtain ⟨F2, R2, st2⟩ := vn_new (o := .lst ds) R1 (u := .lst vs) hq ⟨q, vs, rfl, rfl, upd_same, r1⟩
    exact k _ _ _ F2 (st1.trans st2) (fun hp => (pu1 hp).trans (Grow.lay R1.le hq).keep) R2
  · cases h2
def mNewT : ME O := fun η => some (.s (.dT []), η)
def mNewK : ME O := fun η => some (.s (.dK []), η)
theorem vn_dT {pos} : VN X B true (.Dict [] [] pos) mNewT := by
  refine pe_imp pe_dnewT fun σ H Q ⟨G, F, η, ρ, d, η', hm, R, k⟩ => ?_
  cases hm
  intro q hq
  obtain ⟨F2, R2, st2⟩ := vn_new (o := .dT []) R (u := .dT []) hq ⟨q, [], rfl, rfl, upd_same, .nil⟩
  exact k _ _ _ F2 st2 (fun _ => (Grow.lay R.le hq).keep) R2
theorem vn_dK {pos} : VN X B true (.Dict [] [] pos) mNewK := by
  refine pe_imp pe_dnewK fun σ H Q ⟨G, F, η, ρ, d, η', hm, R, k⟩ => ?_
  cases hm
  intro q hq
  obtain ⟨F2, R2, st2⟩ := vn_new (o := .dK []) R (u := .dK []) hq ⟨q, [], rfl, rfl, upd_same, .nil⟩
  exact k _ _ _ F2 st2 (fun _ => (Grow.lay R.le hq).keep) R2

/-! ### calls of builtins on values -/
inductive RepCs (K : PySem.W.Frag) (G H : Hp) : List V → List D → Prop
  | nil : RepCs K G H [] []
  | cons {v : V} {d : D} {vs : List V} {ds : List D} : RepC K G H v d → RepCs K G H vs ds → RepCs K G H (v :: vs) (d :: ds)
def conts (η : Env) : List Opd → Option (List D)
  | [] => some []
  | x :: xs => (cont η x).bind fun d => (conts η xs).bind fun ds => some (d :: ds)
theorem RepPs.conts {K : PySem.W.Frag} {ρ : Nat → V} {G H : Hp} {F : Nat → List Addr} {η : Env} {σ : L2.St} (R : Rel K B ρ G H F η σ) : ∀ {vs : List V} {xs : List Opd} {ds : List D}, RepPs K G H σ vs xs → conts η xs = some ds → RepCs K G H vs ds
  | _, _, _, .nil, h => by unfold VL.conts at h; cases h; exact .nil
  | _, _, _, .cons r rs, h => by
    simp only [VL.conts, Option.bind_eq_some_iff] at h
    obtain ⟨d, h1, ds, h2, h3⟩ := h
    cases h3
    exact .cons (r.cont R h1) (RepPs.conts R rs h2)
def CallS (K : PySem.W.Frag) (r : List V → Hp → VK → Prop) (f : List D → Option D) : Prop := ∀ (G H : Hp) (vs : List V) (ds : List D) (d : D) (Q : VK), f ds = some d → RepCs K G H vs ds → Le G H →
  (∀ v G' H', Grow G H G' H' → Rep K G' v d → Q v H') → r vs H Q
def mCall (f : List D → Option D) (ms : ME (List Opd)) : ME D := fun η => (ms η).bind fun p => (conts p.2 p.1).bind fun ds => (f ds).bind fun d => some (d, p.2)
theorem ve_call {e : Expr} {es : List Expr} {q p : Bool} {ms : ME (List Opd)} {r : List V → Hp → VK → Prop} {f : List D → Option D} (hc : ∀ {t : TA}, PA X es t → PE X e (tCB r t)) (hs : CallS X.K r f)
    (ha : VA X B q p es ms) : VE X B p e (mCall f ms) := by
  refine pe_imp (hc ha.run) fun σ H Q ⟨G, F, η, ρ, d, η', hm, R, k⟩ => ?_
  simp only [mCall, Option.bind_eq_some_iff] at hm
  obtain ⟨⟨xs, η1⟩, h1, ds, h2, d', h3, h4⟩ := hm
  cases h4
  refine ⟨G, F, η, ρ, xs, η1, h1, R, fun vs G1 H1 F1 st1 pu1 R1 r1 => ?_⟩
  refine hs G1 H1 vs ds d Q h3 (r1.conts R1 h2) R1.le fun z G3 H3 g r3 => ?_
  exact k z G3 H3 F1 (st1.trans (g.step _)) (fun hp => (pu1 hp).trans g.keep) (R1.grow g) r3
/-- .. that give a new list, dict of our own -/
def CallN (K : PySem.W.Frag) (r : List V → Hp → VK → Prop) (f : List D → Option O1) : Prop := ∀ (G H : Hp) (vs : List V) (ds : List D) (o : O1) (Q : VK), f ds = some o → RepCs K G H vs ds → Le G H →
  (∀ p u, H p = none → Own1 K G (upd H p u) [p] (.ref p) o → Q (.ref p) (upd H p u)) → r vs H Q
def mCallN (f : List D → Option O1) (ms : ME (List Opd)) : ME O := fun η => (ms η).bind fun p => (conts p.2 p.1).bind fun ds => (f ds).bind fun o => some (.s o, p.2)
theorem vn_call {e : Expr} {es : List Expr} {q p : Bool} {ms : ME (List Opd)} {r : List V → Hp → VK → Prop} {f : List D → Option O1} (hc : ∀ {t : TA}, PA X es t → PE X e (tCB r t)) (hs : CallN X.K r f)
    (ha : VA X B q p es ms) : VN X B p e (mCallN f ms) := by
  refine pe_imp (hc ha.run) fun σ H Q ⟨G, F, η, ρ, d, η', hm, R, k⟩ => ?_
  simp only [mCallN, Option.bind_eq_some_iff] at hm
  obtain ⟨⟨xs, η1⟩, h1, ds, h2, o, h3, h4⟩ := hm
  cases h4
  refine ⟨G, F, η, ρ, xs, η1, h1, R, fun vs G1 H1 F1 st1 pu1 R1 r1 => ?_⟩
  refine hs G1 H1 vs ds o Q h3 (r1.conts R1 h2) R1.le fun p u hp ho => ?_
  obtain ⟨F2, R2, st2⟩ := vn_new R1 hp ho
  exact k _ _ _ F2 (st1.trans st2) (fun h => (pu1 h).trans (Grow.lay R1.le hp).keep) R2

/-! ### slices -/
def rdPo (K : PySem.W.Frag) (B : List Nat) (p : Bool) (m : ME (Option Int)) : TO := fun σ H Q => ∃ G F η ρ o η', m η = some (o, η') ∧ Rel K B ρ G H F η σ ∧
  ∀ G' H' F', Step G H (OwnP F) G' H' (OwnP F') → (p = true → Same H H') → Rel K B ρ G' H' F' η' σ → Q o H'
def VP (X : Cx) (B : List Nat) (p : Bool) (e : Option Expr) (m : ME (Option Int)) : Prop := PO X e (rdPo X.K B p m)
theorem po_imp {e : Option Expr} {t t' : TO} (h : PO X e t) (f : ∀ σ H Q, t' σ H Q → t σ H Q) : PO X e t' := ⟨fun pins s σ H Q I q => h.run pins s σ H Q I (f _ _ _ q)⟩
def mPno : ME (Option Int) := fun η => some (none, η)
def mPo (m : ME D) : ME (Option Int) := fun η => (m η).bind fun p => match p.1 with
  | .int i => some (some i, p.2)
  | _ => none
theorem vp_no : VP X B true none mPno := by
  refine po_imp po_none fun σ H Q ⟨G, F, η, ρ, d, η', hm, R, k⟩ => ?_
  cases hm
  exact k G H F (.refl _ _ _) (fun _ => .refl H) R
theorem vp_of {e : Expr} {p : Bool} {m : ME D} (h : VE X B p e m) : VP X B p (some e) (mPo m) := by
  refine po_imp (po_some h) fun σ H Q ⟨G, F, η, ρ, d, η', hm, R, k⟩ => ?_
  simp only [mPo, Option.bind_eq_some_iff] at hm
  obtain ⟨⟨d', η1⟩, h1, h2⟩ := hm
  split at h2
  · rename_i i q
    have q : d' = .int i := q
    subst q
    cases h2
    refine ⟨G, F, η, ρ, _, η1, h1, R, fun v G' H' F' st pu R' r => ?_⟩
    cases r
    exact ⟨i, rfl, k G' H' F' st pu R'⟩
  · cases h2
def rSlAll (K : PySem.W.Frag) : V → Option Int → Option Int → Hp → VK → Prop := fun x lo hi H Q => rSlL K x lo hi H Q ∨ (rSlA K x lo hi H Q ∨ rSlS x lo hi H Q)
theorem sl_all : SlR X (rSlAll X.K) := sl_list.or (sl_tupA.or sl_str)
def mCut (mo : ME Opd) (ml mh : ME (Option Int)) : ME D := fun η => (mo η).bind fun p => (ml p.2).bind fun l => (mh l.2).bind fun h => (cont h.2 p.1).bind fun a => (dCut a l.1 h.1).bind fun d => some (d, h.2)
theorem ve_cut {e : Expr} {lo hi : Option Expr} {q p pl ph : Bool} {mo : ME Opd} {ml mh : ME (Option Int)} {p2 pos} (ho : VO X B q p e mo) (hl : VP X B pl lo ml) (hh : VP X B ph hi mh) (hq : q = false ∨ (pl && ph) = true := by decide) :
    VE X B (p && (pl && ph)) (.Subscript e (.Slice lo hi none p2) pos) (mCut mo ml mh) := by
  refine pe_imp (pe_slice sl_all ho.run hl hh) fun σ H Q ⟨G, F, η, ρ, d, η', hm, R, k⟩ => ?_
  simp only [mCut, Option.bind_eq_some_iff] at hm
  obtain ⟨⟨x, η1⟩, h1, ⟨l, η2⟩, h2, ⟨h, η3⟩, h3, a, h4, d', h5, h6⟩ := hm
  cases h6
  refine ⟨G, F, η, ρ, x, η1, h1, R, fun v G1 H1 F1 st1 pu1 R1 r1 => ?_⟩
  refine ⟨G1, F1, η1, ρ, l, η2, h2, R1, fun G2 H2 F2 st2 pu2 R2 => ?_⟩
  refine ⟨G2, F2, η2, ρ, h, η3, h3, R2, fun G3 H3 F3 st3 pu3 R3 => ?_⟩
  have r1' : RepP X.K G3 H3 σ v x := r1.step (st2.trans st3) (by
    rcases hq with hq | hq
    · exact .inl (ho.nof hq _ _ _ h1)
    · rw [Bool.and_eq_true] at hq
      exact .inr ((pu2 hq.1).trans (pu3 hq.2)))
  have ra := r1'.cont R3 h4
  have l3 := R3.le
  have k' : ∀ z G4 H4, Grow G3 H3 G4 H4 → Rep X.K G4 z d → Q z H4 := fun z G4 H4 g r => by
    refine k z G4 H4 F3 (((st1.trans st2).trans st3).trans (g.step _)) (fun hp => ?_) (R3.grow g) r
    rw [Bool.and_eq_true, Bool.and_eq_true] at hp
    exact (((pu1 hp.1).trans (pu2 hp.2.1)).trans (pu3 hp.2.2)).trans g.keep
  unfold dCut at h5
  split at h5
  · cases h5
    obtain ⟨a1, vs, rfl, g1, g2⟩ := ra
    refine .inl ⟨a1, vs, rfl, g1, fun p hp => ?_⟩
    have g := Grow.new l3 (o := .lst (cutV vs l h)) hp
    exact k' _ _ _ g (.lst (SqL.of upd_same) ((cut_reps g2 l h).mono g.le))
  · cases h5
    cases ra with
    | tup g1 g2 =>
      rename_i a1 vs
      refine .inr (.inl ⟨a1, vs, rfl, SqT.of (l3.2 _ _ g1), fun hw => ?_, fun hw p hp => ?_⟩)
      · rw [g2.length] at hw
        refine k' _ _ _ (.refl l3) ?_
        rw [cut_all hw]
        exact .tup g1 g2
      · have g := Grow.new l3 (o := .tup (cutV vs l h)) hp
        exact k' _ _ _ g (.tup upd_same ((cut_reps g2 l h).mono g.le))
  · cases ra with
    | ktup g1 g2 =>
      rename_i a1 vs
      have g1t := l3.sqT g1.1
      refine .inr (.inl ⟨a1, vs, rfl, g1t, fun hw => ?_, fun hw p hp => ?_⟩)
      · rw [g2.length] at hw
        rw [if_pos hw] at h5
        cases h5
        exact k' _ _ _ (.refl l3) (.ktup g1 g2)
      · rw [g2.length] at hw
        rw [if_neg hw] at h5
        cases h5
        have g := Grow.new l3 (o := .tup (cutV vs l h)) hp
        exact k' _ _ _ g (.tup upd_same ((cut_reps g2 l h).mono g.le))
  · split at h5
    · rename_i hz
      cases h5
      cases ra
      exact .inr (.inr ⟨_, rfl, sz_le hz, k' _ _ _ (.refl l3) (.str _)⟩)
    · cases h5
  · cases h5

/-! ### a field of an instance in a slot -/
def mFldO (C : Addr) (i : Nat) (f : Str) : ME Opd := fun η => match η[i]? with
  | some (some (.ins C' fs)) => if C' = C then (match fs.lookup f with
    | some _ => some (.fld i f, η)
    | none => none) else none
  | _ => none
theorem vo_fld {e : Expr} {C : Addr} {i : Nat} {f : Str} {pos : Pos} (h : PE X e (tVar i)) (hC : Cls X.K C) (hn : NoAttr X.K C f) (hb : attributeBase e f X.env (eval e X.env) = eval e X.env := by rfl) :
    VO X B true true (.Attribute e f pos) (mFldO C i f) := by
  refine ⟨pe_imp (pe_fld h hb) fun σ H Q ⟨G, F, η, ρ, x, η', hm, R, k⟩ => ?_, fun h => by cases h⟩
  unfold mFldO at hm
  split at hm
  · rename_i C' fs q
    split at hm
    · rename_i eC
      subst eC
      split at hm
      · rename_i o ho
        cases hm
        obtain ⟨v, h1, a, dx, vs, fps, rfl, e2, e3, e4⟩ := R.slot i _ q
        obtain ⟨w', fp, g1, g2, _⟩ := (OwnF.get e4).1 o ho
        exact ⟨.ref a, h1, a, _, dx, vs, w', rfl, e3, hC, hn, g1, k w' G H F (.refl _ _ _) (fun _ => .refl H) R ⟨a, _, dx, vs, h1, e3, g1⟩⟩
      · cases hm
    · cases hm
  · cases hm
/-- a frozen field -/
def mFld (C : Addr) (i : Nat) (f : Str) : ME D := fun η => match η[i]? with
  | some (some (.ins C' fs)) => if C' = C then (match fs.lookup f with
    | some (.fro d) => some (d, η)
    | _ => none) else none
  | _ => none
theorem ve_fld {e : Expr} {C : Addr} {i : Nat} {f : Str} {pos : Pos} (h : PE X e (tVar i)) (hC : Cls X.K C) (hn : NoAttr X.K C f) (hb : attributeBase e f X.env (eval e X.env) = eval e X.env := by rfl) :
    VE X B true (.Attribute e f pos) (mFld C i f) := by
  refine pe_imp (pe_fld h hb) fun σ H Q ⟨G, F, η, ρ, x, η', hm, R, k⟩ => ?_
  unfold mFld at hm
  split at hm
  · rename_i C' fs q
    split at hm
    · rename_i eC
      subst eC
      split at hm
      · rename_i d ho
        cases hm
        obtain ⟨v, h1, a, dx, vs, fps, rfl, e2, e3, e4⟩ := R.slot i _ q
        obtain ⟨w', fp, g1, g2, _⟩ := (OwnF.get e4).1 _ ho
        exact ⟨.ref a, h1, a, _, dx, vs, w', rfl, e3, hC, hn, g1, k w' G H F (.refl _ _ _) (fun _ => .refl H) R g2.2⟩
      · cases hm
    · cases hm
  · cases hm
end
end VL
end
section
set_option Elab.async false
set_option linter.all false
set_option maxRecDepth 100000
set_option maxHeartbeats 1000000
namespace VL
open PySem PySem.Spec PyProof.Rows L2

/-! ### slots from two frames -/
inductive Src where | new (k : Nat) | old (k : Nat) | fz
def joinF (src : Nat → Src) (F Fa : Nat → List Addr) (η' : Env) : Nat → List Addr := fun i => match η'[i]? with
  | some (some _) => (match src i with
    | .new k => Fa k
    | .old k => F k
    | .fz => [])
  | _ => []
section
variable {K : PySem.W.Frag} {B Ba B' : List Nat} {ρ ρa ρ' : Nat → V} {G H G' H' : Hp} {F Fa : Nat → List Addr} {η ηa η' : Env} {σ σa σ' : L2.St} {P : Addr → Prop}
theorem joinF_cases {src : Nat → Src} {i : Nat} {b : Addr} (h : b ∈ joinF src F Fa η' i) : ∃ o, η'[i]? = some (some o) ∧ ((∃ k, src i = .new k ∧ b ∈ Fa k) ∨ ∃ k, src i = .old k ∧ b ∈ F k) := by
  unfold joinF at h
  split at h
  · rename_i o e
    refine ⟨o, e, ?_⟩
    split at h
    · rename_i k q; exact .inl ⟨k, q, h⟩
    · rename_i k q; exact .inr ⟨k, q, h⟩
    · cases h
  · cases h
theorem joinF_at {src : Nat → Src} {i : Nat} {o : O} (e : η'[i]? = some (some o)) : joinF src F Fa η' i = match src i with
    | .new k => Fa k
    | .old k => F k
    | .fz => [] := by
  unfold joinF; rw [e]
def SlotOk (K : PySem.W.Frag) (G' : Hp) (η ηa : Env) (σ σa σ' : L2.St) (i : Nat) (o : O) : Src → Prop
  | .new k => ηa[k]? = some (some o) ∧ σ'[i]? = σa[k]?
  | .old k => η[k]? = some (some o) ∧ σ'[i]? = σ[k]?
  | .fz => ∃ v d, o = .s (.fro d) ∧ σ'[i]? = some (some v) ∧ Rep K G' v d
theorem Rel.join (R : Rel K B ρ G H F η σ) (Ra : Rel K Ba ρa G' H' Fa ηa σa) (st : Step G H P G' H' (OwnP Fa)) (S : Nat → Prop) (hP : ∀ b, P b → ∃ k, S k ∧ b ∈ F k)
    (src : Nat → Src) (injN : ∀ i j k, src i = .new k → src j = .new k → i = j) (injO : ∀ i j k, src i = .old k → src j = .old k → i = j) (hS : ∀ i k, src i = .old k → ¬ S k)
    (sl : ∀ i o, η'[i]? = some (some o) → SlotOk K G' η ηa σ σa σ' i o (src i)) (len : η'.length = σ'.length) (bor : ∀ i ∈ B', σ'[i]? = some (some (ρ' i))) :
    Rel K B' ρ' G' H' (joinF src F Fa η') η' σ' ∧ Step G H (OwnP F) G' H' (OwnP (joinF src F Fa η')) := by
  have notP : ∀ i k b, src i = .old k → b ∈ F k → ¬ P b := fun i k b e hb hp => by
    obtain ⟨k', h1, h2⟩ := hP b hp
    have := R.sep k k' b hb h2
    exact hS i k e (this ▸ h1)
  refine ⟨⟨Ra.le, fun i b hb => ?_, fun i => ?_, fun i j b h1 h2 => ?_, fun i o e => ?_, fun i hi => ?_, len, bor⟩, st.le, fun b hb => ?_, fun b o hb n => ?_, st.there, fun b hb => ?_⟩
  · obtain ⟨o, e, h | h⟩ := joinF_cases hb
    · obtain ⟨k, e2, hb2⟩ := h; exact Ra.dis k b hb2
    · obtain ⟨k, e2, hb2⟩ := h
      refine Classical.byContradiction fun n => ?_
      rcases st.gin b n with q | q | q | q
      · exact q (R.dis k b hb2)
      · exact R.there k b hb2 q
      · exact notP i k b e2 hb2 q
      · exact R.noTup k b hb2 q
  · unfold joinF
    split
    · split
      · exact Ra.ndi _
      · exact R.ndi _
      · exact .nil
    · exact .nil
  · obtain ⟨o, e, h | h⟩ := joinF_cases h1 <;> obtain ⟨o', e', h' | h'⟩ := joinF_cases h2
    · obtain ⟨k, q1, q2⟩ := h; obtain ⟨k', q1', q2'⟩ := h'
      have := Ra.sep k k' b q2 q2'; subst this
      exact injN i j k q1 q1'
    · obtain ⟨k, q1, q2⟩ := h; obtain ⟨k', q1', q2'⟩ := h'
      rcases st.fin b ⟨k, q2⟩ with q | q
      · exact (notP j k' b q1' q2' q).elim
      · exact (R.there k' b q2' q).elim
    · obtain ⟨k, q1, q2⟩ := h; obtain ⟨k', q1', q2'⟩ := h'
      rcases st.fin b ⟨k', q2'⟩ with q | q
      · exact (notP i k b q1 q2 q).elim
      · exact (R.there k b q2 q).elim
    · obtain ⟨k, q1, q2⟩ := h; obtain ⟨k', q1', q2'⟩ := h'
      have := R.sep k k' b q2 q2'; subst this
      exact injO i j k q1 q1'
  · have s := sl i o e
    have jf : joinF src F Fa η' i = _ := joinF_at (src := src) (F := F) (Fa := Fa) e
    cases q : src i with
    | new k =>
      rw [q] at s jf
      obtain ⟨v, h1, h2⟩ := Ra.slot k o s.1
      exact ⟨v, by rw [s.2]; exact h1, by rw [jf]; exact h2⟩
    | old k =>
      rw [q] at s jf
      obtain ⟨v, h1, h2⟩ := R.slot k o s.1
      refine ⟨v, by rw [s.2]; exact h1, ?_⟩
      rw [jf]
      exact h2.mono st.le fun b hb u h => st.keep b u h (notP i k b q hb)
    | fz =>
      rw [q] at s jf
      obtain ⟨v, d, rfl, h1, h2⟩ := s
      exact ⟨v, h1, by rw [jf]; exact ⟨rfl, h2⟩⟩
  · unfold joinF
    split
    · rename_i o e; exact absurd e (hi o)
    · rfl
  · rcases st.gin b hb with q | q | q | q
    · exact .inl q
    · exact .inr (.inl q)
    · obtain ⟨k, _, hk⟩ := hP b q; exact .inr (.inr (.inl ⟨k, hk⟩))
    · exact .inr (.inr (.inr q))
  · exact st.keep b o hb fun q => by obtain ⟨k, _, hk⟩ := hP b q; exact n ⟨k, hk⟩
  · obtain ⟨i, hi⟩ := hb
    obtain ⟨o, e, h | h⟩ := joinF_cases hi
    · obtain ⟨k, _, hk⟩ := h
      rcases st.fin b ⟨k, hk⟩ with q | q
      · obtain ⟨k, _, hk⟩ := hP b q; exact .inl ⟨k, hk⟩
      · exact .inr q
    · obtain ⟨k, _, hk⟩ := h; exact .inl ⟨k, hk⟩
/-- the same things in other slots -/
theorem Rel.re (R : Rel K B ρ G H F η σ) (src : Nat → Src) (injN : ∀ i j k, src i = .new k → src j = .new k → i = j) (noO : ∀ i k, src i ≠ .old k)
    (sl : ∀ i o, η'[i]? = some (some o) → SlotOk K G η η σ σ σ' i o (src i)) (len : η'.length = σ'.length) (bor : ∀ i ∈ B', σ'[i]? = some (some (ρ' i))) :
    Rel K B' ρ' G H (joinF src F F η') η' σ' ∧ Step G H (OwnP F) G H (OwnP (joinF src F F η')) :=
  R.join R (Step.refl G H (OwnP F)) (fun _ => True) (fun b ⟨k, hk⟩ => ⟨k, trivial, hk⟩) src injN (fun i j k h => (noO i k h).elim) (fun i k h => (noO i k h).elim) sl len bor
end

/-! ### writing into one's own -/
def Cel (K : PySem.W.Frag) (G : Hp) : HO → O1 → Prop
  | .lst vs, .lst ds => Reps K G vs ds
  | .dT vs, .dT ds => RepT K G vs ds
  | .dK vs, .dK ds => RepK K G vs ds
  | _, _ => False
def O1.own : O1 → Bool
  | .fro _ => false
  | _ => true
theorem Own1.cel {K : PySem.W.Frag} {G H : Hp} {fp : List Addr} {v : V} {o : O1} (h : Own1 K G H fp v o) (e : o.own = true) : ∃ a u, v = .ref a ∧ fp = [a] ∧ H a = some u ∧ Cel K G u o := by
  cases o with
  | fro d => cases e
  | lst ds => obtain ⟨a, vs, h1, h2, h3, h4⟩ := h; exact ⟨a, _, h1, h2, h3, h4⟩
  | dT ds => obtain ⟨a, vs, h1, h2, h3, h4⟩ := h; exact ⟨a, _, h1, h2, h3, h4⟩
  | dK ds => obtain ⟨a, vs, h1, h2, h3, h4⟩ := h; exact ⟨a, _, h1, h2, h3, h4⟩
theorem Cel.own1 {K : PySem.W.Frag} {G H : Hp} {a : Addr} {u : HO} {o : O1} (h : Cel K G u o) (hH : H a = some u) : Own1 K G H [a] (.ref a) o := by
  cases o <;> cases u <;> first | exact h.elim | exact ⟨_, _, rfl, rfl, hH, h⟩
theorem Cel.mut {K : PySem.W.Frag} {G : Hp} {u : HO} {o : O1} (h : Cel K G u o) : ∀ xs, u ≠ .tup xs := by
  intro xs e; subst e; cases o <;> exact h
def putO (f : Str) (o : O1) : List (Str × O1) → List (Str × O1)
  | [] => [(f, o)]
  | (g, x) :: r => if g = f then (g, o) :: r else (g, x) :: putO f o r
theorem look_ne {α : Type} {f g : Str} {x : α} {r : List (Str × α)} (h : ¬ g = f) : ((g, x) :: r).lookup f = r.lookup f := by
  rw [List.lookup_cons, beq_eq_false_iff_ne.mpr (Ne.symm h)]
theorem look_eq {α : Type} {f : Str} {x : α} {r : List (Str × α)} : ((f, x) :: r).lookup f = some x := by
  rw [List.lookup_cons, beq_self_eq_true]
theorem OwnF.length {K : PySem.W.Frag} {G H : Hp} : ∀ {fps : List (List Addr)} {vs : List (Str × V)} {os : List (Str × O1)}, OwnF K G H fps vs os → vs.length = os.length
  | _, _, _, .nil => rfl
  | _, _, _, .cons _ hs => by rw [List.length_cons, List.length_cons, OwnF.length hs]
/-- an owned field is written -/
theorem OwnF.write {K : PySem.W.Frag} {G H : Hp} {f : Str} : ∀ {fps : List (List Addr)} {vs : List (Str × V)} {os : List (Str × O1)} {o : O1}, OwnF K G H fps vs os → os.lookup f = some o → o.own = true → fps.flatten.Nodup →
    ∃ a u, vs.lookup f = some (.ref a) ∧ H a = some u ∧ Cel K G u o ∧ a ∈ fps.flatten ∧ ∀ u' o', Cel K G u' o' → OwnF K G (upd H a u') fps vs (putO f o' os)
  | _, _, _, _, .nil, h, _, _ => by cases h
  | _, _, _, o, .cons (fp := fp) (f := g) (v := v) (o := x) (fps := fps) (vs := vs) (os := os) h hs, e, ow, nd => by
    rw [List.flatten_cons] at nd
    have nd2 := (List.nodup_append.mp nd)
    by_cases eg : g = f
    · subst eg
      rw [look_eq] at e; cases e
      obtain ⟨a, u, rfl, rfl, h1, h2⟩ := h.cel ow
      refine ⟨a, u, look_eq, h1, h2, by simp, fun u' o' c => ?_⟩
      rw [show putO g o' ((g, o) :: os) = (g, o') :: os from if_pos rfl]
      refine .cons (c.own1 upd_same) (hs.mono (.refl G) fun b hb u h => ?_)
      rw [upd_ne fun e => ?_]
      · exact h
      · subst e; exact nd2.2.2 b (by simp) b hb rfl
    · rw [look_ne eg] at e
      obtain ⟨a, u, q1, q2, q3, q4, q5⟩ := OwnF.write hs e ow nd2.2.1
      refine ⟨a, u, by rw [look_ne eg]; exact q1, q2, q3, by rw [List.flatten_cons, List.mem_append]; exact .inr q4, fun u' o' c => ?_⟩
      rw [show putO f o' ((g, x) :: os) = (g, x) :: putO f o' os from if_neg eg]
      refine .cons (h.mono (.refl G) fun b hb u h => ?_) (q5 u' o' c)
      rw [upd_ne fun e => ?_]
      · exact h
      · subst e; exact nd2.2.2 b hb b q4 rfl
/-- a field is set -/
theorem OwnF.put {K : PySem.W.Frag} {G H : Hp} {f : Str} {fp : List Addr} {v : V} {o : O1} (h0 : Own1 K G H fp v o) (n0 : fp.Nodup) : ∀ {fps : List (List Addr)} {vs : List (Str × V)} {os : List (Str × O1)}, OwnF K G H fps vs os → fps.flatten.Nodup → (∀ b ∈ fp, b ∉ fps.flatten) →
    ∃ fps', OwnF K G H fps' (putF f v vs) (putO f o os) ∧ (∀ b ∈ fps'.flatten, b ∈ fps.flatten ∨ b ∈ fp) ∧ fps'.flatten.Nodup
  | _, _, _, .nil, _, _ => ⟨[fp], .cons h0 .nil, fun b hb => by simpa using hb, by simpa using n0⟩
  | _, _, _, .cons (fp := fpx) (f := g) (v := x) (o := ox) (fps := fps) (vs := vs) (os := os) h hs, nd, dj => by
    rw [List.flatten_cons] at nd
    have nd2 := (List.nodup_append.mp nd)
    have dj' : ∀ b ∈ fp, b ∉ fpx ∧ b ∉ fps.flatten := fun b hb => by
      have := dj b hb
      rw [List.flatten_cons, List.mem_append] at this
      exact ⟨fun q => this (.inl q), fun q => this (.inr q)⟩
    by_cases eg : g = f
    · subst eg
      rw [show putO g o ((g, ox) :: os) = (g, o) :: os from if_pos rfl, show putF g v ((g, x) :: vs) = (g, v) :: vs from if_pos rfl]
      refine ⟨fp :: fps, .cons h0 hs, fun b hb => ?_, ?_⟩
      · rw [List.flatten_cons, List.mem_append] at hb ⊢
        rcases hb with hb | hb
        · exact .inr hb
        · exact .inl (.inr hb)
      · rw [List.flatten_cons]
        exact List.nodup_append.mpr ⟨n0, nd2.2.1, fun a ha b hb e => (dj' a ha).2 (e ▸ hb)⟩
    · rw [show putO f o ((g, ox) :: os) = (g, ox) :: putO f o os from if_neg eg, show putF f v ((g, x) :: vs) = (g, x) :: putF f v vs from if_neg eg]
      obtain ⟨fps', q1, q2, q3⟩ := OwnF.put h0 n0 hs nd2.2.1 fun b hb => (dj' b hb).2
      refine ⟨fpx :: fps', .cons h q1, fun b hb => ?_, ?_⟩
      · rw [List.flatten_cons, List.mem_append] at hb ⊢
        rcases hb with hb | hb
        · exact .inl (.inl hb)
        · rcases q2 b hb with q | q
          · exact .inl (.inr q)
          · exact .inr q
      · rw [List.flatten_cons]
        refine List.nodup_append.mpr ⟨nd2.1, q3, fun a ha b hb e => ?_⟩
        subst e
        rcases q2 a hb with q | q
        · exact nd2.2.2 a ha a q rfl
        · exact (dj' a q).1 ha
def cellAt (η : Env) : Opd → Option O1
  | .d _ => none
  | .loc i => match η[i]? with
    | some (some (.s o)) => some o
    | _ => none
  | .fld i f => match η[i]? with
    | some (some (.ins _ fs)) => fs.lookup f
    | _ => none
def setAt (η : Env) (x : Opd) (o : O1) : Env := match x with
  | .d _ => η
  | .loc i => η.set i (some (.s o))
  | .fld i f => match η[i]? with
    | some (some (.ins C fs)) => η.set i (some (.ins C (putO f o fs)))
    | _ => η
theorem Le.write {G H : Hp} (l : Le G H) {a : Addr} {u : HO} (h : G a = none) : Le G (upd H a u) :=
  ⟨fun b w r => by
    have ne : b ≠ a := by rcases r with r | ⟨o, r⟩ <;> exact ne_of_none r h
    rcases l.1 b w r with q | ⟨o, q⟩
    · exact .inl (by rw [upd_ne ne]; exact q)
    · exact .inr ⟨o, by rw [upd_ne ne]; exact q⟩, fun b xs r => by rw [upd_ne (ne_of_none r h)]; exact l.2 b xs r⟩
theorem Rel.write {K : PySem.W.Frag} {B : List Nat} {ρ : Nat → V} {G H : Hp} {F : Nat → List Addr} {η : Env} {σ : L2.St} {x : Opd} {v : V} {o : O1} (R : Rel K B ρ G H F η σ) (hx : cellAt η x = some o) (hr : RepP K G H σ v x) (ow : o.own = true) :
    ∃ a u, v = .ref a ∧ H a = some u ∧ Cel K G u o ∧ ∀ u' o', Cel K G u' o' → ∃ F', Rel K B ρ G (upd H a u') F' (setAt η x o') σ ∧ Step G H (OwnP F) G (upd H a u') (OwnP F') := by
  have fin : ∀ {i a u u' o' f}, η[i]? = some (some o') → σ[i]? = some (some v) → OwnO K G (upd H a u') (F i) v f → H a = some u → a ∈ F i → (∀ xs, u ≠ .tup xs) →
      ∃ F', Rel K B ρ G (upd H a u') F' (η.set i (some f)) σ ∧ Step G H (OwnP F) G (upd H a u') (OwnP F') := fun {i a u u' o' f} e hs hn hu ha nt => by
    have hi : i < η.length := (List.getElem?_eq_some_iff.mp e).1
    refine ⟨_, R.put (i := i) (o := f) (f := F i) (.refl G) (R.le.write (R.dis i a ha)) hi (fun b h => .inl h) (fun b w h hb => ?_) (fun b hb => ⟨.inl hb, R.dis i b hb⟩) (R.ndi i) hs hn, .refl G, fun b h => .inl h, fun b w h hb => ?_, fun b h => ?_, fun b ⟨j, hj⟩ => ?_⟩
    · have z : b ≠ a := fun q => hb (by rw [q]; exact ha)
      rw [upd_ne z]; exact h
    · have z : b ≠ a := fun q => hb ⟨i, by rw [q]; exact ha⟩
      rw [upd_ne z]; exact h
    · by_cases q : b = a
      · subst q; rw [upd_same]; intro z; cases z
      · rw [upd_ne q]; exact h
    · by_cases q : j = i
      · subst q; exact .inl ⟨j, by simpa using hj⟩
      · exact .inl ⟨j, by simpa [q] using hj⟩
  cases x with
  | d y => cases hx
  | loc i =>
    simp only [cellAt] at hx
    split at hx
    · rename_i o1 q
      cases hx
      obtain ⟨v', h1, h2⟩ := R.slot i _ q
      have hr : σ[i]? = some (some v) := hr
      rw [h1] at hr; cases hr
      obtain ⟨a, u, rfl, e2, e3, e4⟩ := Own1.cel h2 ow
      refine ⟨a, u, rfl, e3, e4, fun u' o' c => ?_⟩
      have hn : OwnO K G (upd H a u') (F i) (.ref a) (.s o') := by rw [e2]; exact c.own1 upd_same
      exact fin q h1 hn e3 (by rw [e2]; simp) e4.mut
    · cases hx
  | fld i f =>
    simp only [cellAt] at hx
    split at hx
    · rename_i C fs q
      obtain ⟨v', h1, a0, dx, vs, fps, rfl, e2, e3, e4⟩ := R.slot i _ q
      obtain ⟨a0', C', dx', vs', g1, g2, g3⟩ := hr
      rw [h1] at g1; cases g1
      rw [e3] at g2; cases g2
      have nd := R.ndi i
      rw [e2] at nd
      obtain ⟨a, u, q1, q2, q3, q4, q5⟩ := e4.write hx ow (List.nodup_cons.mp nd).2
      rw [g3] at q1; cases q1
      refine ⟨a, u, rfl, q2, q3, fun u' o' c => ?_⟩
      have ne : a0 ≠ a := fun z => (List.nodup_cons.mp nd).1 (z ▸ q4)
      have hn : OwnO K G (upd H a u') (F i) (.ref a0) (.ins C (putO f o' fs)) := ⟨a0, dx, vs, fps, rfl, e2, by rw [upd_ne ne]; exact e3, q5 u' o' c⟩
      have hi : i < η.length := (List.getElem?_eq_some_iff.mp q).1
      have ha : a ∈ F i := by rw [e2]; exact List.mem_cons_of_mem _ q4
      have st : setAt η (.fld i f) o' = η.set i (some (.ins C (putO f o' fs))) := by simp only [setAt, q]
      rw [st]
      refine ⟨_, R.put (i := i) (o := .ins C (putO f o' fs)) (f := F i) (.refl G) (R.le.write (R.dis i a ha)) hi (fun b h => .inl h) (fun b w h hb => ?_) (fun b hb => ⟨.inl hb, R.dis i b hb⟩) (R.ndi i) h1 hn, .refl G, fun b h => .inl h, fun b w h hb => ?_, fun b h => ?_, fun b ⟨j, hj⟩ => ?_⟩
      · have z : b ≠ a := fun q => hb (by rw [q]; exact ha)
        rw [upd_ne z]; exact h
      · have z : b ≠ a := fun q => hb ⟨i, by rw [q]; exact ha⟩
        rw [upd_ne z]; exact h
      · by_cases q : b = a
        · subst q; rw [upd_same]; intro z; cases z
        · rw [upd_ne q]; exact h
      · by_cases q : j = i
        · subst q; exact .inl ⟨j, by simpa using hj⟩
        · exact .inl ⟨j, by simpa [q] using hj⟩
    · cases hx
end VL
end
section
set_option Elab.async false
set_option linter.all false
set_option maxRecDepth 100000
set_option maxHeartbeats 1000000
namespace VL
open PySem PySem.Spec PyProof.Rows L2

section
variable {K : PySem.W.Frag} {B : List Nat} {ρ : Nat → V} {G H : Hp} {F : Nat → List Addr} {η : Env} {σ : L2.St} {v : V} {o : O}
/-- the last slot goes to slot i -/
theorem Rel.move {i : Nat} (R : Rel K B ρ G H F (η ++ [some o]) (σ ++ [some v])) (hi : i < η.length) (hB : i ∉ B) (hb : ∀ j ∈ B, j < η.length) :
    ∃ F', Rel K B ρ G H F' (η.set i (some o)) (σ.set i (some v)) ∧ Step G H (OwnP F) G H (OwnP F') := by
  have len : η.length = σ.length := by have := R.len; simp at this; exact this
  refine ⟨_, R.re (fun k => if k = i then .new η.length else if k < η.length then .new k else .fz) (fun a b k h1 h2 => ?_) (fun a k h => ?_) (fun k q e => ?_) (by simp [len]) (fun k hk => ?_)⟩
  · by_cases ea : a = i <;> by_cases eb : b = i
    · rw [ea, eb]
    · simp only [ea, eb, if_true, if_false] at h1 h2
      cases h1
      split at h2
      · cases h2; omega
      · cases h2
    · simp only [ea, eb, if_true, if_false] at h1 h2
      cases h2
      split at h1
      · cases h1; omega
      · cases h1
    · simp only [ea, eb, if_false] at h1 h2
      split at h1
      · cases h1
        split at h2
        · cases h2; rfl
        · cases h2
      · cases h1
  · try dsimp only at h
    split at h
    · cases h
    · split at h <;> cases h
  · by_cases ek : k = i
    · subst ek
      rw [List.getElem?_set_self hi] at e
      cases e
      simp only [if_true]
      refine ⟨by simp, ?_⟩
      rw [List.getElem?_set_self (by rw [← len]; exact hi)]
      rw [List.getElem?_append_right (by omega)]
      simp [len]
    · rw [List.getElem?_set_ne (Ne.symm ek)] at e
      have hk : k < η.length := (List.getElem?_eq_some_iff.mp e).1
      simp only [ek, if_false, hk, if_true]
      refine ⟨by rw [List.getElem?_append_left hk]; exact e, ?_⟩
      rw [List.getElem?_set_ne (Ne.symm ek), List.getElem?_append_left (by omega)]
  · have := R.bor k hk
    have h2 := hb k hk
    rw [List.getElem?_append_left (by omega)] at this
    rw [List.getElem?_set_ne (fun q => hB (by rw [q]; exact hk) : i ≠ k)]
    exact this
/-- slots emptied, or holding known values -/
theorem Rel.keepSome {η' : Env} {σ' : L2.St} (R : Rel K B ρ G H F η σ) (len : η'.length = σ'.length)
    (sl : ∀ (i : Nat) (o : O), η'[i]? = some (some o) → (η[i]? = some (some o) ∧ σ'[i]? = σ[i]?) ∨ ∃ v d, o = O.s (.fro d) ∧ σ'[i]? = some (some v) ∧ Rep K G v d) (bor : ∀ i ∈ B, σ'[i]? = σ[i]?) :
    ∃ F', Rel K B ρ G H F' η' σ' ∧ Step G H (OwnP F) G H (OwnP F') := by
  classical
  refine ⟨_, R.re (fun k => if η'[k]? = η[k]? ∧ σ'[k]? = σ[k]? then .new k else .fz) (fun a b k h1 h2 => ?_) (fun a k h => ?_) (fun k q e => ?_) len (fun k hk => ?_)⟩
  · try dsimp only at h1 h2
    split at h1
    · split at h2
      · cases h1; cases h2; rfl
      · cases h2
    · cases h1
  · try dsimp only at h
    split at h <;> cases h
  · try dsimp only
    split
    · rename_i h
      exact ⟨by rw [← h.1]; exact e, h.2⟩
    · rename_i h
      rcases sl k q e with s | s
      · exact absurd ⟨by rw [e, s.1], s.2⟩ h
      · exact s
  · rw [bor k hk]; exact R.bor k hk
/-- slot i moves out, to the end -/
theorem Rel.take {i : Nat} (R : Rel K B ρ G H F η σ) (e : η[i]? = some (some o)) : ∃ v, σ[i]? = some (some v) ∧ ∃ F', Rel K B ρ G H F' (η.set i none ++ [some o]) (σ ++ [some v]) ∧ Step G H (OwnP F) G H (OwnP F') := by
  obtain ⟨v, h1, h2⟩ := R.slot i o e
  have hi : i < η.length := (List.getElem?_eq_some_iff.mp e).1
  have len := R.len
  refine ⟨v, h1, _, R.re (fun k => if k = i then .fz else if k = η.length then .new i else .new k) (fun a b k h1 h2 => ?_) (fun a k h => ?_) (fun k q e' => ?_) (by simp [len]) (fun k hk => ?_)⟩
  · try dsimp only at h1 h2
    split at h1
    · cases h1
    · split at h2
      · cases h2
      · split at h1 <;> split at h2
        · omega
        · cases h1; cases h2; omega
        · cases h1; cases h2; omega
        · cases h1; cases h2; rfl
  · try dsimp only at h
    split at h
    · cases h
    · split at h <;> cases h
  · rcases Nat.lt_or_ge k η.length with hk | hk
    · rw [List.getElem?_append_left (by simpa using hk)] at e'
      by_cases ek : k = i
      · subst ek; rw [List.getElem?_set_self hi] at e'; cases e'
      · rw [List.getElem?_set_ne (Ne.symm ek)] at e'
        simp only [ek, if_false, Nat.ne_of_lt hk]
        exact ⟨e', by rw [List.getElem?_append_left (by omega)]⟩
    · rw [List.getElem?_append_right (by simpa using hk)] at e'
      have hk2 : k = η.length := by
        have := (List.getElem?_eq_some_iff.mp e').1
        simp at this; omega
      subst hk2
      simp at e'; subst e'
      simp only [Nat.ne_of_gt hi, if_false, if_true]
      refine ⟨e, ?_⟩
      rw [List.getElem?_append_right (by omega), h1, len]; simp
  · have := R.bor k hk
    rw [List.getElem?_append_left (List.getElem?_eq_some_iff.mp this).1]; exact this
end

/-! ### statements -/
inductive Out where | nx | bk | ct | rt (o : O)
abbrev MS := Env → Option (Out × Env)
def rdR (K : PySem.W.Frag) (B : List Nat) (ρ : Nat → V) (G H : Hp) (F : Nat → List Addr) (η' : Env) (D : Ends) : Out → Prop
  | .nx => ∀ σ' G' H' F', Step G H (OwnP F) G' H' (OwnP F') → Rel K B ρ G' H' F' η' σ' → D.nx σ' H'
  | .bk => ∀ σ' G' H' F', Step G H (OwnP F) G' H' (OwnP F') → Rel K B ρ G' H' F' η' σ' → D.bk σ' H'
  | .ct => ∀ σ' G' H' F', Step G H (OwnP F) G' H' (OwnP F') → Rel K B ρ G' H' F' η' σ' → D.ct σ' H'
  | .rt o => ∀ v σ' G' H' F', Step G H (OwnP F) G' H' (OwnP F') → Rel K B ρ G' H' F' (η' ++ [some o]) (σ' ++ [some v]) → D.rt v H'
def rdS (K : PySem.W.Frag) (B : List Nat) (m : MS) : TS := fun D σ H => ∃ G F η ρ r η', m η = some (r, η') ∧ Rel K B ρ G H F η σ ∧ rdR K B ρ G H F η' D r
theorem rdR.step {K : PySem.W.Frag} {B : List Nat} {ρ : Nat → V} {G H G1 H1 : Hp} {F F1 : Nat → List Addr} {η' : Env} {D : Ends} {r : Out} (st : Step G H (OwnP F) G1 H1 (OwnP F1)) (h : rdR K B ρ G H F η' D r) : rdR K B ρ G1 H1 F1 η' D r := by
  cases r with
  | nx => exact fun σ' G' H' F' st' R => h σ' G' H' F' (st.trans st') R
  | bk => exact fun σ' G' H' F' st' R => h σ' G' H' F' (st.trans st') R
  | ct => exact fun σ' G' H' F' st' R => h σ' G' H' F' (st.trans st') R
  | rt o => exact fun v σ' G' H' F' st' R => h v σ' G' H' F' (st.trans st') R
def VS (X : Cx) (B : List Nat) (st : Stmt) (m : MS) : Prop := PS X st (rdS X.K B m)
def VSs (X : Cx) (B : List Nat) (sts : List Stmt) (m : MS) : Prop := PSs X sts (rdS X.K B m)
section
variable {X : Cx} {B : List Nat}
def mSkip : MS := fun η => some (.nx, η)
def mSeq (a b : MS) : MS := fun η => (a η).bind fun q => match q.1 with
  | .nx => b q.2
  | r => some (r, q.2)
theorem vss_nil : VSs X B [] mSkip := by
  refine pss_imp pss_nil fun D σ H ⟨G, F, η, ρ, r, η', hm, R, k⟩ => ?_
  cases hm
  exact k σ G H F (.refl _ _ _) R
theorem vss_cons {st : Stmt} {sts : List Stmt} {a b : MS} (h : VS X B st a) (hs : VSs X B sts b) : VSs X B (st :: sts) (mSeq a b) := by
  refine pss_imp (pss_cons h hs) fun D σ H ⟨G, F, η, ρ, r, η', hm, R, k⟩ => ?_
  simp only [mSeq, Option.bind_eq_some_iff] at hm
  obtain ⟨⟨r1, η1⟩, h1, h2⟩ := hm
  refine ⟨G, F, η, ρ, r1, η1, h1, R, ?_⟩
  cases r1 with
  | nx => exact fun σ' G' H' F' st R' => ⟨G', F', η1, ρ, r, η', h2, R', k.step st⟩
  | bk => cases h2; exact k
  | ct => cases h2; exact k
  | rt o => cases h2; exact k
theorem vss_one {st : Stmt} {a : MS} (h : VS X B st a) : VSs X B [st] a := pss_one h
theorem vs_pass {pos} : VS X B (.Pass pos) mSkip := by
  refine ps_imp ps_pass fun D σ H ⟨G, F, η, ρ, r, η', hm, R, k⟩ => ?_
  cases hm
  exact k σ G H F (.refl _ _ _) R
theorem vs_doc {x j pos pos'} : VS X B (.Expr (.Constant (.str x) j pos) pos') mSkip := by
  refine ps_imp ps_doc fun D σ H ⟨G, F, η, ρ, r, η', hm, R, k⟩ => ?_
  cases hm
  exact k σ G H F (.refl _ _ _) R
def mBrk : MS := fun η => some (.bk, η)
def mCnt : MS := fun η => some (.ct, η)
theorem vs_break {pos} : VS X B (.Break pos) mBrk := by
  refine ps_imp ps_break fun D σ H ⟨G, F, η, ρ, r, η', hm, R, k⟩ => ?_
  cases hm
  exact k σ G H F (.refl _ _ _) R
theorem vs_cont {pos} : VS X B (.Continue pos) mCnt := by
  refine ps_imp ps_continue fun D σ H ⟨G, F, η, ρ, r, η', hm, R, k⟩ => ?_
  cases hm
  exact k σ G H F (.refl _ _ _) R
def mRet (m : ME O) : MS := fun η => (m η).bind fun q => some (.rt q.1, q.2)
theorem vs_ret {e : Expr} {p : Bool} {m : ME O} {pos : Pos} (h : VN X B p e m) : VS X B (.Return (some e) pos) (mRet m) := by
  refine ps_imp (ps_ret h) fun D σ H ⟨G, F, η, ρ, r, η', hm, R, k⟩ => ?_
  simp only [mRet, Option.bind_eq_some_iff] at hm
  obtain ⟨⟨o, η1⟩, h1, h2⟩ := hm
  cases h2
  exact ⟨G, F, η, ρ, o, η1, h1, R, fun v G' H' F' st _ R' => k v σ G' H' F' st R'⟩
def mDo (m : ME D) : MS := fun η => (m η).bind fun q => some (.nx, q.2)
theorem vs_expr {e : Expr} {p : Bool} {m : ME D} {pos : Pos} (h : VE X B p e m) (hs : swapsWith e none pos.line X.env = pure false := by rfl) : VS X B (.Expr e pos) (mDo m) := by
  refine ps_imp (ps_expr h hs) fun D σ H ⟨G, F, η, ρ, r, η', hm, R, k⟩ => ?_
  simp only [mDo, Option.bind_eq_some_iff] at hm
  obtain ⟨⟨o, η1⟩, h1, h2⟩ := hm
  cases h2
  exact ⟨G, F, η, ρ, o, η1, h1, R, fun v G' H' F' st _ R' _ => k σ G' H' F' st R'⟩
def mIfS (c : ME Bool) (a b : MS) : MS := fun η => (c η).bind fun p => if p.1 = true then a p.2 else b p.2
theorem vs_if {c : Expr} {pc : Bool} {as bs : List Stmt} {mc : ME Bool} {a b : MS} {pos : Pos} (hc : VT X B pc c mc) (ha : VSs X B as a) (hb : VSs X B bs b) : VS X B (.If c as bs pos) (mIfS mc a b) := by
  refine ps_imp (ps_if hc ha hb) fun D σ H ⟨G, F, η, ρ, r, η', hm, R, k⟩ => ?_
  simp only [mIfS, Option.bind_eq_some_iff] at hm
  obtain ⟨⟨c', η1⟩, h1, h2⟩ := hm
  refine ⟨G, F, η, ρ, c', η1, h1, R, fun G1 H1 F1 st1 pu1 R1 => ?_⟩
  cases c' with
  | true =>
    simp only [if_true] at h2 ⊢
    exact ⟨G1, F1, η1, ρ, r, η', h2, R1, k.step st1⟩
  | false =>
    simp only [Bool.false_eq_true, if_false] at h2 ⊢
    exact ⟨G1, F1, η1, ρ, r, η', h2, R1, k.step st1⟩
def mNever : MS := fun _ => none
theorem vs_never {st : Stmt} : VS X B st mNever := by
  refine ps_imp ps_never fun D σ H ⟨G, F, η, ρ, r, η', hm, R, k⟩ => ?_
  cases hm
theorem vss_never {sts : List Stmt} : VSs X B sts mNever := by
  refine pss_imp pss_never fun D σ H ⟨G, F, η, ρ, r, η', hm, R, k⟩ => ?_
  cases hm
def mSet (i : Nat) (m : ME O) : MS := fun η => (m η).bind fun q => if i < q.2.length then some (.nx, q.2.set i (some q.1)) else none
theorem Rel.lenN {K : PySem.W.Frag} {ρ : Nat → V} {G H G' H' : Hp} {F F' : Nat → List Addr} {η η' : Env} {σ : L2.St} {o : O} {v : V} (R : Rel K B ρ G H F η σ) (R' : Rel K B ρ G' H' F' (η' ++ [some o]) (σ ++ [some v])) : ∀ j ∈ B, j < η'.length := fun j hj => by
  have h1 := R.bIn j hj
  have h2 := R.len
  have h3 := R'.len
  simp at h3
  omega
theorem vs_set {i : Nat} {x : Str} {e : Expr} {p : Bool} {m : ME O} {pos pos' : Pos} (hN : X.N.Nodup) (hi : X.N[i]? = some x) (hx : Loc X.env.scope x) (he : VN X B p e m) (hB : i ∉ B := by decide)
    (hs : swapsWith e (some (.Name x pos')) pos.line X.env = pure false := by rfl) (hf : X.fn x = true ∨ X.env.scope.names.lookup x = some .local := by first | exact .inl rfl | exact .inr rfl | assumption) : VS X B (.Assign [.Name x pos'] e pos) (mSet i m) := by
  refine ps_imp (ps_set hN hi hx he hs hf) fun D σ H ⟨G, F, η, ρ, r, η', hm, R, k⟩ => ?_
  simp only [mSet, Option.bind_eq_some_iff] at hm
  obtain ⟨⟨o, η1⟩, h1, h2⟩ := hm
  split at h2
  · rename_i hl
    cases h2
    refine ⟨G, F, η, ρ, o, η1, h1, R, fun v G' H' F' st _ R' => ?_⟩
    obtain ⟨F2, R2, st2⟩ := R'.move hl hB (R.lenN R')
    exact k _ G' H' F2 (st.trans st2) R2
  · cases h2
/-- a local thing handed on -/
def mMove (i : Nat) : ME O := fun η => match η[i]? with
  | some (some o) => some (o, η.set i none)
  | _ => none
theorem vn_move {e : Expr} (i : Nat) (h : PE X e (tVar i)) : VN X B true e (mMove i) := by
  refine pe_imp h fun σ H Q ⟨G, F, η, ρ, d, η', hm, R, k⟩ => ?_
  unfold mMove at hm
  split at hm
  · rename_i o q
    cases hm
    obtain ⟨v, h1, F', R', st⟩ := R.take q
    exact ⟨v, h1, k v G H F' st (fun _ => .refl H) R'⟩
  · cases hm

/-! ### targets -/
theorem wipe_set {σ : L2.St} {i : Nat} {x : Option V} : ∀ {vs : List Nat}, i ∈ vs → wipe (σ.set i x) vs = wipe σ vs
  | v :: vs, h => by
    unfold wipe
    by_cases hi : i ∈ vs
    · rw [wipe_set hi]
    · have e : i = v := by rcases List.mem_cons.mp h with e | h
                           · exact e
                           · exact absurd h hi
      subst e
      have : ∀ (us : List Nat), i ∉ us → wipe (σ.set i x) us = (wipe σ us).set i x := fun us => by
        induction us with
        | nil => intro _; rfl
        | cons u us ih =>
          intro hu
          unfold wipe
          have h1 : ¬ (i = u ∨ i ∈ us) := fun q => hu (List.mem_cons.mpr q)
          rw [ih fun q => h1 (.inr q), List.set_comm _ _ (fun q => h1 (.inl q))]
      rw [this vs hi, List.set_set]
def rdG (K : PySem.W.Frag) (B : List Nat) (ts : List Nat) (tm : D → Env → Option Env) : TG := fun v σ H Q => ∃ G F η ρ d η', tm d η = some η' ∧ Rel K B ρ G H F η σ ∧ Rep K G v d ∧
  ∀ σ' H' F', Step G H (OwnP F) G H' (OwnP F') → Rel K B ρ G H' F' η' σ' → (∀ vs : List Nat, (∀ i ∈ ts, i ∈ vs) → wipe σ' vs = wipe σ vs) → Q σ' H'
def VG (X : Cx) (B : List Nat) (ts : List Nat) (tg : Expr) (tm : D → Env → Option Env) : Prop := PG X tg (rdG X.K B ts tm)
theorem pg_imp {tg : Expr} {t t' : TG} (h : PG X tg t) (f : ∀ v σ H Q, t' v σ H Q → t v σ H Q) : PG X tg t' := ⟨fun pins s σ H v u Q I r q => h.run pins s σ H v u Q I r (f _ _ _ _ q)⟩
theorem pgs_imp {tg : List Expr} {t t' : TGs} (h : PGs X tg t) (f : ∀ v σ H Q, t' v σ H Q → t v σ H Q) : PGs X tg t' := ⟨fun pins s σ H v u Q I r q => h.run pins s σ H v u Q I r (f _ _ _ _ q)⟩
def gmName (i : Nat) : D → Env → Option Env := fun d η => if i < η.length then some (η.set i (some (.s (.fro d)))) else none
theorem Rel.setFro {K : PySem.W.Frag} {ρ : Nat → V} {G H : Hp} {F : Nat → List Addr} {η : Env} {σ : L2.St} {i : Nat} {v : V} {d : D} (R : Rel K B ρ G H F η σ) (hi : i < η.length) (hB : i ∉ B) (r : Rep K G v d) :
    ∃ F', Rel K B ρ G H F' (η.set i (some (.s (.fro d)))) (σ.set i (some v)) ∧ Step G H (OwnP F) G H (OwnP F') := by
  have len := R.len
  refine R.keepSome (by simp [len]) (fun k o e => ?_) fun k hk => ?_
  · by_cases ek : k = i
    · subst ek
      rw [List.getElem?_set_self hi] at e; cases e
      exact .inr ⟨v, d, rfl, List.getElem?_set_self (by omega), r⟩
    · rw [List.getElem?_set_ne (Ne.symm ek)] at e
      exact .inl ⟨e, List.getElem?_set_ne (Ne.symm ek)⟩
  · exact List.getElem?_set_ne (fun q => hB (by rw [q]; exact hk) : i ≠ k)
theorem vg_name {i : Nat} {x : Str} {pos : Pos} (hN : X.N.Nodup) (hi : X.N[i]? = some x) (hx : Loc X.env.scope x) (hB : i ∉ B := by decide)
    (hf : X.fn x = true ∨ X.env.scope.names.lookup x = some .local := by first | exact .inl rfl | exact .inr rfl | assumption) : VG X B [i] (.Name x pos) (gmName i) := by
  refine pg_imp (pg_name hN hi hx hf) fun v σ H Q ⟨G, F, η, ρ, d, η', hm, R, r, k⟩ => ?_
  unfold gmName at hm
  split at hm
  · rename_i hl
    cases hm
    obtain ⟨F', R', st⟩ := R.setFro hl hB r
    exact k _ H F' st R' fun vs h => wipe_set (h i (by simp))
  · cases hm
def rdGs (K : PySem.W.Frag) (B : List Nat) (ts : List Nat) (tm : List D → Env → Option Env) : TGs := fun v σ H Q => ∃ G F η ρ d η', tm d η = some η' ∧ Rel K B ρ G H F η σ ∧ Reps K G v d ∧
  ∀ σ' H' F', Step G H (OwnP F) G H' (OwnP F') → Rel K B ρ G H' F' η' σ' → (∀ vs : List Nat, (∀ i ∈ ts, i ∈ vs) → wipe σ' vs = wipe σ vs) → Q σ' H'
def VGs (X : Cx) (B : List Nat) (ts : List Nat) (tg : List Expr) (tm : List D → Env → Option Env) : Prop := PGs X tg (rdGs X.K B ts tm)
def gmNil : List D → Env → Option Env := fun ds η => match ds with
  | [] => some η
  | _ => none
def gmCons (a : D → Env → Option Env) (b : List D → Env → Option Env) : List D → Env → Option Env := fun ds η => match ds with
  | [] => none
  | d :: ds => (a d η).bind fun η1 => b ds η1
theorem vgs_nil : VGs X B [] [] gmNil := by
  refine pgs_imp pgs_nil fun v σ H Q ⟨G, F, η, ρ, d, η', hm, R, r, k⟩ => ?_
  unfold gmNil at hm
  cases r with
  | nil => cases hm; exact ⟨rfl, k σ H F (.refl _ _ _) R fun _ _ => rfl⟩
  | cons => cases hm
theorem vgs_cons {e : Expr} {es : List Expr} {ts us : List Nat} {a : D → Env → Option Env} {b : List D → Env → Option Env} (h : VG X B ts e a) (hs : VGs X B us es b)
    (ha : (assignEach (e :: es) X.env).map (·.2) = assign e X.env :: (assignEach es X.env).map (·.2) := by rfl) : VGs X B (ts ++ us) (e :: es) (gmCons a b) := by
  refine pgs_imp (pgs_cons h hs ha) fun v σ H Q ⟨G, F, η, ρ, d, η', hm, R, r, k⟩ => ?_
  cases r with
  | nil => cases hm
  | cons r rs =>
    simp only [gmCons, Option.bind_eq_some_iff] at hm
    obtain ⟨η1, h1, h2⟩ := hm
    refine ⟨_, _, rfl, G, F, η, ρ, _, η1, h1, R, r, fun σ1 H1 F1 st1 R1 w1 => ?_⟩
    refine ⟨G, F1, η1, ρ, _, η', h2, R1, rs, fun σ2 H2 F2 st2 R2 w2 => k σ2 H2 F2 (st1.trans st2) R2 fun vs hv => ?_⟩
    rw [w2 vs fun i hi => hv i (List.mem_append_right _ hi), w1 vs fun i hi => hv i (List.mem_append_left _ hi)]
def gmTup (n : Nat) (b : List D → Env → Option Env) : D → Env → Option Env := fun d η => match d with
  | .tup ds => if ds.length = n then b ds η else none
  | .ktup ds => if ds.length = n then b ds η else none
  | _ => none
theorem vg_tup {es : List Expr} {ts : List Nat} {b : List D → Env → Option Env} {k n : Nat} {pos : Pos} (hc : X.calm = true) (h : VGs X B ts es b)
    (hn : (assignEach es X.env).length = n := by rfl) (hst : (assignEach es X.env).findIdx? (·.1) = none := by rfl) : VG X B ts (.Tuple es k pos) (gmTup n b) := by
  refine pg_imp (pg_tup hc h hn hst) fun v σ H Q ⟨G, F, η, ρ, d, η', hm, R, r, k⟩ => ?_
  unfold gmTup at hm
  split at hm
  · split at hm
    · rename_i hl
      cases r with
      | tup h1 h2 => exact ⟨_, _, rfl, SqT.of (R.le.2 _ _ h1), by rw [h2.length]; exact hl, G, F, η, ρ, _, η', hm, R, h2, k⟩
    · cases hm
  · split at hm
    · rename_i hl
      cases r with
      | ktup h1 h2 => exact ⟨_, _, rfl, R.le.sqT h1.1, by rw [h2.length]; exact hl, G, F, η, ρ, _, η', hm, R, h2, k⟩
    · cases hm
  · cases hm
def mAsg (m : ME D) (tm : D → Env → Option Env) : MS := fun η => (m η).bind fun q => (tm q.1 q.2).bind fun η2 => some (.nx, η2)
theorem vs_asg {tg e : Expr} {p : Bool} {m : ME D} {ts : List Nat} {tm : D → Env → Option Env} {pos : Pos} (he : VE X B p e m) (hg : VG X B ts tg tm) (hs : swapsWithSole [tg] e pos.line X.env = pure false := by rfl) (hw : swappedStores [tg] e X.env = pure none := by rfl)
    (h1 : (assignEach [tg] X.env).map (·.2) = [assign tg X.env] := by rfl) : VS X B (.Assign [tg] e pos) (mAsg m tm) := by
  refine ps_imp (ps_asg he hg hs hw h1) fun D σ H ⟨G, F, η, ρ, r, η', hm, R, k⟩ => ?_
  simp only [mAsg, Option.bind_eq_some_iff] at hm
  obtain ⟨⟨d, η1⟩, h1, η2, h2, h3⟩ := hm
  cases h3
  refine ⟨G, F, η, ρ, d, η1, h1, R, fun v G1 H1 F1 st1 _ R1 r1 => ?_⟩
  exact ⟨G1, F1, η1, ρ, d, _, h2, R1, r1, fun σ2 H2 F2 st2 R2 _ => k σ2 G1 H2 F2 (st1.trans st2) R2⟩

/-! ### rows of new things -/
def rdNs (K : PySem.W.Frag) (B : List Nat) (m : ME (List O)) : TA := fun σ H Q => ∃ G F η ρ os η', m η = some (os, η') ∧ Rel K B ρ G H F η σ ∧
  ∀ vs G' H' F', Step G H (OwnP F) G' H' (OwnP F') → os.length = vs.length → Rel K B ρ G' H' F' (η' ++ os.map some) (σ ++ vs.map some) → Q vs H'
def VNs (X : Cx) (B : List Nat) (es : List Expr) (m : ME (List O)) : Prop := PA X es (rdNs X.K B m)
theorem vns_nil : VNs X B [] mNil := by
  refine pa_imp pa_nil fun σ H Q ⟨G, F, η, ρ, ds, η', hm, R, k⟩ => ?_
  cases hm
  exact k [] G H F (.refl _ _ _) rfl (by simpa using R)
theorem vns_cons {e : Expr} {es : List Expr} {p : Bool} {m : ME O} {ms : ME (List O)} (h : VN X B p e m) (hs : VNs X B es ms)
    (hst : starEach (e :: es) X.env = (false, eval e X.env) :: starEach es X.env := by rfl) : VNs X B (e :: es) (mCons m ms) := by
  refine pa_imp (pa_cons h hs hst) fun σ H Q ⟨G, F, η, ρ, ds, η', hm, R, k⟩ => ?_
  simp only [mCons, Option.bind_eq_some_iff] at hm
  obtain ⟨⟨o, η1⟩, h1, ⟨os, η2⟩, h2, h3⟩ := hm
  cases h3
  refine ⟨G, F, η, ρ, o, η1, h1, R, fun v G1 H1 F1 st1 pu1 R1 => ?_⟩
  have hb1 := R.lenN R1
  obtain ⟨R1', _, len1⟩ := R1.pop hb1
  refine ⟨G1, _, η1, ρ, os, η2, h2, R1', fun vs G2 H2 F2 st2 len2 R2 => ?_⟩
  have l2 : η2.length = σ.length := by have := R2.len; simp at this; omega
  obtain ⟨R3, st3⟩ := R1.join (B' := B) (ρ' := ρ) (η' := η2 ++ (o :: os).map some) (σ' := σ ++ (v :: vs).map some) R2 st2 (fun k => k ≠ η1.length) (fun b ⟨k, hk⟩ => ⟨k, fun e => by simp [e] at hk, by
      by_cases e : k = η1.length
      · simp [e] at hk
      · simpa [e] using hk⟩)
    (fun k => if k < η1.length then .new k else if k = η1.length then .old k else .new (k - 1)) (fun a b k h1 h2 => by
      try dsimp only at h1 h2
      split at h1 <;> split at h2
      · cases h1; cases h2; rfl
      · split at h2
        · cases h2
        · injection h1 with h1; injection h2 with h2; omega
      · split at h1
        · cases h1
        · injection h1 with h1; injection h2 with h2; omega
      · split at h1
        · cases h1
        · split at h2
          · cases h2
          · injection h1 with h1; injection h2 with h2; omega) (fun a b k h1 h2 => by
      try dsimp only at h1 h2
      split at h1
      · cases h1
      · split at h1
        · split at h2
          · cases h2
          · split at h2
            · cases h1; cases h2; rfl
            · cases h2
        · cases h1) (fun a k h => by
      try dsimp only at h
      split at h
      · cases h
      · split at h
        · rename_i q; cases h; simpa using q
        · cases h) (fun k q e => by
      have ll : η1.length = η2.length := by omega
      rcases Nat.lt_trichotomy k η1.length with hk | hk | hk
      · rw [List.getElem?_append_left (by omega)] at e
        simp only [hk, if_true]
        exact ⟨by rw [List.getElem?_append_left (by omega)]; exact e, by rw [List.getElem?_append_left (by omega), List.getElem?_append_left (by omega)]⟩
      · subst hk
        rw [List.getElem?_append_right (by omega)] at e
        simp [ll] at e; subst e
        simp only [Nat.lt_irrefl, if_false, if_true]
        refine ⟨by simp, ?_⟩
        rw [List.getElem?_append_right (by omega), List.getElem?_append_right (by omega)]
        simp [len1]
      · rw [List.getElem?_append_right (by omega)] at e
        simp only [Nat.not_lt_of_gt hk, Nat.ne_of_gt hk, if_false]
        have hk2 : k - η2.length = (k - 1 - η2.length) + 1 := by omega
        rw [List.map_cons, hk2, List.getElem?_cons_succ] at e
        refine ⟨by rw [List.getElem?_append_right (by omega)]; exact e, ?_⟩
        rw [List.getElem?_append_right (by omega), List.getElem?_append_right (by omega), show k - σ.length = (k - 1 - σ.length) + 1 by omega, List.map_cons, List.getElem?_cons_succ])
    (by simp; omega) (fun i hi => by
      have := R.bor i hi
      rw [List.getElem?_append_left (List.getElem?_eq_some_iff.mp this).1]; exact this)
  exact k (v :: vs) G2 H2 _ (st1.trans st3) (by simp [len2]) R3
def mPar2 (i j : Nat) (m : ME (List O)) : MS := fun η => (m η).bind fun q => match q.1 with
  | [a, b] => if i < q.2.length ∧ j < q.2.length then some (.nx, (q.2.set i (some a)).set j (some b)) else none
  | _ => none
theorem vs_par {i j : Nat} {x y : Str} {a b : Expr} {m : ME (List O)} {px py pt pos : Pos} {kt k2 pt2} (hc : X.calm = true) (hN : X.N.Nodup) (hi : X.N[i]? = some x) (hj : X.N[j]? = some y)
    (hx : X.env.scope.names.lookup x = some .local) (hy : X.env.scope.names.lookup y = some .local) (ha : VNs X B [a, b] m) (hij : i ≠ j := by decide) (hBi : i ∉ B := by decide) (hBj : j ∉ B := by decide)
    (hw : swappedStores [.Tuple [.Name x px, .Name y py] kt pt] (.Tuple [a, b] k2 pt2) X.env = pure (some [x, y]) := by rfl)
    (hs : swapsWithSole [.Tuple [.Name x px, .Name y py] kt pt] (.Tuple [a, b] k2 pt2) pos.line X.env = pure false := by rfl) :
    VS X B (.Assign [.Tuple [.Name x px, .Name y py] kt pt] (.Tuple [a, b] k2 pt2) pos) (mPar2 i j m) := by
  refine ps_imp (ps_par hc hN hi hj hij hx hy ha hw hs) fun D σ H ⟨G, F, η, ρ, r, η', hm, R, k⟩ => ?_
  simp only [mPar2, Option.bind_eq_some_iff] at hm
  obtain ⟨⟨os, η1⟩, h1, h2⟩ := hm
  split at h2
  · rename_i oa ob q
    have q : os = [oa, ob] := q
    subst q
    split at h2
    · rename_i hl
      cases h2
      try dsimp only at hl
      refine ⟨G, F, η, ρ, _, η1, h1, R, fun vs G1 H1 F1 st1 len R1 => ?_⟩
      obtain ⟨v, w, rfl⟩ : ∃ v w, vs = [v, w] := by
        match vs, len with
        | [v, w], _ => exact ⟨v, w, rfl⟩
      refine ⟨v, w, rfl, ?_⟩
      have e1 : η1 ++ [oa, ob].map some = (η1 ++ [some oa]) ++ [some ob] := by simp
      have e2 : σ ++ [v, w].map some = (σ ++ [some v]) ++ [some w] := by simp
      rw [e1, e2] at R1
      have hb : ∀ j ∈ B, j < η1.length := fun j hj => by
        have h1 := R.bIn j hj
        have h2 := R.len
        have h3 := R1.len
        simp at h3; omega
      have ln := R1.len
      simp at ln
      obtain ⟨F2, R2, st2⟩ := R1.move (i := j) (by simp; omega) hBj (fun k hk => by have := hb k hk; simp; omega)
      rw [List.set_append_left _ _ hl.2, List.set_append_left _ _ (by omega)] at R2
      obtain ⟨F3, R3, st3⟩ := R2.move (i := i) (by simpa using hl.1) hBi (fun k hk => by simpa using hb k hk)
      rw [List.set_comm _ _ (Ne.symm hij), List.set_comm _ _ (Ne.symm hij)] at R3
      exact k _ G1 H1 F3 ((st1.trans st2).trans st3) R3
    · cases h2
  · cases h2
def mPar3 (i j l : Nat) (m : ME (List O)) : MS := fun η => (m η).bind fun q => match q.1 with
  | [a, b, c] => if i < q.2.length ∧ j < q.2.length ∧ l < q.2.length then some (.nx, ((q.2.set i (some a)).set j (some b)).set l (some c)) else none
  | _ => none
theorem vs_par3 {i j l : Nat} {x y z : Str} {a b c : Expr} {m : ME (List O)} {px py pz pt pos : Pos} {kt k2 pt2} (hc : X.calm = true) (hN : X.N.Nodup) (hi : X.N[i]? = some x) (hj : X.N[j]? = some y) (hl : X.N[l]? = some z)
    (hx : X.env.scope.names.lookup x = some .local) (hy : X.env.scope.names.lookup y = some .local) (hz : X.env.scope.names.lookup z = some .local) (ha : VNs X B [a, b, c] m)
    (hij : i ≠ j := by decide) (hil : i ≠ l := by decide) (hjl : j ≠ l := by decide) (hBi : i ∉ B := by decide) (hBj : j ∉ B := by decide) (hBl : l ∉ B := by decide)
    (hw : swappedStores [.Tuple [.Name x px, .Name y py, .Name z pz] kt pt] (.Tuple [a, b, c] k2 pt2) X.env = pure (some [x, y, z]) := by rfl)
    (hs : swapsWithSole [.Tuple [.Name x px, .Name y py, .Name z pz] kt pt] (.Tuple [a, b, c] k2 pt2) pos.line X.env = pure false := by rfl) :
    VS X B (.Assign [.Tuple [.Name x px, .Name y py, .Name z pz] kt pt] (.Tuple [a, b, c] k2 pt2) pos) (mPar3 i j l m) := by
  refine ps_imp (ps_par3 hc hN hi hj hl hij hil hjl hx hy hz ha hw hs) fun D σ H ⟨G, F, η, ρ, r, η', hm, R, k⟩ => ?_
  simp only [mPar3, Option.bind_eq_some_iff] at hm
  obtain ⟨⟨os, η1⟩, h1, h2⟩ := hm
  split at h2
  · rename_i oa ob oc q
    have q : os = [oa, ob, oc] := q
    subst q
    split at h2
    · rename_i hl
      cases h2
      try dsimp only at hl
      refine ⟨G, F, η, ρ, _, η1, h1, R, fun vs G1 H1 F1 st1 len R1 => ?_⟩
      obtain ⟨u, v, w, rfl⟩ : ∃ u v w, vs = [u, v, w] := by
        match vs, len with
        | [u, v, w], _ => exact ⟨u, v, w, rfl⟩
      refine ⟨u, v, w, rfl, ?_⟩
      have e1 : η1 ++ [oa, ob, oc].map some = ((η1 ++ [some oa]) ++ [some ob]) ++ [some oc] := by simp
      have e2 : σ ++ [u, v, w].map some = ((σ ++ [some u]) ++ [some v]) ++ [some w] := by simp
      rw [e1, e2] at R1
      have hb : ∀ j ∈ B, j < η1.length := fun j hj => by
        have h1 := R.bIn j hj
        have h2 := R.len
        have h3 := R1.len
        simp at h3; omega
      have ln := R1.len
      simp at ln
      obtain ⟨F2, R2, st2⟩ := R1.move (i := l) (by simp; omega) hBl (fun k hk => by have := hb k hk; simp; omega)
      rw [List.set_append_left _ _ (by simp; omega), List.set_append_left _ _ hl.2.2, List.set_append_left _ _ (by simp; omega), List.set_append_left _ _ (by omega)] at R2
      obtain ⟨F3, R3, st3⟩ := R2.move (i := j) (by simp; omega) hBj (fun k hk => by have := hb k hk; simp; omega)
      rw [List.set_append_left _ _ (by simpa using hl.2.1), List.set_append_left _ _ (by simp; omega)] at R3
      obtain ⟨F4, R4, st4⟩ := R3.move (i := i) (by simpa using hl.1) hBi (fun k hk => by simpa using hb k hk)
      have ee : ∀ {α : Type} (q : List α) (x y z : α), ((q.set l z).set j y).set i x = ((q.set i x).set j y).set l z := fun q x y z => by
        rw [List.set_comm _ _ (Ne.symm hjl), List.set_comm _ _ (Ne.symm hil), List.set_comm _ _ (Ne.symm hij)]
      rw [ee, ee] at R4
      exact k _ G1 H1 F4 (((st1.trans st2).trans st3).trans st4) R4
    · cases h2
  · cases h2
end
end VL
end
section
set_option Elab.async false
set_option linter.all false
set_option maxRecDepth 100000
set_option maxHeartbeats 1000000
namespace VL
open PySem PySem.Spec PyProof.Rows L2

/-! ### what is walked -/
def ItS (K : PySem.W.Frag) (G0 : Hp) (J : It) (ds : List D) : Prop := ∀ G H, Le G0 G → Le G H →
  (∀ i, i < ds.length → J.go i H) ∧ (∀ i, ds.length ≤ i → J.stop i H) ∧ ∀ i x H' d, ds[i]? = some d → J.yld i H x H' → ∃ G', Grow G H G' H' ∧ Rep K G' x d
theorem ItS.mono {K : PySem.W.Frag} {G0 G1 : Hp} {J : It} {ds : List D} (h : ItS K G0 J ds) (l : Le G0 G1) : ItS K G1 J ds := fun G H a b => h G H (l.trans a) b
def rdI (K : PySem.W.Frag) (B : List Nat) (m : ME (List D)) : TI := fun σ H R => ∃ G F η ρ ds η', m η = some (ds, η') ∧ Rel K B ρ G H F η σ ∧
  ∀ J G' H' F', Step G H (OwnP F) G' H' (OwnP F') → Rel K B ρ G' H' F' η' σ → ItS K G' J ds → R J H'
def VI (X : Cx) (B : List Nat) (tg iter : Expr) (m : ME (List D)) : Prop := PI X tg iter (rdI X.K B m)
theorem pi_imp {X : Cx} {tg it : Expr} {t t' : TI} (h : PI X tg it t) (f : ∀ σ H R, t' σ H R → t σ H R) : PI X tg it t' := ⟨fun pins s σ H R I q => h.run pins s σ H R I (f _ _ _ q)⟩
theorem pi_or {X : Cx} {tg it : Expr} {t t' : TI} (h : PI X tg it t) (h' : PI X tg it t') : PI X tg it (fun σ H R => t σ H R ∨ t' σ H R) :=
  ⟨fun pins s σ H R I q => q.elim (fun q => h.run pins s σ H R I q) fun q => h'.run pins s σ H R I q⟩
section
variable {K : PySem.W.Frag} {G H : Hp}
theorem its_list {a : Addr} {vs : List V} {ds : List D} (h : SqL K G a vs) (r : Reps K G vs ds) : ItS K G (Itl K a) ds := fun G1 H1 l l1 => by
  have hH := (l1.sqL (l.sqL h))
  refine ⟨fun i hi => ?_, fun i hi => ⟨vs, hH, by rw [r.length]; exact hi⟩, fun i x H' d e y => ?_⟩
  · exact ⟨vs, vs[i]'(by rw [r.length]; exact hi), hH, List.getElem?_eq_getElem _⟩
  · obtain ⟨rfl, y⟩ := y
    have := y vs hH
    obtain ⟨v, e1, e2⟩ := r.get e
    rw [this] at e1; cases e1
    exact ⟨G1, .refl l1, e2.mono l⟩
theorem its_tup {a : Addr} {vs : List V} {ds : List D} (h : SqT K G a vs) (r : Reps K G vs ds) : ItS K G (Itt K a) ds := fun G1 H1 l l1 => by
  have hH := (l1.sqT (l.sqT h))
  refine ⟨fun i hi => ?_, fun i hi => ⟨vs, hH, by rw [r.length]; exact hi⟩, fun i x H' d e y => ?_⟩
  · exact ⟨vs, vs[i]'(by rw [r.length]; exact hi), hH, List.getElem?_eq_getElem _⟩
  · obtain ⟨rfl, y⟩ := y
    have := y vs hH
    obtain ⟨v, e1, e2⟩ := r.get e
    rw [this] at e1; cases e1
    exact ⟨G1, .refl l1, e2.mono l⟩
def signs (x : Str) : List D := x.cps.toList.map fun c => .str ⟨#[c]⟩
theorem its_str {x : Str} : ItS K G (Its x) (signs x) := fun G1 H1 l l1 => by
  have hl : (signs x).length = x.cps.size := by simp [signs]
  refine ⟨fun i hi => (by rw [hl] at hi; exact hi : i < x.cps.size), fun i hi => (by rw [hl] at hi; exact hi : x.cps.size ≤ i), fun i z H' d e y => ?_⟩
  obtain ⟨rfl, c, e1, rfl⟩ := y
  have e2 : (signs x)[i]? = some (.str ⟨#[c]⟩) := by
    unfold signs
    rw [List.getElem?_map, Array.getElem?_toList, e1]; rfl
  rw [e2] at e; cases e
  exact ⟨G1, .refl l1, .str _⟩
def intsD (lo : Int) (n : Nat) : List D := (List.range n).map fun i => .int (lo + (i : Nat))
theorem its_range {lo : Int} {n : Nat} : ItS K G (Itr lo n) (intsD lo n) := fun G1 H1 l l1 => by
  have hl : (intsD lo n).length = n := by simp [intsD]
  refine ⟨fun i hi => (by rw [hl] at hi; exact hi : i < n), fun i hi => (by rw [hl] at hi; exact hi : n ≤ i), fun i z H' d e y => ?_⟩
  obtain ⟨rfl, rfl⟩ := y
  unfold intsD at e
  rw [List.getElem?_map] at e
  obtain ⟨j, e1, rfl⟩ := Option.map_eq_some_iff.mp e
  have := List.getElem?_eq_some_iff.mp e1
  obtain ⟨hj, e2⟩ := this
  rw [List.getElem_range] at e2
  subst e2
  exact ⟨G1, .refl l1, .int _⟩
def zips (xs ys : List D) : List D := (xs.zip ys).map fun p => .tup [p.1, p.2]
theorem zips_get {xs ys : List D} {i : Nat} {d : D} (h : (zips xs ys)[i]? = some d) : ∃ x y, xs[i]? = some x ∧ ys[i]? = some y ∧ d = .tup [x, y] := by
  unfold zips at h
  rw [List.getElem?_map] at h
  obtain ⟨p, h1, rfl⟩ := Option.map_eq_some_iff.mp h
  have := List.getElem?_zip_eq_some.mp h1
  exact ⟨p.1, p.2, this.1, this.2, rfl⟩
theorem its_zipL {a b : Addr} {vs ws : List V} {ds es : List D} (h : SqL K G a vs) (r : Reps K G vs ds) (h' : SqL K G b ws) (r' : Reps K G ws es) : ItS K G (Itz K a b) (zips ds es) := fun G1 H1 l l1 => by
  have hH := (l1.sqL (l.sqL h))
  have hH' := (l1.sqL (l.sqL h'))
  have hl : (zips ds es).length = min vs.length ws.length := by simp [zips, r.length, r'.length]
  refine ⟨fun i hi => ?_, fun i hi => ⟨vs, ws, hH, hH', by omega⟩, fun i x H' d e y => ?_⟩
  · exact ⟨vs, ws, vs[i]'(by omega), ws[i]'(by omega), hH, hH', List.getElem?_eq_getElem _, List.getElem?_eq_getElem _⟩
  · obtain ⟨T, x1, y1, rfl, hT, rfl, e1, e2⟩ := y
    obtain ⟨p, q, g1, g2, rfl⟩ := zips_get e
    obtain ⟨v, k1, k2⟩ := r.get g1
    obtain ⟨w, k3, k4⟩ := r'.get g2
    rw [e1 vs hH] at k1; cases k1
    rw [e2 ws hH'] at k3; cases k3
    have g := Grow.new l1 (o := .tup [x1, y1]) hT
    exact ⟨_, g, .tup upd_same (.cons (k2.mono (l.trans g.le)) (.cons (k4.mono (l.trans g.le)) .nil))⟩
theorem its_zipT {a b : Addr} {vs ws : List V} {ds es : List D} (h : SqT K G a vs) (r : Reps K G vs ds) (h' : SqT K G b ws) (r' : Reps K G ws es) : ItS K G (RZ.ItzT K a b) (zips ds es) := fun G1 H1 l l1 => by
  have hH := (l1.sqT (l.sqT h))
  have hH' := (l1.sqT (l.sqT h'))
  have hl : (zips ds es).length = min vs.length ws.length := by simp [zips, r.length, r'.length]
  refine ⟨fun i hi => ?_, fun i hi => ⟨vs, ws, hH, hH', by omega⟩, fun i x H' d e y => ?_⟩
  · exact ⟨vs, ws, vs[i]'(by omega), ws[i]'(by omega), hH, hH', List.getElem?_eq_getElem _, List.getElem?_eq_getElem _⟩
  · obtain ⟨T, x1, y1, rfl, hT, rfl, e1, e2⟩ := y
    obtain ⟨p, q, g1, g2, rfl⟩ := zips_get e
    obtain ⟨v, k1, k2⟩ := r.get g1
    obtain ⟨w, k3, k4⟩ := r'.get g2
    rw [e1 vs hH] at k1; cases k1
    rw [e2 ws hH'] at k3; cases k3
    have g := Grow.new l1 (o := .tup [x1, y1]) hT
    exact ⟨_, g, .tup upd_same (.cons (k2.mono (l.trans g.le)) (.cons (k4.mono (l.trans g.le)) .nil))⟩
def enums (xs : List D) : List D := xs.mapIdx fun i x => .tup [.int (i : Nat), x]
theorem its_enum {a : Addr} {vs : List V} {ds : List D} (h : SqL K G a vs) (r : Reps K G vs ds) : ItS K G (Ite K a) (enums ds) := fun G1 H1 l l1 => by
  have hH := (l1.sqL (l.sqL h))
  have hl : (enums ds).length = vs.length := by simp [enums, r.length]
  refine ⟨fun i hi => ?_, fun i hi => ⟨vs, hH, by omega⟩, fun i x H' d e y => ?_⟩
  · exact ⟨vs, vs[i]'(by omega), hH, List.getElem?_eq_getElem _⟩
  · obtain ⟨T, x1, rfl, hT, rfl, e1⟩ := y
    unfold enums at e
    rw [List.getElem?_mapIdx] at e
    obtain ⟨p, g1, rfl⟩ := Option.map_eq_some_iff.mp e
    obtain ⟨v, k1, k2⟩ := r.get g1
    rw [e1 vs hH] at k1; cases k1
    have g := Grow.new l1 (o := .tup [.int (i : Nat), x1]) hT
    exact ⟨_, g, .tup upd_same (.cons (.int _) (.cons (k2.mono (l.trans g.le)) .nil))⟩
end
section
variable {X : Cx} {B : List Nat}
def itemsI : D → Option (List D)
  | .lst xs => some xs
  | .tup xs => some xs
  | .ktup xs => some xs
  | .str x => some (signs x)
  | _ => none
def mIter (m : ME D) : ME (List D) := fun η => (m η).bind fun q => (itemsI q.1).bind fun ds => some (ds, q.2)
theorem vi_seq {tg e : Expr} {p : Bool} {m : ME D} (h : VE X B p e m) : VI X B tg e (mIter m) := by
  refine pi_imp (pi_or (pi_list h) (pi_or (pi_tup h) (pi_str h))) fun σ H R ⟨G, F, η, ρ, ds, η', hm, R0, k⟩ => ?_
  simp only [mIter, Option.bind_eq_some_iff] at hm
  obtain ⟨⟨d, η1⟩, h1, ds', h2, h3⟩ := hm
  cases h3
  unfold itemsI at h2
  split at h2
  · cases h2
    rename_i q
    have q : d = .lst ds := q
    subst q
    refine .inl ⟨G, F, η, ρ, _, η1, h1, R0, fun v G1 H1 F1 st1 _ R1 r1 => ?_⟩
    cases r1 with
    | lst g1 g2 => exact ⟨_, rfl, ⟨_, R1.le.sqL g1⟩, k _ G1 H1 F1 st1 R1 (its_list g1 g2)⟩
  · cases h2
    rename_i q
    have q : d = .tup ds := q
    subst q
    refine .inr (.inl ⟨G, F, η, ρ, _, η1, h1, R0, fun v G1 H1 F1 st1 _ R1 r1 => ?_⟩)
    cases r1 with
    | tup g1 g2 => exact ⟨_, rfl, ⟨_, SqT.of (R1.le.2 _ _ g1)⟩, k _ G1 H1 F1 st1 R1 (its_tup (SqT.of g1) g2)⟩
  · cases h2
    rename_i q
    have q : d = .ktup ds := q
    subst q
    refine .inr (.inl ⟨G, F, η, ρ, _, η1, h1, R0, fun v G1 H1 F1 st1 _ R1 r1 => ?_⟩)
    cases r1 with
    | ktup g1 g2 => exact ⟨_, rfl, ⟨_, R1.le.sqT g1.1⟩, k _ G1 H1 F1 st1 R1 (its_tup g1.1 g2)⟩
  · rename_i x q
    have q : d = .str x := q
    subst q
    cases h2
    refine .inr (.inr ⟨G, F, η, ρ, _, η1, h1, R0, fun v G1 H1 F1 st1 _ R1 r1 => ?_⟩)
    cases r1
    exact ⟨_, rfl, k _ G1 H1 F1 st1 R1 its_str⟩
  · cases h2
def okR (i : Int) : Bool := decide (-4611686018427387904 ≤ i) && decide (i < 4611686018427387904)
theorem okR_of {i : Int} (h : okR i = true) : -(2 ^ 62) ≤ i ∧ i < 2 ^ 62 := by
  unfold okR at h
  rw [Bool.and_eq_true, decide_eq_true_eq, decide_eq_true_eq] at h
  exact ⟨by simpa using h.1, by simpa using h.2⟩
def rangeI1 : List D → Option (List D)
  | [.int j] => if okR j = true then some (intsD 0 j.toNat) else none
  | _ => none
def rangeI2 : List D → Option (List D)
  | [.int i, .int j] => if okR i = true ∧ okR j = true then some (intsD i (j - i).toNat) else none
  | _ => none
def mOver (f : List D → Option (List D)) (m : ME (List D)) : ME (List D) := fun η => (m η).bind fun q => (f q.1).bind fun ds => some (ds, q.2)
theorem vi_range1 {tg a : Expr} {q : Bool} {m : ME (List D)} {p pos : Pos} (hg : Gl X "range") (hm : X.mg "range" = none) (ha : VEs X B q [a] m) (hs : starEach [a] X.env = [(false, eval a X.env)] := by rfl) : VI X B tg (.Call (.Name "range" p) [a] [] pos) (mOver rangeI1 m) := by
  refine pi_imp (pi_range1 hg hm ha hs) fun σ H R ⟨G, F, η, ρ, ds, η', hm, R0, k⟩ => ?_
  simp only [mOver, Option.bind_eq_some_iff] at hm
  obtain ⟨⟨d, η1⟩, h1, ds', h2, h3⟩ := hm
  cases h3
  refine ⟨G, F, η, ρ, _, η1, h1, R0, fun vs G1 H1 F1 st1 _ R1 r1 => ?_⟩
  unfold rangeI1 at h2
  split at h2
  · rename_i j q
    split at h2
    · rename_i hj
      cases h2
      have q : d = [.int j] := q
      subst q
      cases r1 with | cons r rs =>
      cases rs; cases r
      obtain ⟨b1, b2⟩ := okR_of hj
      exact ⟨j, rfl, b1, b2, k _ G1 H1 F1 st1 R1 its_range⟩
    · cases h2
  · cases h2
theorem vi_range2 {tg a b : Expr} {q : Bool} {m : ME (List D)} {p pos : Pos} (hg : Gl X "range") (hm : X.mg "range" = none) (ha : VEs X B q [a, b] m) (hs : starEach [a, b] X.env = [(false, eval a X.env), (false, eval b X.env)] := by rfl)
    (hs2 : starEach [b] X.env = [(false, eval b X.env)] := by rfl) : VI X B tg (.Call (.Name "range" p) [a, b] [] pos) (mOver rangeI2 m) := by
  refine pi_imp (pi_range2 hg hm ha hs hs2) fun σ H R ⟨G, F, η, ρ, ds, η', hm, R0, k⟩ => ?_
  simp only [mOver, Option.bind_eq_some_iff] at hm
  obtain ⟨⟨d, η1⟩, h1, ds', h2, h3⟩ := hm
  cases h3
  refine ⟨G, F, η, ρ, _, η1, h1, R0, fun vs G1 H1 F1 st1 _ R1 r1 => ?_⟩
  unfold rangeI2 at h2
  split at h2
  · rename_i i j q
    split at h2
    · rename_i hj
      cases h2
      have q : d = [.int i, .int j] := q
      subst q
      cases r1 with | cons r rs =>
      cases rs with | cons r' rs =>
      cases rs; cases r; cases r'
      obtain ⟨b1, b2⟩ := okR_of hj.1
      obtain ⟨b3, b4⟩ := okR_of hj.2
      exact ⟨i, j, rfl, ⟨b1, b2, b3, b4⟩, k _ G1 H1 F1 st1 R1 its_range⟩
    · cases h2
  · cases h2
def tupItems : D → Option (List D)
  | .tup xs => some xs
  | .ktup xs => some xs
  | _ => none
theorem tupItems_rep {K : PySem.W.Frag} {G : Hp} {v : V} {d : D} {xs : List D} (r : Rep K G v d) (h : tupItems d = some xs) : ∃ a vs, v = .ref a ∧ SqT K G a vs ∧ Reps K G vs xs := by
  cases d <;> cases h
  · cases r with | tup h1 h2 => exact ⟨_, _, rfl, SqT.of h1, h2⟩
  · cases r with | ktup h1 h2 => exact ⟨_, _, rfl, h1.1, h2⟩
def zipI : List D → Option (List D)
  | [.lst xs, .lst ys] => some (zips xs ys)
  | [a, b] => (tupItems a).bind fun xs => (tupItems b).bind fun ys => some (zips xs ys)
  | _ => none
theorem vi_zip {e e2 : Expr} {q : Bool} {m : ME (List D)} {p pos tpos : Pos} {elts : List Expr} {kk : Nat} (hg : Gl X "zip") (hm : X.mg "zip" = none) (ha : VEs X B q [e, e2] m)
    (hs : starEach [e, e2] X.env = (false, eval e X.env) :: starEach [e2] X.env := by rfl) (hpl : (backTo pos (starEach [e2] X.env)).any (·.1) = false := by rfl) :
    VI X B (.Tuple elts kk tpos) (.Call (.Name "zip" p) [e, e2] [] pos) (mOver zipI m) := by
  refine pi_imp (RZ.pi_zipA hg hm ha hs hpl) fun σ H R ⟨G, F, η, ρ, ds, η', hm, R0, k⟩ => ?_
  simp only [mOver, Option.bind_eq_some_iff] at hm
  obtain ⟨⟨d, η1⟩, h1, ds', h2, h3⟩ := hm
  cases h3
  refine ⟨G, F, η, ρ, _, η1, h1, R0, fun vs G1 H1 F1 st1 _ R1 r1 => ?_⟩
  unfold zipI at h2
  split at h2
  · rename_i i j q
    cases h2
    have q : d = [.lst i, .lst j] := q
    subst q
    cases r1 with | cons r rs =>
    cases rs with | cons r' rs =>
    cases rs
    cases r with | lst a1 a2 =>
    cases r' with | lst b1 b2 =>
    exact ⟨_, _, _, _, rfl, .inl ⟨R1.le.sqL a1, R1.le.sqL b1, k _ G1 H1 F1 st1 R1 (its_zipL a1 a2 b1 b2)⟩⟩
  · rename_i a b _ q
    have q : d = [a, b] := q
    subst q
    obtain ⟨xs, e1, e2⟩ := Option.bind_eq_some_iff.mp h2
    obtain ⟨ys, e3, e4⟩ := Option.bind_eq_some_iff.mp e2
    cases e4
    cases r1 with | cons r rs =>
    cases rs with | cons r' rs =>
    cases rs
    obtain ⟨a1, vs1, rfl, g1, g2⟩ := tupItems_rep r e1
    obtain ⟨a2, vs2, rfl, g3, g4⟩ := tupItems_rep r' e3
    exact ⟨_, _, _, _, rfl, .inr ⟨R1.le.sqT g1, R1.le.sqT g3, k _ G1 H1 F1 st1 R1 (its_zipT g1 g2 g3 g4)⟩⟩
  · cases h2
def enumI : List D → Option (List D)
  | [.lst xs] => some (enums xs)
  | _ => none
theorem vi_enum {e : Expr} {q : Bool} {m : ME (List D)} {p pos tpos : Pos} {elts : List Expr} {kk : Nat} (hg : Gl X "enumerate") (hm : X.mg "enumerate" = none) (ha : VEs X B q [e] m)
    (hs : starEach [e] X.env = [(false, eval e X.env)] := by rfl) : VI X B (.Tuple elts kk tpos) (.Call (.Name "enumerate" p) [e] [] pos) (mOver enumI m) := by
  refine pi_imp (pi_enum hg hm ha hs) fun σ H R ⟨G, F, η, ρ, ds, η', hm, R0, k⟩ => ?_
  simp only [mOver, Option.bind_eq_some_iff] at hm
  obtain ⟨⟨d, η1⟩, h1, ds', h2, h3⟩ := hm
  cases h3
  refine ⟨G, F, η, ρ, _, η1, h1, R0, fun vs G1 H1 F1 st1 _ R1 r1 => ?_⟩
  unfold enumI at h2
  split at h2
  · rename_i i q
    cases h2
    have q : d = [.lst i] := q
    subst q
    cases r1 with | cons r rs =>
    cases rs
    cases r with | lst a1 a2 =>
    exact ⟨_, _, rfl, R1.le.sqL a1, k _ G1 H1 F1 st1 R1 (its_enum a1 a2)⟩
  · cases h2

/-! ### for -/
def mLoop (tm : D → Env → Option Env) (body : MS) : List D → MS
  | [] => fun η => some (.nx, η)
  | d :: ds => fun η => (tm d η).bind fun η1 => (body η1).bind fun q => match q.1 with
    | .nx => mLoop tm body ds q.2
    | .ct => mLoop tm body ds q.2
    | .bk => some (.nx, q.2)
    | .rt o => some (.rt o, q.2)
def mFor (mi : ME (List D)) (tm : D → Env → Option Env) (body : MS) : MS := fun η => (mi η).bind fun q => mLoop tm body q.1 q.2
theorem vs_for {tg iter : Expr} {body : List Stmt} {mi : ME (List D)} {ts : List Nat} {tm : D → Env → Option Env} {mb : MS} {pos : Pos} (hp : PassesOwn (model X.prog X.w) X.A X.env X.xe) (hc : X.calm = true) (hi : VI X B tg iter mi) (hg : VG X B ts tg tm) (hb : VSs X B body mb)
    (hs : ∀ x, foldedSetIterable iter X.env x = pure x := by intro _; rfl) : VS X B (.For tg iter body [] pos) (mFor mi tm mb) := by
  refine ps_imp (ps_for hp hc hi hg hb hs) fun D0 σ H ⟨G, F, η, ρ, r, η', hm, R, k⟩ => ?_
  simp only [mFor, Option.bind_eq_some_iff] at hm
  obtain ⟨⟨ds, η1⟩, h1, h2⟩ := hm
  refine ⟨G, F, η, ρ, ds, η1, h1, R, fun J G1 H1 F1 st1 R1 is => ?_⟩
  refine ⟨fun i m σ' H' => i + m = ds.length ∧ ∃ G' F' η2, Step G H (OwnP F) G' H' (OwnP F') ∧ Rel X.K B ρ G' H' F' η2 σ' ∧ Le G1 G' ∧ mLoop tm mb (ds.drop i) η2 = some (r, η'), ⟨ds.length, Nat.zero_add _, G1, F1, η1, st1, R1, .refl _, h2⟩, ?_⟩
  rintro i m σ2 H2 ⟨him, G2, F2, η2, st2, R2, l2, e2⟩
  obtain ⟨j1, j2, j3⟩ := is G2 H2 l2 R2.le
  cases q : ds[i]? with
  | none =>
    have hi := List.getElem?_eq_none_iff.mp q
    rw [List.drop_eq_nil_of_le hi] at e2
    cases e2
    exact .inl ⟨j2 i hi, k σ2 G2 H2 F2 st2 R2⟩
  | some d =>
    have hi := (List.getElem?_eq_some_iff.mp q).1
    rw [List.drop_eq_getElem_cons hi, (List.getElem?_eq_some_iff.mp q).2] at e2
    simp only [mLoop, Option.bind_eq_some_iff] at e2
    obtain ⟨η3, e3, ⟨r4, η4⟩, e4, e5⟩ := e2
    refine .inr ⟨j1 i hi, fun σ' H' => ∃ G' F' η5, Step G H (OwnP F) G' H' (OwnP F') ∧ Rel X.K B ρ G' H' F' η5 σ' ∧ Le G1 G' ∧ mLoop tm mb (ds.drop (i + 1)) η5 = some (r, η'), fun σ' H' h => ?_, fun x H3 y => ?_⟩
    · obtain ⟨G', F', η5, h⟩ := h
      exact ⟨m - 1, by omega, by omega, G', F', η5, h⟩
    · obtain ⟨G3, g3, r3⟩ := j3 i x H3 d q y
      have R3 := R2.grow g3
      refine ⟨G3, F2, η2, ρ, d, η3, e3, R3, r3, fun σ4 H4 F4 st4 R4 _ => ?_⟩
      have stA := (st2.trans (g3.step _)).trans st4
      refine ⟨G3, F4, η3, ρ, r4, η4, e4, R4, ?_⟩
      cases r4 with
      | nx => exact fun σ5 G5 H5 F5 st5 R5 => ⟨G5, F5, η4, stA.trans st5, R5, (l2.trans g3.le).trans st5.le, e5⟩
      | ct => exact fun σ5 G5 H5 F5 st5 R5 => ⟨G5, F5, η4, stA.trans st5, R5, (l2.trans g3.le).trans st5.le, e5⟩
      | bk => cases e5; exact fun σ5 G5 H5 F5 st5 R5 => k σ5 G5 H5 F5 (stA.trans st5) R5
      | rt o => cases e5; exact fun v σ5 G5 H5 F5 st5 R5 => k v σ5 G5 H5 F5 (stA.trans st5) R5
/-- a loop of at most n turns -/
def mWhile (c : ME Bool) (body : MS) : Nat → MS
  | 0 => fun _ => none
  | n + 1 => fun η => (c η).bind fun p => if p.1 = true then (body p.2).bind fun q => match q.1 with
    | .nx => mWhile c body n q.2
    | .ct => mWhile c body n q.2
    | .bk => some (.nx, q.2)
    | .rt o => some (.rt o, q.2) else some (.nx, p.2)
theorem vs_while {c : Expr} {body : List Stmt} {pc : Bool} {mc : ME Bool} {mb : MS} {pos : Pos} (n : Nat) (hp : PassesOwn (model X.prog X.w) X.A X.env X.xe) (hc : VT X B pc c mc) (hb : VSs X B body mb) : VS X B (.While c body [] pos) (mWhile mc mb n) := by
  refine ps_imp (ps_while hp hc hb) fun D0 σ H ⟨G, F, η, ρ, r, η', hm, R, k⟩ => ?_
  refine ⟨fun m σ' H' => ∃ G' F' η2, Step G H (OwnP F) G' H' (OwnP F') ∧ Rel X.K B ρ G' H' F' η2 σ' ∧ mWhile mc mb m η2 = some (r, η'), ⟨n, G, F, η, .refl _ _ _, R, hm⟩, ?_⟩
  rintro m σ2 H2 ⟨G2, F2, η2, st2, R2, e2⟩
  cases m with
  | zero => cases e2
  | succ m =>
    simp only [mWhile, Option.bind_eq_some_iff] at e2
    obtain ⟨⟨b, η3⟩, e3, e4⟩ := e2
    refine ⟨G2, F2, η2, ρ, b, η3, e3, R2, fun G3 H3 F3 st3 _ R3 => ?_⟩
    cases b with
    | false =>
      simp only [Bool.false_eq_true, if_false] at e4 ⊢
      cases e4
      exact k σ2 G3 H3 F3 (st2.trans st3) R3
    | true =>
      simp only [if_true, Option.bind_eq_some_iff] at e4 ⊢
      obtain ⟨⟨r4, η4⟩, e5, e6⟩ := e4
      refine ⟨fun σ' H' => ∃ G' F' η5, Step G H (OwnP F) G' H' (OwnP F') ∧ Rel X.K B ρ G' H' F' η5 σ' ∧ mWhile mc mb m η5 = some (r, η'), fun σ' H' h => ⟨m, Nat.lt_succ_self m, h⟩, ?_⟩
      refine ⟨G3, F3, η3, ρ, r4, η4, e5, R3, ?_⟩
      have stA := st2.trans st3
      cases r4 with
      | nx => exact fun σ5 G5 H5 F5 st5 R5 => ⟨G5, F5, η4, stA.trans st5, R5, e6⟩
      | ct => exact fun σ5 G5 H5 F5 st5 R5 => ⟨G5, F5, η4, stA.trans st5, R5, e6⟩
      | bk => cases e6; exact fun σ5 G5 H5 F5 st5 R5 => k σ5 G5 H5 F5 (stA.trans st5) R5
      | rt o => cases e6; exact fun v σ5 G5 H5 F5 st5 R5 => k v σ5 G5 H5 F5 (stA.trans st5) R5
end
end VL
end
section
set_option Elab.async false
set_option linter.all false
set_option maxRecDepth 100000
set_option maxHeartbeats 1000000
namespace VL
open PySem PySem.Spec PyProof.Rows L2

section
variable {K : PySem.W.Frag} {B : List Nat} {ρ : Nat → V} {G H G' H' : Hp} {F F' : Nat → List Addr} {η η' : Env} {σ : L2.St} {v : V} {o : O} {P P' : Addr → Prop}
theorem Step.or (S : Addr → Prop) (st : Step G H P G' H' P') : Step G H (fun b => P b ∨ S b) G' H' (fun b => P' b ∨ S b) where
  le := st.le
  gin := fun b h => by
    rcases st.gin b h with q | q | q | q
    · exact .inl q
    · exact .inr (.inl q)
    · exact .inr (.inr (.inl (.inl q)))
    · exact .inr (.inr (.inr q))
  keep := fun b o h n => st.keep b o h fun q => n (.inl q)
  there := st.there
  fin := fun b h => by
    rcases h with h | h
    · exact (st.fin b h).imp .inl id
    · exact .inl (.inr h)
theorem Step.aside {Dd : Addr} {w : List V} (st : Step G H P G' H' P') (hD : H Dd = some (.lst w)) (nP : ¬ P Dd) (nG : G Dd = none) : H' Dd = some (.lst w) ∧ ¬ P' Dd ∧ G' Dd = none := by
  refine ⟨st.keep _ _ hD nP, fun q => ?_, Classical.byContradiction fun n => ?_⟩
  · rcases st.fin _ q with q | q
    · exact nP q
    · rw [hD] at q; cases q
  · rcases st.gin _ n with q | q | q | q
    · exact q nG
    · rw [hD] at q; cases q
    · exact nP q
    · obtain ⟨xs, q⟩ := q; rw [hD] at q; cases q
theorem Step.sub {Pa Pb : Addr → Prop} (st : Step G H P G' H' P') (ha : ∀ b, P b → Pa b) (hb : ∀ b, Pb b → P' b) : Step G H Pa G' H' Pb where
  le := st.le
  gin := fun b h => by
    rcases st.gin b h with q | q | q | q
    · exact .inl q
    · exact .inr (.inl q)
    · exact .inr (.inr (.inl (ha b q)))
    · exact .inr (.inr (.inr q))
  keep := fun b o h n => st.keep b o h fun q => n (ha b q)
  there := st.there
  fin := fun b h => (st.fin b (hb b h)).imp (ha b) id
theorem Step.upd {Dd : Addr} {u : HO} (hP : P Dd) : Step G H P G (upd H Dd u) P where
  le := .refl G
  gin := fun b h => .inl h
  keep := fun b o h n => by
    have z : b ≠ Dd := fun e => n (by rw [e]; exact hP)
    rw [upd_ne z]; exact h
  there := fun b h => by
    by_cases e : b = Dd
    · subst e; rw [upd_same]; intro z; cases z
    · rw [upd_ne e]; exact h
  fin := fun b h => .inl h
/-- what is not ours and not known changes -/
theorem Rel.other {Dd : Addr} {u : HO} (R : Rel K B ρ G H F η σ) (hD : ¬ OwnP F Dd) (hG : G Dd = none) : Rel K B ρ G (L2.upd H Dd u) F η σ where
  le := R.le.write hG
  dis := R.dis
  ndi := R.ndi
  sep := R.sep
  slot := fun i o e => by
    obtain ⟨v, h1, h2⟩ := R.slot i o e
    refine ⟨v, h1, h2.mono (.refl G) fun b hb w h => ?_⟩
    have z : b ≠ Dd := fun e => hD ⟨i, by rw [← e]; exact hb⟩
    rw [upd_ne z]; exact h
  emp := R.emp
  len := R.len
  bor := R.bor
/-- one more slot, of things that stood aside -/
theorem Rel.adopt {f : List Addr} (R : Rel K B ρ G H F η σ) (hf : ∀ b ∈ f, ¬ OwnP F b ∧ G b = none) (nd : f.Nodup) (hn : OwnO K G H f v o) :
    ∃ F', Rel K B ρ G H F' (η ++ [some o]) (σ ++ [some v]) ∧ ∀ b, OwnP F' b → OwnP F b ∨ b ∈ f := by
  refine ⟨fun j => if j = η.length then f else F j, ⟨R.le, fun j b hb => ?_, fun j => ?_, fun j k b h1 h2 => ?_, fun j o' e => ?_, fun j hj => ?_, by rw [List.length_append, List.length_append, R.len]; rfl, fun i hi => ?_⟩, fun b ⟨j, hj⟩ => ?_⟩
  · by_cases e : j = η.length
    · subst e; simp only [if_true] at hb; exact (hf b hb).2
    · simp only [e, if_false] at hb; exact R.dis j b hb
  · by_cases e : j = η.length
    · subst e; simpa using nd
    · simpa [e] using R.ndi j
  · have key : ∀ j, b ∈ F j → b ∈ f → False := fun j h h' => (hf b h').1 ⟨j, h⟩
    by_cases ej : j = η.length <;> by_cases ek : k = η.length
    · rw [ej, ek]
    · subst ej; simp only [if_true] at h1; simp only [ek, if_false] at h2; exact (key k h2 h1).elim
    · subst ek; simp only [if_true] at h2; simp only [ej, if_false] at h1; exact (key j h1 h2).elim
    · simp only [ej, if_false] at h1; simp only [ek, if_false] at h2; exact R.sep j k b h1 h2
  · rcases Nat.lt_or_ge j η.length with h | h
    · rw [List.getElem?_append_left h] at e
      obtain ⟨v', h1, h2⟩ := R.slot j o' e
      refine ⟨v', by rw [List.getElem?_append_left (by rw [← R.len]; exact h)]; exact h1, ?_⟩
      simp only [Nat.ne_of_lt h, if_false]; exact h2
    · rw [List.getElem?_append_right h] at e
      have : j = η.length := by
        have := (List.getElem?_eq_some_iff.mp e).1
        simp at this; omega
      subst this
      simp at e; subst e
      exact ⟨v, by rw [List.getElem?_append_right (by rw [R.len]; exact Nat.le_refl _), R.len]; simp, by simpa using hn⟩
  · by_cases e : j = η.length
    · subst e; exact absurd (by simp) (hj o)
    · simp only [e, if_false]
      refine R.emp j fun o' h => hj o' ?_
      rw [List.getElem?_append_left (List.getElem?_eq_some_iff.mp h).1]; exact h
  · have := R.bor i hi
    rw [List.getElem?_append_left (List.getElem?_eq_some_iff.mp this).1]; exact this
  · by_cases e : j = η.length
    · subst e; exact .inr (by simpa using hj)
    · exact .inl ⟨j, by simpa [e] using hj⟩
end

/-! ### own names of a block -/
def wipeE (η : Env) : List Nat → Env
  | [] => η
  | v :: vs => (wipeE η vs).set v none
def calmE (η : Env) : List Nat → Bool
  | [] => true
  | v :: vs => (match η[v]? with
    | some (some (.s (.fro _))) => true
    | some (some _) => false
    | _ => true) && calmE η vs
def restE (η1 η2 : Env) : List Nat → Env
  | [] => η2
  | v :: vs => (restE η1 η2 vs).set v (η1[v]?.join)
theorem wipeE_length (η : Env) : ∀ vs : List Nat, (wipeE η vs).length = η.length
  | [] => rfl
  | v :: vs => by unfold wipeE; rw [List.length_set, wipeE_length η vs]
theorem wipeE_some {η : Env} {i : Nat} {o : O} : ∀ {vs : List Nat}, (wipeE η vs)[i]? = some (some o) → η[i]? = some (some o) ∧ i ∉ vs
  | [], h => ⟨h, by simp⟩
  | v :: vs, h => by
    unfold wipeE at h
    by_cases hi : v = i
    · subst hi
      by_cases hv : v < (wipeE η vs).length
      · rw [List.getElem?_set_self hv] at h; cases h
      · rw [List.getElem?_eq_none (by simpa using hv)] at h; cases h
    · rw [List.getElem?_set_ne hi] at h
      obtain ⟨h1, h2⟩ := wipeE_some h
      exact ⟨h1, by simp [Ne.symm hi, h2]⟩
theorem wipe_out {σ : L2.St} {i : Nat} : ∀ {vs : List Nat}, i ∉ vs → (wipe σ vs)[i]? = σ[i]?
  | [], _ => rfl
  | v :: vs, h => by
    unfold wipe
    have h1 : ¬ (i = v ∨ i ∈ vs) := fun q => h (List.mem_cons.mpr q)
    rw [List.getElem?_set_ne fun q => h1 (.inl q.symm), wipe_out fun q => h1 (.inr q)]
theorem wipe_wipe (σ : L2.St) (vs : List Nat) : ∀ us : List Nat, (∀ i ∈ us, i ∈ vs) → wipe (wipe σ us) vs = wipe σ vs
  | [], _ => rfl
  | u :: us, h => by
    rw [show wipe σ (u :: us) = (wipe σ us).set u none from rfl, wipe_set (h u List.mem_cons_self)]
    exact wipe_wipe σ vs us fun i hi => h i (List.mem_cons_of_mem _ hi)
theorem restE_length (η1 η2 : Env) : ∀ vs : List Nat, (restE η1 η2 vs).length = η2.length
  | [] => rfl
  | v :: vs => by unfold restE; rw [List.length_set, restE_length η1 η2 vs]
theorem restE_some {η1 η2 : Env} {i : Nat} {o : O} : ∀ {vs : List Nat}, (restE η1 η2 vs)[i]? = some (some o) → (i ∉ vs ∧ η2[i]? = some (some o)) ∨ (i ∈ vs ∧ η1[i]? = some (some o))
  | [], h => .inl ⟨by simp, h⟩
  | v :: vs, h => by
    unfold restE at h
    by_cases hi : v = i
    · subst hi
      by_cases hv : v < (restE η1 η2 vs).length
      · rw [List.getElem?_set_self hv] at h
        refine .inr ⟨List.mem_cons_self, ?_⟩
        cases q : η1[v]? with
        | none => rw [q] at h; cases h
        | some z => rw [q] at h; rw [show z = some o by simpa using h]
      · rw [List.getElem?_eq_none (by simpa using hv)] at h; cases h
    · rw [List.getElem?_set_ne hi] at h
      rcases restE_some h with ⟨h1, h2⟩ | ⟨h1, h2⟩
      · exact .inl ⟨by simp [Ne.symm hi, h1], h2⟩
      · exact .inr ⟨List.mem_cons_of_mem _ h1, h2⟩
theorem calmE_at {η : Env} {i : Nat} {o : O} : ∀ {vs : List Nat}, calmE η vs = true → i ∈ vs → η[i]? = some (some o) → ∃ d, o = .s (.fro d)
  | v :: vs, h, hi, e => by
    unfold calmE at h
    rw [Bool.and_eq_true] at h
    rcases List.mem_cons.mp hi with rfl | hi
    · have h1 := h.1
      rw [e] at h1
      split at h1
      · rename_i d q
        simp at q; exact ⟨d, q⟩
      · cases h1
      · rename_i q1 q2
        exact absurd rfl (q2 o)
    · exact calmE_at h.2 hi e
section
variable {K : PySem.W.Frag} {B : List Nat} {ρ : Nat → V} {G H G' H' : Hp} {F F' : Nat → List Addr} {η η' : Env} {σ : L2.St} {v : V} {o : O} {P P' : Addr → Prop}
theorem Rel.wipe (R : Rel K B ρ G H F η σ) (vs : List Nat) (hB : ∀ i ∈ vs, i ∉ B) : ∃ F', Rel K B ρ G H F' (wipeE η vs) (L2.wipe σ vs) ∧ Step G H (OwnP F) G H (OwnP F') := by
  refine R.keepSome (by rw [wipeE_length, wipe_length, R.len]) (fun i o e => ?_) fun i hi => wipe_out fun q => hB i q hi
  obtain ⟨h1, h2⟩ := wipeE_some e
  exact .inl ⟨h1, wipe_out h2⟩
theorem Rel.rest {G1 H1 : Hp} {F1 : Nat → List Addr} {η1 η2 : Env} (R1 : Rel K B ρ G1 H1 F1 η1 σ) (vs : List Nat) (R2 : Rel K B ρ G H F η2 (L2.wipe σ vs)) (l : Le G1 G) (hc : calmE η1 vs = true) (hB : ∀ i ∈ vs, i ∉ B) :
    ∃ F', Rel K B ρ G H F' (restE η1 η2 vs) σ ∧ Step G H (OwnP F) G H (OwnP F') := by
  refine R2.keepSome (by rw [restE_length, R2.len, wipe_length]) (fun i o e => ?_) fun i hi => (wipe_out fun q => hB i q hi).symm
  rcases restE_some e with ⟨h1, h2⟩ | ⟨h1, h2⟩
  · exact .inl ⟨h2, (wipe_out h1).symm⟩
  · obtain ⟨d, rfl⟩ := calmE_at hc h1 h2
    obtain ⟨v, e1, e2⟩ := R1.slot i _ h2
    exact .inr ⟨v, d, rfl, e1, e2.2.mono l⟩
end

/-! ### comprehensions -/
def VTs (X : Cx) (B : List Nat) (p : Bool) (ifs : List Expr) (m : ME Bool) : Prop := PTs X ifs (rdT X.K B p m)
def mYes : ME Bool := fun η => some (true, η)
theorem vts_nil {X : Cx} {B : List Nat} : VTs X B true [] mYes := ⟨fun pins s σ H Q I h => pts_nil.run pins s σ H Q I (by
  obtain ⟨G, F, η, ρ, b, η', hm, R, k⟩ := h
  cases hm
  exact k G H F (.refl _ _ _) (fun _ => .refl H) R)⟩
theorem vts_one {X : Cx} {B : List Nat} {c : Expr} {p : Bool} {m : ME Bool} (h : VT X B p c m) : VTs X B p [c] m := pts_one h
def lcLoop (own : List Nat) (tm : D → Env → Option Env) (mt : ME Bool) (me : ME D) : List D → Env → Option (List D × Env)
  | [], η => some ([], η)
  | d :: ds, η => (tm d η).bind fun η1 => (mt η1).bind fun q => if q.1 = true then (me q.2).bind fun z => (lcLoop own tm mt me ds (wipeE z.2 own)).bind fun r => some (z.1 :: r.1, r.2)
    else lcLoop own tm mt me ds (wipeE q.2 own)
def mLc (mi : ME (List D)) (own : List Nat) (tm : D → Env → Option Env) (mt : ME Bool) (me : ME D) : ME O := fun η => (mi η).bind fun p =>
  if calmE p.2 own = true ∧ p.1.length ≤ 16777216 then (lcLoop own tm mt me p.1 (wipeE p.2 own)).bind fun q => some (.s (.lst q.1), restE p.2 q.2 own) else none
theorem lc_imp {K : PySem.W.Frag} {B ts : List Nat} {mi : ME (List D)} {vs : List Nat} {tm : D → Env → Option Env} {pt p : Bool} {mt : ME Bool} {me : ME D} (hts : ∀ i ∈ ts, i ∈ vs) (hB : ∀ i ∈ vs, i ∉ B) (σ : L2.St) (H : Hp) (Q : VK)
    (h : rdN K B false (mLc mi vs tm mt me) σ H Q) : tLc (rdI K B mi) (rdG K B ts tm) (rdT K B pt mt) (rdE K B p me) vs σ H Q := by
  obtain ⟨G, F, η, ρ, o, η', hm, R, k⟩ := h
  simp only [mLc, Option.bind_eq_some_iff] at hm
  obtain ⟨⟨ds, η1⟩, h1, h2⟩ := hm
  split at h2
  · rename_i hcz
    obtain ⟨hcalm, hz⟩ := hcz
    dsimp only at hz
    obtain ⟨⟨rs, η2⟩, h3, h4⟩ := Option.bind_eq_some_iff.mp h2
    cases h4
    refine ⟨G, F, η, ρ, ds, η1, h1, R, fun J G1 H1 F1 st1 R1 is Dd hD => ?_⟩
    have g0 := Grow.lay R1.le (o := .lst []) hD
    have nD : ¬ OwnP F1 Dd := fun ⟨j, hj⟩ => R1.there j Dd hj hD
    have gD : G1 Dd = none := Grow.laid_none R1.le hD
    obtain ⟨Fw, Rw, stw⟩ := (R1.grow g0).wipe vs hB
    have nDw : ¬ OwnP Fw Dd := fun q => by
      rcases stw.fin Dd q with q | q
      · exact nD q
      · rw [upd_same] at q; cases q
    refine ⟨fun i m H' => i + m = ds.length ∧ ∃ G' F' η3 accv acc rs', Step G1 (upd H1 Dd (.lst [])) (fun b => OwnP F1 b ∨ b = Dd) G' H' (fun b => OwnP F' b ∨ b = Dd) ∧ Rel K B ρ G' H' F' η3 (wipe σ vs) ∧ H' Dd = some (.lst accv) ∧ Reps K G' accv acc ∧ acc.length ≤ i ∧
      ¬ OwnP F' Dd ∧ G' Dd = none ∧ lcLoop vs tm mt me (ds.drop i) η3 = some (rs', η2) ∧ rs = acc ++ rs', ⟨ds.length, Nat.zero_add _, G1, Fw, wipeE η1 vs, [], [], rs, stw.or _, Rw, upd_same, .nil, Nat.le_refl _, nDw, gD, h3, rfl⟩, ?_⟩
    rintro i m H2 ⟨him, G2, F2, η3, accv, acc, rs', st2, R2, hD2, ra, hl, nD2, gD2, e2, ers⟩
    obtain ⟨j1, j2, j3⟩ := is G2 H2 st2.le R2.le
    cases q : ds[i]? with
    | none =>
      have hi := List.getElem?_eq_none_iff.mp q
      rw [List.drop_eq_nil_of_le hi] at e2
      cases e2
      refine .inl ⟨j2 i hi, ?_⟩
      obtain ⟨F3, R3, st3⟩ := R1.rest vs R2 st2.le hcalm hB
      have nD3 : ¬ OwnP F3 Dd := (st3.aside hD2 nD2 gD2).2.1
      rw [List.append_nil] at ers; subst ers
      obtain ⟨F4, R4, own4⟩ := R3.adopt (f := [Dd]) (v := .ref Dd) (o := .s (.lst rs)) (fun b hb => by simp at hb; subst hb; exact ⟨nD3, gD2⟩) new_nd ⟨Dd, accv, rfl, rfl, hD2, ra⟩
      refine k (.ref Dd) G2 H2 F4 ?_ (fun z => by cases z) R4
      have s0 : Step G1 H1 (OwnP F1) G1 (upd H1 Dd (.lst [])) (fun b => OwnP F1 b ∨ b = Dd) := ⟨.refl G1, fun b h => .inl h, fun b u h _ => g0.keep b u h, g0.there, fun b h => by
        rcases h with h | h
        · exact .inl h
        · rw [h]; exact .inr hD⟩
      exact st1.trans ((s0.trans (st2.trans (st3.or fun b => b = Dd))).sub (fun b h => h) fun b h => by
        rcases own4 b h with h | h
        · exact .inl h
        · simp at h; exact .inr h)
    | some d =>
      have hi := (List.getElem?_eq_some_iff.mp q).1
      rw [List.drop_eq_getElem_cons hi, (List.getElem?_eq_some_iff.mp q).2] at e2
      simp only [lcLoop, Option.bind_eq_some_iff] at e2
      obtain ⟨η4, e4, ⟨b5, η5⟩, e5, e6⟩ := e2
      refine .inr ⟨j1 i hi, fun H' => ∃ G' F' η3 accv acc rs', Step G1 (upd H1 Dd (.lst [])) (fun b => OwnP F1 b ∨ b = Dd) G' H' (fun b => OwnP F' b ∨ b = Dd) ∧ Rel K B ρ G' H' F' η3 (wipe σ vs) ∧ H' Dd = some (.lst accv) ∧ Reps K G' accv acc ∧ acc.length ≤ i + 1 ∧
        ¬ OwnP F' Dd ∧ G' Dd = none ∧ lcLoop vs tm mt me (ds.drop (i + 1)) η3 = some (rs', η2) ∧ rs = acc ++ rs', fun H' h => ⟨m - 1, by omega, by omega, h⟩, fun x H3 y => ?_⟩
      obtain ⟨G3, g3, r3⟩ := j3 i x H3 d q y
      have R3 := R2.grow g3
      obtain ⟨hD3, nD3, gD3⟩ := (g3.step (OwnP F2)).aside hD2 nD2 gD2
      have st3 := st2.trans ((g3.step (OwnP F2)).or fun b => b = Dd)
      refine ⟨G3, F2, η3, ρ, d, η4, e4, R3, r3, fun σ4 H4 F4 st4 R4 w4 => ?_⟩
      have wv : wipe σ4 vs = wipe σ vs := by rw [w4 vs hts, wipe_wipe σ vs vs fun _ h => h]
      refine ⟨wv, G3, F4, η4, ρ, b5, η5, e5, R4, fun G5 H5 F5 st5 _ R5 => ?_⟩
      have st35 := st4.trans st5
      obtain ⟨hD5, nD5, gD5⟩ := st35.aside hD3 nD3 gD3
      have stA := st3.trans (st35.or fun b => b = Dd)
      cases b5 with
      | false =>
        simp only [Bool.false_eq_true, if_false] at e6 ⊢
        obtain ⟨F6, R6, st6⟩ := R5.wipe vs hB
        rw [wv] at R6
        exact ⟨G5, F6, _, accv, acc, rs', stA.trans (st6.or _), R6, hD5, ra.mono (g3.le.trans st35.le), by omega, (st6.aside hD5 nD5 gD5).2.1, gD5, e6, ers⟩
      | true =>
        simp only [if_true, Option.bind_eq_some_iff] at e6 ⊢
        obtain ⟨⟨z, η7⟩, e7, ⟨rz, η8⟩, e8, e9⟩ := e6
        cases e9
        refine ⟨G5, F5, η5, ρ, z, η7, e7, R5, fun v G7 H7 F7 st7 _ R7 r7 => ?_⟩
        obtain ⟨hD7, nD7, gD7⟩ := st7.aside hD5 nD5 gD5
        have stB := stA.trans (st7.or fun b => b = Dd)
        refine ⟨accv, hD7, ?_, ?_⟩
        · have := ra.length
          rw [sizeLine_eq]; omega
        · have R8 := R7.other (u := .lst (accv ++ [v])) nD7 gD7
          obtain ⟨F9, R9, st9⟩ := R8.wipe vs hB
          rw [wv] at R9
          have hD8 : (upd H7 Dd (.lst (accv ++ [v]))) Dd = some (.lst (accv ++ [v])) := upd_same
          refine ⟨G7, F9, _, accv ++ [v], acc ++ [z], rz, (stB.trans (Step.upd (.inr rfl))).trans (st9.or _), R9, hD8, ?_, by simp; omega, (st9.aside hD8 nD7 gD7).2.1, gD7, e8, by rw [ers]; simp⟩
          exact (ra.mono ((g3.le.trans st35.le).trans st7.le)).append (.one r7)
  · cases h2
section
variable {X : Cx} {B : List Nat}
theorem vn_lc {elt tg iter : Expr} {ifs : List Expr} {scope : Scope} {own : List (Str × Nat)} {pos : Pos} {mi : ME (List D)} {ts : List Nat} {tm : D → Env → Option Env} {pt p : Bool} {mt : ME Bool} {me : ME D} (hc : X.calm = true) (hN : X.N.Nodup) (hi : VI X B tg iter mi) (ok : BlkOk X.N X.env.scope scope own)
    (hg : ∀ (s : Shared) (H : Hp) (C : Addr) (cl : List (Str × Addr)) (fp : List Addr), VG (X.blk s H scope (compEnvC scope cl C X.env) fp) B ts tg tm) (ht : ∀ (s : Shared) (H : Hp) (C : Addr) (cl : List (Str × Addr)) (fp : List Addr), VTs (X.blk s H scope (compEnvC scope cl C X.env) fp) B pt ifs mt)
    (he : ∀ (s : Shared) (H : Hp) (C : Addr) (cl : List (Str × Addr)) (fp : List Addr), VE (X.blk s H scope (compEnvC scope cl C X.env) fp) B p elt me) (hts : ∀ i ∈ ts, i ∈ own.map (·.2) := by decide) (hB : ∀ i ∈ own.map (·.2), i ∉ B := by decide)
    (hs : ∀ x, foldedSetIterable iter X.env x = pure x := by intro _; rfl) : VN X B false (.ListComp elt [⟨tg, iter, ifs, 0⟩] scope pos) (mLc mi (own.map (·.2)) tm mt me) :=
  pe_imp (pe_lc (g := rdG X.K B ts tm) (tt := rdT X.K B pt mt) (te := rdE X.K B p me) hc hN hi ok hg ht he hs) fun σ H Q h => lc_imp hts hB σ H Q h
theorem vs_setLc {i : Nat} {y : Str} {py : Pos} {elt tg iter : Expr} {ifs : List Expr} {scope : Scope} {own : List (Str × Nat)} {pos spos : Pos} {mi : ME (List D)} {ts : List Nat} {tm : D → Env → Option Env} {pt p : Bool} {mt : ME Bool} {me : ME D} (hc : X.calm = true) (hN : X.N.Nodup) (hy : X.N[i]? = some y) (hyl : X.env.scope.names.lookup y = some .local)
    (hsw : swapsWith (.ListComp elt [⟨tg, iter, ifs, 0⟩] scope pos) (some (.Name y py)) spos.line X.env = pure true) (hi : VI X B tg iter mi) (ok : BlkOk X.N X.env.scope scope own)
    (hg : ∀ (s : Shared) (H : Hp) (C : Addr) (cl : List (Str × Addr)) (fp : List Addr), VG (X.blk s H scope (compEnvC scope cl C X.env) fp) B ts tg tm) (ht : ∀ (s : Shared) (H : Hp) (C : Addr) (cl : List (Str × Addr)) (fp : List Addr), VTs (X.blk s H scope (compEnvC scope cl C X.env) fp) B pt ifs mt)
    (he : ∀ (s : Shared) (H : Hp) (C : Addr) (cl : List (Str × Addr)) (fp : List Addr), VE (X.blk s H scope (compEnvC scope cl C X.env) fp) B p elt me) (hBi : i ∉ B := by decide) (hts : ∀ i ∈ ts, i ∈ own.map (·.2) := by decide) (hB : ∀ i ∈ own.map (·.2), i ∉ B := by decide)
    (hs : ∀ x, foldedSetIterable iter X.env x = pure x := by intro _; rfl) : VS X B (.Assign [.Name y py] (.ListComp elt [⟨tg, iter, ifs, 0⟩] scope pos) spos) (mSet i (mLc mi (own.map (·.2)) tm mt me)) := by
  refine ps_imp (ps_setLc (g := rdG X.K B ts tm) (tt := rdT X.K B pt mt) (te := rdE X.K B p me) hc hN hy hyl hsw hi ok hg ht he hs) fun D0 σ H ⟨G, F, η, ρ, r, η', hm, R, k⟩ => ?_
  simp only [mSet, Option.bind_eq_some_iff] at hm
  obtain ⟨⟨o, η1⟩, h1, h2⟩ := hm
  split at h2
  · rename_i hl
    cases h2
    refine lc_imp hts hB σ H _ ⟨G, F, η, ρ, o, η1, h1, R, fun v G' H' F' st _ R' => ?_⟩
    obtain ⟨F2, R2, st2⟩ := R'.move hl hBi (R.lenN R')
    exact k _ G' H' F2 (st.trans st2) R2
  · cases h2
end
end VL
end
section
set_option Elab.async false
set_option linter.all false
set_option maxRecDepth 100000
set_option maxHeartbeats 1000000
namespace VL
open PySem PySem.Spec PyProof.Rows L2

/-! ### a def as a function of what it is given -/
abbrev Fn := List O → Option (O × Env)
def rho0 : Nat → V := fun _ => .non
def keepB (n : Nat) (B : List Nat) (η : Env) : Env := (List.range n).map fun i => if i ∈ B then η[i]?.join else none
def fnRun (n N : Nat) (B : List Nat) (body : MS) : Fn := fun os => if os.length = n then (body (os.map some ++ List.replicate (N - n) none)).bind fun q => if n ≤ q.2.length then (match q.1 with
  | .rt o => some (o, keepB n B q.2)
  | .nx => some (.s (.fro .non), keepB n B q.2)
  | _ => none) else none else none
def spF (K : PySem.W.Frag) (run : Fn) : Sp := fun vs H Q _ => ∃ G F os r outs, run os = some (r, outs) ∧ Rel K [] rho0 G H F (os.map some) (vs.map some) ∧
  ∀ v G' H' F', Step G H (OwnP F) G' H' (OwnP F') → Rel K [] rho0 G' H' F' (outs ++ [some r]) (vs.map some ++ [some v]) → Q v H'

section
variable {K : PySem.W.Frag} {B : List Nat} {ρ : Nat → V} {G H : Hp} {F : Nat → List Addr} {η : Env} {σ : L2.St}
theorem keepB_get {n : Nat} {B : List Nat} {η : Env} {i : Nat} {o : O} (h : (keepB n B η)[i]? = some (some o)) : i < n ∧ i ∈ B ∧ η[i]? = some (some o) := by
  unfold keepB at h
  rw [List.getElem?_map] at h
  obtain ⟨j, h1, h2⟩ := Option.map_eq_some_iff.mp h
  have hj := (List.getElem?_eq_some_iff.mp h1)
  obtain ⟨hn, e⟩ := hj
  rw [List.getElem_range] at e
  subst e
  split at h2
  · rename_i hb
    refine ⟨by simpa using hn, hb, ?_⟩
    cases q : η[i]? with
    | none => rw [q] at h2; cases h2
    | some z => rw [q] at h2; rw [show z = some o by simpa using h2]
  · cases h2
theorem len_keepB {n : Nat} {B : List Nat} {η : Env} : (keepB n B η).length = n := by simp [keepB]
/-- the slots a def hands back, and its result -/
theorem Rel.back {n : Nat} {vs : List V} {v : V} {o : O} (R : Rel K B (fun i => vs.getD i .non) G H F (η ++ [some o]) (σ ++ [some v])) (hn : vs.length = n) (hB : ∀ i ∈ B, i < n) (hl : n ≤ η.length) :
    ∃ F', Rel K [] rho0 G H F' (keepB n B η ++ [some o]) (vs.map some ++ [some v]) ∧ Step G H (OwnP F) G H (OwnP F') := by
  have len : η.length = σ.length := by have := R.len; simp at this; exact this
  refine ⟨_, R.re (fun k => if k < n then .new k else if k = n then .new η.length else .fz) (fun a b k h1 h2 => ?_) (fun a k h => ?_) (fun k q e => ?_) (by simp [len_keepB, hn]) (fun k hk => by cases hk)⟩
  · try dsimp only at h1 h2
    split at h1 <;> split at h2
    · cases h1; cases h2; rfl
    · split at h2
      · cases h1; injection h2 with h2; omega
      · cases h2
    · split at h1
      · injection h1 with h1; injection h2 with h2; omega
      · cases h1
    · split at h1
      · split at h2
        · omega
        · cases h2
      · cases h1
  · try dsimp only at h
    split at h
    · cases h
    · split at h <;> cases h
  · rcases Nat.lt_or_ge k n with hk | hk
    · rw [List.getElem?_append_left (by rw [len_keepB]; exact hk)] at e
      obtain ⟨_, h2, h3⟩ := keepB_get e
      simp only [hk, if_true]
      have hkη := (List.getElem?_eq_some_iff.mp h3).1
      refine ⟨by rw [List.getElem?_append_left hkη]; exact h3, ?_⟩
      have hb := R.bor k h2
      rw [hb, List.getElem?_append_left (by simp; omega), List.getElem?_map]
      try dsimp only
      rw [List.getD_eq_getElem?_getD, List.getElem?_eq_getElem (by omega)]; rfl
    · rw [List.getElem?_append_right (by rw [len_keepB]; exact hk)] at e
      have hkn : k = n := by
        have := (List.getElem?_eq_some_iff.mp e).1
        simp [len_keepB] at this; omega
      subst hkn
      simp [len_keepB] at e; subst e
      simp only [Nat.lt_irrefl, if_false, if_true]
      refine ⟨by simp, ?_⟩
      rw [List.getElem?_append_right (by simp; omega), List.getElem?_append_right (by omega)]
      simp [hn, len]
end

theorem spF_len {K : PySem.W.Frag} {n N : Nat} {B : List Nat} {body : MS} {ps : List Str} (hps : ps.length = n) : ∀ vs H Q E, spF K (fnRun n N B body) vs H Q E → vs.length = ps.length := by
  rintro vs H Q E ⟨G, F, os, r, outs, hr, R, _⟩
  unfold fnRun at hr
  split at hr
  · rename_i h
    have := R.len
    simp at this; omega
  · cases hr
theorem start_eq {N : List Str} {vs : List V} : start N vs = vs.map some ++ List.replicate (N.length - vs.length) none := rfl
/-- a def -/
theorem fn_vl {CX : CXT} {P : Program} {w : World} {K : PySem.W.Frag} {mg : Str → Option Value} {base : Heap} {k : Nat} {f : Addr} {name qual : Str} {params : Arguments} {body : List Stmt} {scope : Scope} {dV kV doc pm cdv ct oc : Value} {an od : Option Addr}
    {osl : Array (Option Value)} {N ps : List Str} {n : Nat} {B : List Nat} {m : MS} (lk : K.lookup f = some ⟨oc, od, .func (PySem.W.fnOf name qual params body scope dV kV doc pm an cdv ct), osl⟩) (hcd : PySem.W.codeIn K cdv qual = true) (S : FnScope N ps scope) (hps : ps.length = n) (hB : ∀ i ∈ B, i < n)
    (hbody : ∀ (A : Around) (outer : List PySem.Env) (s : Shared) (H : Hp) (E : XK), Room k (A.deeper (envOfC qual scope s.heap.objs.size f cdv)) → VSs (cxOf CX P w K mg base N qual scope f cdv A outer s H E) B body m) :
    FnOk P w K mg base CX (k + 1) f (PySem.W.fnOf name qual params body scope dV kV doc pm an cdv ct) ps (spF K (fnRun n N.length B m)) := by
  refine fn_of lk hcd S (spF_len hps) fun A outer s H vs Q E hr hsp => ⟨_, hbody A outer s H E hr, ?_⟩
  obtain ⟨G, F, os, r, outs, hrun, R, k⟩ := hsp
  unfold fnRun at hrun
  split at hrun
  · rename_i hl
    have len : vs.length = n := by have := R.len; simp at this; omega
    obtain ⟨⟨q, η'⟩, h1, h2⟩ := Option.bind_eq_some_iff.mp hrun
    have hN : n ≤ N.length := by
      have := congrArg List.length S.pre
      rw [List.length_take] at this; omega
    have slotl : ∀ i, (os.map some ++ List.replicate (N.length - n) (none : Option O))[i]? = (if i < n then (os.map some)[i]? else if i < N.length then some none else none) := fun i => by
      by_cases hi : i < n
      · rw [List.getElem?_append_left (by simp; omega), if_pos hi]
      · rw [List.getElem?_append_right (by simp; omega), if_neg hi, List.getElem?_replicate]
        simp only [List.length_map, hl]
        by_cases h : i < N.length
        · rw [if_pos (by omega), if_pos h]
        · rw [if_neg (by omega), if_neg h]
    obtain ⟨R1, st1⟩ := R.re (B' := B) (ρ' := fun i => vs.getD i .non) (η' := os.map some ++ List.replicate (N.length - n) none) (σ' := start N vs) (fun i => .new i) (fun a b k h1 h2 => by cases h1; cases h2; rfl) (fun a k h => by cases h) (fun i o e => by
        rw [slotl] at e
        split at e
        · rename_i hi
          exact ⟨e, by rw [start_eq, List.getElem?_append_left (by simp; omega)]⟩
        · split at e <;> cases e) (by rw [start_eq]; simp [hl, len]) (fun i hi => by
        have := hB i hi
        rw [start_eq, List.getElem?_append_left (by simp; omega), List.getElem?_map]
        try dsimp only
        rw [List.getD_eq_getElem?_getD, List.getElem?_eq_getElem (by omega)]; rfl)
    refine ⟨G, _, _, _, q, η', h1, R1, ?_⟩
    split at h2
    rotate_left
    · cases h2
    rename_i lη
    have lη : n ≤ η'.length := lη
    cases q with
    | nx =>
      cases h2
      intro σ' G' H' F' st' R'
      have R2 := R'.push (f := []) (v := .non) (o := .s (.fro .non)) (.refl R'.le) (fun b hb => by cases hb) .nil ⟨rfl, .non⟩
      obtain ⟨F3, R3, st3⟩ := R2.back len hB lη
      refine k .non G' H' F3 ((st1.trans st').trans (Step.sub st3 (fun b hb => ?_) fun b hb => hb)) R3
      obtain ⟨j, hj⟩ := hb
      by_cases e : j = η'.length
      · simp [e] at hj
      · exact ⟨j, by simpa [e] using hj⟩
    | rt o =>
      cases h2
      intro v σ' G' H' F' st' R'
      obtain ⟨F3, R3, st3⟩ := R'.back len hB lη
      exact k v G' H' F3 ((st1.trans st').trans st3) R3
    | bk => cases h2
    | ct => cases h2
  · cases hrun

/-! ### calls -/
def argsO (η : Env) : List Opd → Option (List O)
  | [] => some []
  | .d x :: xs => (argsO η xs).bind fun os => some (.s (.fro x) :: os)
  | .loc i :: xs => (match η[i]? with
    | some (some o) => (argsO η xs).bind fun os => some (o :: os)
    | _ => none)
  | .fld _ _ :: _ => none
def locs : List Opd → List Nat
  | [] => []
  | .loc i :: xs => i :: locs xs
  | _ :: xs => locs xs
def backE (η : Env) : List Opd → Env → Env
  | [], _ => η
  | .loc i :: xs, outs => (backE η xs outs.tail).set i (outs.head?.join)
  | _ :: xs, outs => backE η xs outs.tail
theorem backE_length (η : Env) : ∀ (xs : List Opd) (outs : Env), (backE η xs outs).length = η.length
  | [], _ => rfl
  | .loc i :: xs, outs => by unfold backE; rw [List.length_set, backE_length η xs]
  | .d _ :: xs, outs => by unfold backE; exact backE_length η xs _
  | .fld _ _ :: xs, outs => by unfold backE; exact backE_length η xs _
theorem mem_locs {xs : List Opd} {i : Nat} : i ∈ locs xs ↔ ∃ j : Nat, xs[j]? = some (.loc i) := by
  induction xs with
  | nil => simp [locs]
  | cons x xs ih =>
    have key : (∃ j : Nat, (x :: xs)[j]? = some (.loc i)) ↔ x = .loc i ∨ ∃ j : Nat, xs[j]? = some (.loc i) := by
      constructor
      · rintro ⟨j, h⟩
        cases j with
        | zero => exact .inl (by simpa using h)
        | succ j => exact .inr ⟨j, by simpa using h⟩
      · rintro (h | ⟨j, h⟩)
        · exact ⟨0, by simpa using h⟩
        · exact ⟨j + 1, by simpa using h⟩
    rw [key]
    cases x with
    | d y => simp [locs, ih]
    | fld a b => simp [locs, ih]
    | loc k =>
      simp only [locs, List.mem_cons, ih]
      constructor
      · rintro (h | h)
        · exact .inl (by rw [h])
        · exact .inr h
      · rintro (h | h)
        · exact .inl (by injection h with h; exact h.symm)
        · exact .inr h
/-- each slot is handed on once -/
theorem locs_inj : ∀ {xs : List Opd}, (locs xs).Nodup → ∀ {a b i : Nat}, xs[a]? = some (.loc i) → xs[b]? = some (.loc i) → a = b
  | [], _, a, b, i, h, _ => by simp at h
  | x :: xs, nd, a, b, i, ha, hb => by
    have nd' : (locs xs).Nodup := by
      cases x with
      | loc k => exact (List.nodup_cons.mp (show (k :: locs xs).Nodup from nd)).2
      | d y => exact nd
      | fld p q => exact nd
    cases a with
    | zero =>
      cases b with
      | zero => rfl
      | succ b =>
        have ha : x = .loc i := by simpa using ha
        subst ha
        have := (List.nodup_cons.mp (show (i :: locs xs).Nodup from nd)).1
        exact absurd (mem_locs.mpr ⟨b, by simpa using hb⟩) this
    | succ a =>
      cases b with
      | zero =>
        have hb : x = .loc i := by simpa using hb
        subst hb
        have := (List.nodup_cons.mp (show (i :: locs xs).Nodup from nd)).1
        exact absurd (mem_locs.mpr ⟨a, by simpa using ha⟩) this
      | succ b => rw [locs_inj nd' (a := a) (b := b) (i := i) (by simpa using ha) (by simpa using hb)]
theorem backE_out {η : Env} {i : Nat} : ∀ {xs : List Opd} {outs : Env}, i ∉ locs xs → (backE η xs outs)[i]? = η[i]?
  | [], _, _ => rfl
  | .loc k :: xs, outs, h => by
    have h1 : ¬ (i = k ∨ i ∈ locs xs) := fun q => h (List.mem_cons.mpr q)
    unfold backE
    rw [List.getElem?_set_ne fun q => h1 (.inl q.symm)]
    exact backE_out fun q => h1 (.inr q)
  | .d _ :: xs, outs, h => by unfold backE; exact backE_out (xs := xs) h
  | .fld _ _ :: xs, outs, h => by unfold backE; exact backE_out (xs := xs) h
theorem backE_in {η : Env} {i : Nat} {o : O} : ∀ {xs : List Opd} {outs : Env}, i ∈ locs xs → (backE η xs outs)[i]? = some (some o) → ∃ j : Nat, xs[j]? = some (.loc i) ∧ outs[j]? = some (some o)
  | [], _, h, _ => by cases h
  | .loc k :: xs, outs, h, e => by
    unfold backE at e
    by_cases ek : k = i
    · subst ek
      have hk : k < (backE η xs outs.tail).length := by
        have := (List.getElem?_eq_some_iff.mp e).1
        simpa using this
      rw [List.getElem?_set_self hk] at e
      refine ⟨0, rfl, ?_⟩
      cases outs with
      | nil => simp at e
      | cons z zs =>
        have e : z = some o := by simpa using e
        simp [e]
    · rw [List.getElem?_set_ne ek] at e
      have h : i ∈ locs xs := by
        rcases List.mem_cons.mp h with q | q
        · exact absurd q.symm ek
        · exact q
      obtain ⟨j, h1, h2⟩ := backE_in h e
      exact ⟨j + 1, by simpa using h1, by simpa [List.getElem?_tail] using h2⟩
  | .d _ :: xs, outs, h, e => by
    unfold backE at e
    obtain ⟨j, h1, h2⟩ := backE_in (xs := xs) h e
    exact ⟨j + 1, by simpa using h1, by simpa [List.getElem?_tail] using h2⟩
  | .fld _ _ :: xs, outs, h, e => by
    unfold backE at e
    obtain ⟨j, h1, h2⟩ := backE_in (xs := xs) h e
    exact ⟨j + 1, by simpa using h1, by simpa [List.getElem?_tail] using h2⟩
theorem argsO_length {η : Env} : ∀ {xs : List Opd} {os : List O}, argsO η xs = some os → os.length = xs.length
  | [], os, h => by unfold argsO at h; cases h; rfl
  | .d x :: xs, os, h => by
    simp only [argsO, Option.bind_eq_some_iff] at h
    obtain ⟨os', h1, h2⟩ := h
    cases h2; simp [argsO_length h1]
  | .loc i :: xs, os, h => by
    simp only [argsO] at h
    split at h
    · obtain ⟨os', h1, h2⟩ := Option.bind_eq_some_iff.mp h
      cases h2; simp [argsO_length h1]
    · cases h
  | .fld _ _ :: _, _, h => by cases h
theorem argsO_get {η : Env} : ∀ {xs : List Opd} {os : List O} {j : Nat} {o : O}, argsO η xs = some os → os[j]? = some o → (∃ x, xs[j]? = some (.d x) ∧ o = .s (.fro x)) ∨ ∃ i, xs[j]? = some (.loc i) ∧ η[i]? = some (some o)
  | [], os, j, o, h, e => by unfold argsO at h; cases h; simp at e
  | .d x :: xs, os, j, o, h, e => by
    simp only [argsO, Option.bind_eq_some_iff] at h
    obtain ⟨os', h1, h2⟩ := h
    cases h2
    cases j with
    | zero => exact .inl ⟨x, rfl, by simpa using e.symm⟩
    | succ j =>
      rcases argsO_get (j := j) (o := o) h1 (by simpa using e) with ⟨y, q⟩ | ⟨i, q⟩
      · exact .inl ⟨y, by simpa using q⟩
      · exact .inr ⟨i, by simpa using q⟩
  | .loc i :: xs, os, j, o, h, e => by
    simp only [argsO] at h
    split at h
    · rename_i o' q'
      obtain ⟨os', h1, h2⟩ := Option.bind_eq_some_iff.mp h
      cases h2
      cases j with
      | zero => simp at e; subst e; exact .inr ⟨i, rfl, q'⟩
      | succ j =>
        rcases argsO_get (j := j) (o := o) h1 (by simpa using e) with ⟨y, q⟩ | ⟨i, q⟩
        · exact .inl ⟨y, by simpa using q⟩
        · exact .inr ⟨i, by simpa using q⟩
    · cases h
  | .fld _ _ :: _, _, _, _, h, _ => by cases h
theorem RepPs.length {K : PySem.W.Frag} {G H : Hp} {σ : L2.St} : ∀ {vs : List V} {xs : List Opd}, RepPs K G H σ vs xs → vs.length = xs.length
  | _, _, .nil => rfl
  | _, _, .cons _ h => by rw [List.length_cons, List.length_cons, RepPs.length h]
theorem RepPs.get {K : PySem.W.Frag} {G H : Hp} {σ : L2.St} : ∀ {vs : List V} {xs : List Opd} {j : Nat} {x : Opd}, RepPs K G H σ vs xs → xs[j]? = some x → ∃ v, vs[j]? = some v ∧ RepP K G H σ v x
  | _, _, j, _, .nil, e => by simp at e
  | _, _, 0, _, .cons h _, e => by simp at e; subst e; exact ⟨_, rfl, h⟩
  | _, _, j + 1, x, .cons _ h, e => by
    obtain ⟨v, h1, h2⟩ := RepPs.get (j := j) (x := x) h (by simpa using e)
    exact ⟨v, by simpa using h1, h2⟩
theorem call_core {K : PySem.W.Frag} {B : List Nat} {ρ : Nat → V} {G H : Hp} {F : Nat → List Addr} {η : Env} {σ : L2.St} {vs : List V} {xs : List Opd} {os : List O} (R : Rel K B ρ G H F η σ) (hp : RepPs K G H σ vs xs) (hos : argsO η xs = some os) (nd : (locs xs).Nodup) :
    ∃ Fc, Rel K [] rho0 G H Fc (os.map some) (vs.map some) ∧ ∀ v G' H' Fa r outs, Step G H (OwnP Fc) G' H' (OwnP Fa) → Rel K [] rho0 G' H' Fa (outs ++ [some r]) (vs.map some ++ [some v]) →
      ∃ F', Rel K B ρ G' H' F' (backE η xs outs ++ [some r]) (σ ++ [some v]) ∧ Step G H (OwnP F) G' H' (OwnP F') := by
  classical
  have lv := hp.length
  have lo := argsO_length hos
  obtain ⟨Rc, stc⟩ := R.re (B' := []) (ρ' := rho0) (η' := os.map some) (σ' := vs.map some) (fun j => match xs[j]? with
    | some (.loc i) => .new i
    | _ => .fz) (fun a b k h1 h2 => by
      try dsimp only at h1 h2
      split at h1
      · rename_i i1 e1
        split at h2
        · rename_i i2 e2
          cases h1; cases h2
          exact locs_inj nd e1 e2
        · cases h2
      · cases h1) (fun a k h => by
      try dsimp only at h
      split at h <;> cases h) (fun j o e => by
      rw [List.getElem?_map] at e
      obtain ⟨o', e1, e2⟩ := Option.map_eq_some_iff.mp e
      cases e2
      rcases argsO_get hos e1 with ⟨x, h1, rfl⟩ | ⟨i, h1, h2⟩
      · obtain ⟨v, g1, g2⟩ := hp.get h1
        simp only [h1]
        exact ⟨v, x, rfl, by rw [List.getElem?_map, g1]; rfl, g2⟩
      · obtain ⟨v, g1, g2⟩ := hp.get h1
        simp only [h1]
        exact ⟨h2, by rw [List.getElem?_map, g1]; exact g2.symm⟩) (by simp [lv, lo]) (fun i hi => by cases hi)
  refine ⟨_, Rc, fun v G' H' Fa r outs st Ra => ?_⟩
  have la : outs.length = vs.length := by have := Ra.len; simp at this; exact this
  have len := R.len
  have pick : ∀ i ∈ locs xs, ∃ j : Nat, xs[j]? = some (.loc i) := fun i h => mem_locs.mp h
  refine ⟨_, R.join (B' := B) (ρ' := ρ) (η' := backE η xs outs ++ [some r]) (σ' := σ ++ [some v]) Ra st (fun k => k ∈ locs xs) (fun b ⟨j, hj⟩ => ?_) (fun i => if i = σ.length then .new vs.length else if h : i ∈ locs xs then .new (pick i h).choose else .old i) (fun a b k h1 h2 => ?_) (fun a b k h1 h2 => ?_) (fun a k h => ?_) (fun i o e => ?_) (by simp [backE_length, len]) (fun i hi => ?_)⟩
  · obtain ⟨o, e, h | h⟩ := joinF_cases hj
    · obtain ⟨k, q1, q2⟩ := h
      try dsimp only at q1
      split at q1
      · rename_i i e'; cases q1; exact ⟨_, mem_locs.mpr ⟨j, e'⟩, q2⟩
      · cases q1
    · obtain ⟨k, q1, q2⟩ := h
      try dsimp only at q1
      split at q1 <;> cases q1
  · have jlt : ∀ i (h : i ∈ locs xs), (pick i h).choose < vs.length := fun i h => by
      have := (List.getElem?_eq_some_iff.mp (pick i h).choose_spec).1
      omega
    try dsimp only at h1 h2
    by_cases ea : a = σ.length <;> by_cases eb : b = σ.length
    · rw [ea, eb]
    · simp only [ea, eb, if_true, if_false] at h1 h2
      split at h2
      · rename_i h; have := jlt b h; injection h1 with h1; injection h2 with h2; omega
      · cases h2
    · simp only [ea, eb, if_true, if_false] at h1 h2
      split at h1
      · rename_i h; have := jlt a h; injection h1 with h1; injection h2 with h2; omega
      · cases h1
    · simp only [ea, eb, if_false] at h1 h2
      split at h1
      · rename_i ha
        split at h2
        · rename_i hb
          injection h1 with h1; injection h2 with h2
          have s1 := (pick a ha).choose_spec
          have s2 := (pick b hb).choose_spec
          rw [h1] at s1; rw [h2, s1] at s2
          injection s2 with s2; injection s2
        · cases h2
      · cases h1
  · try dsimp only at h1 h2
    split at h1
    · cases h1
    · split at h1
      · cases h1
      · split at h2
        · cases h2
        · split at h2
          · cases h2
          · cases h1; cases h2; rfl
  · try dsimp only at h
    split at h
    · cases h
    · split at h
      · cases h
      · rename_i q; cases h; exact q
  · by_cases ei : i = σ.length
    · subst ei
      rw [List.getElem?_append_right (by rw [backE_length]; omega)] at e
      simp [backE_length, len] at e; subst e
      simp only [if_true]
      refine ⟨?_, ?_⟩
      · rw [List.getElem?_append_right (by omega), la]; simp
      · rw [List.getElem?_append_right (Nat.le_refl _), List.getElem?_append_right (by simp)]; simp
    · have hi : i < η.length := by
        have := (List.getElem?_eq_some_iff.mp e).1
        simp [backE_length] at this; omega
      rw [List.getElem?_append_left (by rw [backE_length]; exact hi)] at e
      simp only [ei, if_false]
      by_cases h : i ∈ locs xs
      · simp only [h, dif_pos]
        have s := (pick i h).choose_spec
        obtain ⟨j, q1, q2⟩ := backE_in h e
        have : (pick i h).choose = j := locs_inj nd s q1
        rw [this]
        have hj : j < outs.length := (List.getElem?_eq_some_iff.mp q2).1
        obtain ⟨v', g1, g2⟩ := hp.get q1
        refine ⟨by rw [List.getElem?_append_left hj]; exact q2, ?_⟩
        rw [List.getElem?_append_left (by omega), List.getElem?_append_left (by simp; omega), List.getElem?_map, g1]
        exact g2
      · simp only [h, dif_neg, not_false_eq_true]
        rw [backE_out h] at e
        exact ⟨e, by rw [List.getElem?_append_left (by omega)]⟩
  · have := R.bor i hi
    rw [List.getElem?_append_left (List.getElem?_eq_some_iff.mp this).1]; exact this

section
variable {X : Cx} {B : List Nat} {CX : CXT} {k : Nat} {f C : Addr} {fd : FuncData} {ps : List Str} {run : Fn} {E : XK} {x mn : Str} {p pos apos : Pos} {e o : Expr} {es : List Expr} {q pp : Bool} {ms : ME (List Opd)}
def mCallF (run : Fn) (ms : ME (List Opd)) : ME O := fun η => (ms η).bind fun a => if (locs a.1).Nodup then (argsO a.2 a.1).bind fun os => (run os).bind fun r => some (r.1, backE a.2 a.1 r.2) else none
theorem callF_imp {K : PySem.W.Frag} {t : TA} {σ : L2.St} {H : Hp} {Q : VK} (ht : ∀ σ H Q, rdA K B pp ms σ H Q → t σ H Q) (h : rdN K B false (mCallF run ms) σ H Q) : tCall (spF K run) [] E t σ H Q := by
  obtain ⟨G, F, η, ρ, r, η', hm, R, k⟩ := h
  simp only [mCallF, Option.bind_eq_some_iff] at hm
  obtain ⟨⟨xs, η1⟩, h1, h2⟩ := hm
  split at h2
  · rename_i nd
    simp only [Option.bind_eq_some_iff] at h2
    obtain ⟨os, h3, ⟨r', outs⟩, h4, h5⟩ := h2
    cases h5
    refine ht σ H _ ⟨G, F, η, ρ, xs, η1, h1, R, fun vs G1 H1 F1 st1 pu1 R1 r1 => ?_⟩
    obtain ⟨Fc, Rc, after⟩ := call_core R1 r1 h3 nd
    show spF K run (vs ++ []) H1 Q E
    rw [List.append_nil]
    refine ⟨G1, Fc, os, _, outs, h4, Rc, fun v G' H' Fa st Ra => ?_⟩
    obtain ⟨F', R', st'⟩ := after v G' H' Fa _ outs st Ra
    exact k v G' H' F' (st1.trans st') (fun z => by cases z) R'
  · cases h2
theorem vn_callF (F : FnOk X.prog X.w X.K X.mg X.base CX k f fd ps (spF X.K run)) (hr : Room k X.A) (hg : Gl X x) (hm : X.mg x = some (.ref f)) (hk : PySem.W.keepIn X.K (.ref f) = true) (hb : Binds X.K fd ps []) (hx : Passes CX X E)
    (ha : VA X B q pp (e :: es) ms) (hdb : (x == ("__debug__" : Str)) = false := by decide) (he : starEach (e :: es) X.env = (false, eval e X.env) :: starEach es X.env := by rfl) (hpl : (backTo pos (starEach es X.env)).any (·.1) = false := by rfl) :
    VN X B false (.Call (.Name x p) (e :: es) [] pos) (mCallF run ms) :=
  pe_imp (pe_call (dvs := []) (ds := []) F hr hg hm hk hb .nil hx ha.run hdb he hpl) fun σ H Q h => callF_imp (pp := pp) (fun _ _ _ z => z) h
theorem vn_callF0 (F : FnOk X.prog X.w X.K X.mg X.base CX k f fd ps (spF X.K run)) (hr : Room k X.A) (hg : Gl X x) (hm : X.mg x = some (.ref f)) (hk : PySem.W.keepIn X.K (.ref f) = true) (hb : Binds X.K fd ps []) (hx : Passes CX X E)
    (hdb : (x == ("__debug__" : Str)) = false := by decide) : VN X B false (.Call (.Name x p) [] [] pos) (mCallF run mNil) :=
  pe_imp (pe_call0 (dvs := []) (ds := []) F hr hg hm hk hb .nil hx hdb) fun σ H Q h => callF_imp (pp := true) (ms := mNil) (fun σ H Q z => by
    obtain ⟨G, F, η, ρ, xs, η', hm, R, k⟩ := z
    cases hm
    exact k [] G H F (.refl _ _ _) (fun _ => .refl H) R .nil) h
/-- i.m(..) -/
def mMeth (C : Addr) (mn : Str) (i : Nat) (run : Fn) (ms : ME (List Opd)) : ME O := fun η => match η[i]? with
  | some (some (.ins C' fs)) => if C' = C ∧ fs.lookup mn = none then (ms η).bind fun a => if (locs (.loc i :: a.1)).Nodup then (argsO a.2 (.loc i :: a.1)).bind fun os => (run os).bind fun r => some (r.1, backE a.2 (.loc i :: a.1) r.2) else none else none
  | _ => none
theorem meth_imp {K : PySem.W.Frag} {i : Nat} {ta : TE} {t : TA} {σ : L2.St} {H : Hp} {Q : VK} (he : ∀ σ H Q, tVar i σ H Q → ta σ H Q) (ht : ∀ σ H Q, rdA K B pp ms σ H Q → t σ H Q) (h : rdN K B false (mMeth C mn i run ms) σ H Q) : tMeth C mn (spF K run) [] E ta t σ H Q := by
  obtain ⟨G, F, η, ρ, r, η', hm, R, k⟩ := h
  unfold mMeth at hm
  split at hm
  · rename_i C' fs q
    split at hm
    · rename_i hC
      obtain ⟨rfl, hC⟩ := hC
      obtain ⟨⟨xs, η1⟩, h1, h2⟩ := Option.bind_eq_some_iff.mp hm
      split at h2
      · rename_i nd
        simp only [Option.bind_eq_some_iff] at h2
        obtain ⟨os, h3, ⟨r', outs⟩, h4, h5⟩ := h2
        cases h5
        obtain ⟨v, e1, a, dx, vs, fps, rfl, e2, e3, e4⟩ := R.slot i _ q
        refine he σ H _ ⟨.ref a, e1, a, dx, vs, rfl, e3, (OwnF.get e4).2 hC, ?_⟩
        refine ht σ H _ ⟨G, F, η, ρ, xs, η1, h1, R, fun vs G1 H1 F1 st1 pu1 R1 r1 => ?_⟩
        obtain ⟨Fc, Rc, after⟩ := call_core R1 (.cons (v := .ref a) (x := .loc i) e1 r1) h3 nd
        show spF K run (V.ref a :: (vs ++ [])) H1 Q E
        rw [List.append_nil]
        refine ⟨G1, Fc, os, _, outs, h4, Rc, fun v G' H' Fa st Ra => ?_⟩
        obtain ⟨F', R', st'⟩ := after v G' H' Fa _ outs st Ra
        exact k v G' H' F' (st1.trans st') (fun z => by cases z) R'
      · cases h2
    · cases hm
  · cases hm
theorem vn_meth {i : Nat} {pl : Sem Bool} (he : PE X o (tVar i)) (c : Cls X.K C) (hm : Meth X.K C mn f) (F : FnOk X.prog X.w X.K X.mg X.base CX k f fd ps (spF X.K run)) (hr : Room k X.A) (hb : Binds X.K fd ps []) (hx : Passes CX X E) (ha : VA X B q pp (e :: es) ms)
    (hst : starEach (e :: es) X.env = (false, eval e X.env) :: starEach es X.env := by rfl) (hpl : (backTo pos (starEach es X.env)).any (·.1) = false := by rfl)
    (ht : eval (.Call (.Attribute o mn apos) (e :: es) [] pos) X.env = (do
      let ov ← eval o X.env
      standAt apos.atName
      let (f, first) ← holding [ov] (getMethod ov mn pl)
      callWith pos f first (backTo pos (starEach (e :: es) X.env)) (backToKw pos (keywordEach [] X.env))) := by rfl) :
    VN X B false (.Call (.Attribute o mn apos) (e :: es) [] pos) (mMeth C mn i run ms) :=
  pe_imp (pe_meth (dvs := []) (ds := []) he c hm F hr hb .nil hx ha.run hst hpl ht) fun σ H Q h => meth_imp (pp := pp) (fun _ _ _ z => z) (fun _ _ _ z => z) h
theorem vn_meth0 {i : Nat} {pl : Sem Bool} (he : PE X o (tVar i)) (c : Cls X.K C) (hm : Meth X.K C mn f) (F : FnOk X.prog X.w X.K X.mg X.base CX k f fd ps (spF X.K run)) (hr : Room k X.A) (hb : Binds X.K fd ps []) (hx : Passes CX X E)
    (ht : eval (.Call (.Attribute o mn apos) [] [] pos) X.env = (do
      let ov ← eval o X.env
      standAt apos.atName
      let (f, first) ← holding [ov] (getMethod ov mn pl)
      callWith pos f first (backTo pos (starEach [] X.env)) (backToKw pos (keywordEach [] X.env))) := by rfl) :
    VN X B false (.Call (.Attribute o mn apos) [] [] pos) (mMeth C mn i run mNil) :=
  pe_imp (pe_meth0 (dvs := []) (ds := []) he c hm F hr hb .nil hx ht) fun σ H Q h => meth_imp (pp := true) (ms := mNil) (fun _ _ _ z => z) (fun σ H Q z => by
    obtain ⟨G, F, η, ρ, xs, η', hm, R, k⟩ := z
    cases hm
    exact k [] G H F (.refl _ _ _) (fun _ => .refl H) R .nil) h
/-- C(..) -/
def mMake (C : Addr) (run : Fn) (ms : ME (List Opd)) : ME O := fun η => (ms η).bind fun a =>
  let η1 := a.2 ++ [some (O.ins C [])]
  let xs := .loc a.2.length :: a.1
  if (locs xs).Nodup then (argsO η1 xs).bind fun os => (run os).bind fun r => match r.1, (backE η1 xs r.2)[a.2.length]? with
    | .s (.fro .non), some (some o) => some (o, (backE η1 xs r.2).take a.2.length)
    | _, _ => none else none
theorem RepP.wider {K : PySem.W.Frag} {G H G' H' : Hp} {σ : L2.St} {v : V} {u : Option V} {x : Opd} (g : Grow G H G' H') (h : RepP K G H σ v x) : RepP K G' H' (σ ++ [u]) v x := by
  cases x with
  | d y => exact Rep.mono g.le h
  | loc i =>
    have h : σ[i]? = some (some v) := h
    show (σ ++ [u])[i]? = some (some v)
    rw [List.getElem?_append_left (List.getElem?_eq_some_iff.mp h).1]; exact h
  | fld i f =>
    obtain ⟨a, C, dx, vs, g1, g2, g3⟩ := h
    exact ⟨a, C, dx, vs, by rw [List.getElem?_append_left (List.getElem?_eq_some_iff.mp g1).1]; exact g1, g.keep _ _ g2, g3⟩
theorem RepPs.wider {K : PySem.W.Frag} {G H G' H' : Hp} {σ : L2.St} {u : Option V} (g : Grow G H G' H') : ∀ {vs : List V} {xs : List Opd}, RepPs K G H σ vs xs → RepPs K G' H' (σ ++ [u]) vs xs
  | _, _, .nil => .nil
  | _, _, .cons h hs => .cons (h.wider g) (RepPs.wider g hs)
theorem make_imp {K : PySem.W.Frag} {t : TA} {σ : L2.St} {H : Hp} {Q : VK} (ht : ∀ σ H Q, rdA K B pp ms σ H Q → t σ H Q) (h : rdN K B false (mMake C run ms) σ H Q) : tMake C (spF K run) [] E t σ H Q := by
  obtain ⟨G, F, η, ρ, r, η', hm, R, k⟩ := h
  simp only [mMake, Option.bind_eq_some_iff] at hm
  obtain ⟨⟨xs, η1⟩, h1, h2⟩ := hm
  split at h2
  · rename_i nd
    simp only [Option.bind_eq_some_iff] at h2
    obtain ⟨os, h3, ⟨r', outs⟩, h4, h5⟩ := h2
    split at h5
    · rename_i r0 o0 o1 q1 q2
      cases h5
      have q1 : r' = .s (.fro .non) := q1
      subst q1
      refine ht σ H _ ⟨G, F, η, ρ, xs, η1, h1, R, fun vs G1 H1 F1 st1 pu1 R1 r1 => fun xa dx hx hdx hne => ?_⟩
      have g1 := Grow.lay R1.le (o := .own xa) hdx
      have hx2 : (upd H1 dx (.own xa)) xa = none := by rw [upd_ne (Ne.symm hne)]; exact hx
      have g2 := Grow.lay g1.leH (o := .ins C dx []) hx2
      have g := g1.trans g2
      have R2 := R1.push (f := [xa]) (v := .ref xa) (o := .ins C []) g (fun b hb => by simp at hb; subst hb; exact ⟨hx, Grow.laid_none R1.le hx⟩) new_nd ⟨xa, dx, [], [], rfl, rfl, upd_same, .nil⟩
      have st2 := Step.push (F := F1) (f := [xa]) (n := η1.length) R1.out g (fun b hb => by simp at hb; subst hb; exact hx)
      obtain ⟨Fc, Rc, after⟩ := call_core R2 (.cons (v := .ref xa) (x := .loc η1.length) (show (σ ++ [some (V.ref xa)])[η1.length]? = some (some (.ref xa)) by
        rw [List.getElem?_append_right (by rw [R1.len]; exact Nat.le_refl _), R1.len]; simp) (r1.wider g)) h3 nd
      show spF K run (V.ref xa :: (vs ++ [])) _ _ E
      rw [List.append_nil]
      refine ⟨G1, Fc, os, _, outs, h4, Rc, fun v G' H' Fa st Ra => ?_⟩
      obtain ⟨F', R', st'⟩ := after v G' H' Fa _ outs st Ra
      have hbn : ∀ j ∈ B, j < (backE (η1 ++ [some (O.ins C [])]) (.loc η1.length :: xs) outs).length := fun j hj => by
        rw [backE_length]
        have := R2.bIn j hj
        exact this
      obtain ⟨R3, hv, _⟩ := R'.pop hbn
      refine ⟨by cases hv.2; rfl, ?_⟩
      have hl : (backE (η1 ++ [some (O.ins C [])]) (.loc η1.length :: xs) outs).length = η1.length + 1 := by rw [backE_length]; simp
      have split : backE (η1 ++ [some (O.ins C [])]) (.loc η1.length :: xs) outs = (backE (η1 ++ [some (O.ins C [])]) (.loc η1.length :: xs) outs).take η1.length ++ [some r] := by
        have e := List.take_append_drop η1.length (backE (η1 ++ [some (O.ins C [])]) (.loc η1.length :: xs) outs)
        rw [List.drop_eq_getElem_cons (by omega), (List.getElem?_eq_some_iff.mp q2).2, List.drop_eq_nil_of_le (by omega)] at e
        exact e.symm
      rw [split] at R3
      refine k (.ref xa) G' H' _ ((st1.trans (st2.trans st')).trans (Step.sub (Step.refl _ _ (OwnP F')) (fun b h => h) fun b ⟨j, hj⟩ => ?_)) (fun z => by cases z) R3
      try dsimp only at hj
      split at hj
      · cases hj
      · exact ⟨j, hj⟩
    · cases h5
  · cases h2
theorem vn_make (M : Mk X.K C f) (F : FnOk X.prog X.w X.K X.mg X.base CX k f fd ps (spF X.K run)) (hr : Room (k + 1) X.A) (hg : Gl X x) (hm : X.mg x = some (.ref C)) (hb : Binds X.K fd ps []) (hx : Passes CX X E)
    (ha : VA X B q pp (e :: es) ms) (hdb : (x == ("__debug__" : Str)) = false := by decide) (he : starEach (e :: es) X.env = (false, eval e X.env) :: starEach es X.env := by rfl) (hpl : (backTo pos (starEach es X.env)).any (·.1) = false := by rfl) :
    VN X B false (.Call (.Name x p) (e :: es) [] pos) (mMake C run ms) :=
  pe_imp (pe_make (dvs := []) (ds := []) M F hr hg hm hb .nil hx ha.run hdb he hpl) fun σ H Q h => make_imp (pp := pp) (fun _ _ _ z => z) h
end
end VL
end
section
set_option Elab.async false
set_option linter.all false
set_option maxRecDepth 100000
set_option maxHeartbeats 1000000
set_option autoImplicit false
namespace VL
open PySem PySem.Spec PyProof.Rows L2

theorem upd_self {H : Hp} {a : Addr} {u : HO} (h : H a = some u) : upd H a u = H := by
  funext b
  unfold upd
  split
  · rename_i e; rw [e, h]
  · rfl

/-! ### methods that change what they are called on -/
def kindT (T : String) : O1 → Bool
  | .lst _ => T == "list"
  | .dT _ => T == "dict"
  | .dK _ => T == "dict"
  | _ => false
def MutS (K : PySem.W.Frag) (r : V → List V → Hp → VK → Prop) (f : O1 → List D → Option (D × O1)) : Prop := ∀ (G H : Hp) (a : Addr) (u : HO) (o : O1) (vs : List V) (ds : List D) (d : D) (o' : O1) (Q : VK), f o ds = some (d, o') → H a = some u → Cel K G u o → Reps K G vs ds → Le G H →
  (∀ v u', Cel K G u' o' → Rep K G v d → Q v (upd H a u')) → r (.ref a) vs H Q
theorem kindT_ty {K : PySem.W.Frag} {G H : Hp} {a : Addr} {u : HO} {o : O1} {T : String} (h : kindT T o = true) (c : Cel K G u o) (hH : H a = some u) : tyV K T (.ref a) H := by
  cases o with
  | fro d => cases h
  | lst ds =>
    cases u <;> first | exact c.elim | skip
    exact .inl ⟨by simpa [kindT] using h, _, SqL.of hH⟩
  | dT ds =>
    cases u <;> first | exact c.elim | skip
    exact .inr (.inr (.inl ⟨by simpa [kindT] using h, .inr ⟨_, hH⟩⟩))
  | dK ds =>
    cases u <;> first | exact c.elim | skip
    exact .inr (.inr (.inl ⟨by simpa [kindT] using h, .inl ⟨_, hH⟩⟩))
theorem kindT_own {T : String} {o : O1} (h : kindT T o = true) : o.own = true := by
  cases o <;> first | cases h; done | rfl
section
variable {X : Cx} {B : List Nat}
def mMut (T : String) (f : O1 → List D → Option (D × O1)) (mo : ME Opd) (ms : ME (List D)) : ME D := fun η => (mo η).bind fun x => (cellAt x.2 x.1).bind fun o0 => if kindT T o0 = true then (ms x.2).bind fun q => (cellAt q.2 x.1).bind fun o => if o.own = true then (f o q.1).bind fun r => some (r.1, setAt q.2 x.1 r.2) else none else none
theorem ve_mut {o e : Expr} {es : List Expr} {name : Str} {apos cpos : Pos} {T id : String} {r : V → List V → Hp → VK → Prop} {f : O1 → List D → Option (D × O1)} {q p pp : Bool} {mo : ME Opd} {ms : ME (List D)}
    (pa : PlainAttrs T) (slot : Slot T name id) (hty : typeOf (.builtin id) = pure (.type "method_descriptor")) (hm : MtR X id r) (hs : MutS X.K r f) (ho : VO X B q p o mo) (ha : VEs X B pp (e :: es) ms) (hq : q = false ∨ pp = true := by decide)
    (hbase : attributeBase o name X.env (eval o X.env) = eval o X.env := by rfl)
    (hfew : ((backTo cpos (starEach (e :: es) X.env)).all (fun x => !x.1) && (backToKw cpos (keywordEach [] X.env)).all (fun x => x.1.isSome)
      && decide ((e :: es).length + ([] : List Keyword).length + (if ([] : List Keyword).isEmpty then 0 else 1) < 30)) = true := by rfl)
    (hline : (apos.endLine == cpos.line) = true := by rfl) (hst : starEach (e :: es) X.env = (false, eval e X.env) :: starEach es X.env := by rfl) (hplain : (backTo cpos (starEach es X.env)).any (·.1) = false := by rfl) :
    VE X B false (.Call (.Attribute o name apos) (e :: es) [] cpos) (mMut T f mo ms) := by
  refine pe_imp (pe_bm pa slot hty hm ho.run ha hbase hfew hline hst hplain) fun σ H Q ⟨G, F, η, ρ, d, η', hm, R, k⟩ => ?_
  simp only [mMut, Option.bind_eq_some_iff] at hm
  obtain ⟨⟨x, η1⟩, h1, o0, h2, h3⟩ := hm
  split at h3
  · rename_i hk
    obtain ⟨⟨ds, η2⟩, h4, h5⟩ := Option.bind_eq_some_iff.mp h3
    obtain ⟨oc, h6, h7⟩ := Option.bind_eq_some_iff.mp h5
    split at h7
    · rename_i how
      obtain ⟨⟨d', o'⟩, h8, h9⟩ := Option.bind_eq_some_iff.mp h7
      cases h9
      refine ⟨G, F, η, ρ, x, η1, h1, R, fun v G1 H1 F1 st1 _ R1 r1 => ?_⟩
      obtain ⟨a, u, rfl, e1, e2, _⟩ := R1.write h2 r1 (kindT_own hk)
      refine ⟨kindT_ty hk e2 e1, G1, F1, η1, ρ, ds, η2, h4, R1, fun vs G2 H2 F2 st2 pu2 R2 r2 => ?_⟩
      have r1' : RepP X.K G2 H2 σ (.ref a) x := r1.step st2 (by
        rcases hq with hq | hq
        · exact .inl (ho.nof hq _ _ _ h1)
        · exact .inr (pu2 hq))
      obtain ⟨a', u', e0, e3, e4, e5⟩ := R2.write h6 r1' how
      cases e0
      refine hs G2 H2 a u' oc vs ds _ o' Q h8 e3 e4 r2 R2.le fun v u2 c rd => ?_
      obtain ⟨F3, R3, st3⟩ := e5 u2 o' c
      exact k v G2 _ F3 ((st1.trans st2).trans st3) (fun z => by cases z) R3 rd
    · cases h7
  · cases h3
theorem ve_mut0 {o : Expr} {name : Str} {apos cpos : Pos} {T id : String} {r : V → List V → Hp → VK → Prop} {f : O1 → List D → Option (D × O1)} {q p : Bool} {mo : ME Opd}
    (pa : PlainAttrs T) (slot : Slot T name id) (hty : typeOf (.builtin id) = pure (.type "method_descriptor")) (hm : MtR X id r) (hs : MutS X.K r f) (ho : VO X B q p o mo)
    (hbase : attributeBase o name X.env (eval o X.env) = eval o X.env := by rfl) (hline : (apos.endLine == cpos.line) = true := by rfl) :
    VE X B false (.Call (.Attribute o name apos) [] [] cpos) (mMut T f mo mNil) := by
  refine pe_imp (pe_bm0 pa slot hty hm ho.run hbase hline) fun σ H Q ⟨G, F, η, ρ, d, η', hm, R, k⟩ => ?_
  simp only [mMut, Option.bind_eq_some_iff] at hm
  obtain ⟨⟨x, η1⟩, h1, o0, h2, h3⟩ := hm
  split at h3
  · rename_i hk
    obtain ⟨⟨ds, η2⟩, h4, h5⟩ := Option.bind_eq_some_iff.mp h3
    cases h4
    obtain ⟨oc, h6, h7⟩ := Option.bind_eq_some_iff.mp h5
    split at h7
    · rename_i how
      obtain ⟨⟨d', o'⟩, h8, h9⟩ := Option.bind_eq_some_iff.mp h7
      cases h9
      refine ⟨G, F, η, ρ, x, _, h1, R, fun v G1 H1 F1 st1 _ R1 r1 => ?_⟩
      obtain ⟨a, u, rfl, e1, e2, e5⟩ := R1.write h6 r1 how
      have hk' : kindT T oc = true := by
        have h2' : cellAt η1 x = some o0 := h2
        have h6' : cellAt η1 x = some oc := h6
        rw [h2'] at h6'; cases h6'; exact hk
      refine ⟨kindT_ty hk' e2 e1, ?_⟩
      refine hs G1 H1 a u oc [] [] _ o' Q h8 e1 e2 .nil R1.le fun v u2 c rd => ?_
      obtain ⟨F3, R3, st3⟩ := e5 u2 o' c
      exact k v G1 _ F3 (st1.trans st3) (fun z => by cases z) R3 rd
    · cases h7
  · cases h3
def dAppend : O1 → List D → Option (D × O1)
  | .lst xs, [y] => if xs.length < 16777216 then some (.non, .lst (xs ++ [y])) else none
  | _, _ => none
theorem ms_append {K : PySem.W.Frag} : MutS K rAppend dAppend := by
  intro G H a u o vs ds d o' Q hf hH c rs l k
  unfold dAppend at hf
  split at hf
  · split at hf
    · rename_i hz
      cases hf
      cases u <;> first | exact c.elim | skip
      rename_i xs y ws
      cases rs with | cons r rs =>
      cases rs
      have c : Reps K G ws xs := c
      exact ⟨a, ws, _, rfl, rfl, hH, by rw [sizeLine_eq, c.length]; exact hz, k .non (.lst (ws ++ [_])) (c.append (.one r)) .non⟩
    · cases hf
  · cases hf
def dPopL : O1 → List D → Option (D × O1)
  | .lst xs, [] => (xs[xs.length - 1]?).bind fun y => some (y, .lst xs.dropLast)
  | _, _ => none
theorem Reps.dropLast {K : PySem.W.Frag} {G : Hp} : ∀ {vs : List V} {ds : List D}, Reps K G vs ds → Reps K G vs.dropLast ds.dropLast := fun {vs ds} h => by
  rw [List.dropLast_eq_take, List.dropLast_eq_take, h.length]; exact h.take _
theorem ms_popL {K : PySem.W.Frag} : MutS K rPop dPopL := by
  intro G H a u o vs ds d o' Q hf hH c rs l k
  unfold dPopL at hf
  split at hf
  · obtain ⟨y, h1, h2⟩ := Option.bind_eq_some_iff.mp hf
    cases h2
    cases u <;> first | exact c.elim | skip
    rename_i xs ws
    cases rs
    have c : Reps K G ws xs := c
    obtain ⟨v, e1, e2⟩ := c.get h1
    exact ⟨a, ws, v, rfl, rfl, hH, by rw [c.length]; exact e1, k v (.lst ws.dropLast) c.dropLast e2⟩
  · cases hf
def dropT {κ α : Type} [DecidableEq κ] (kvs : List (κ × α)) (k : κ) : List (κ × α) := kvs.filter fun kv => decide (kv.1 ≠ k)
def putT {κ α : Type} [DecidableEq κ] (kvs : List (κ × α)) (k : κ) (v : α) : List (κ × α) := if (kvs.any fun kv => decide (kv.1 = k)) = true then kvs.map (fun kv => if kv.1 = k then (kv.1, v) else kv) else kvs ++ [(k, v)]
theorem RepT.drop {K : PySem.W.Frag} {G : Hp} (k : List Key) : ∀ {vs : List (List Key × V)} {ds : List (List Key × D)}, RepT K G vs ds → RepT K G (dropK vs k) (dropT ds k)
  | _, _, .nil => .nil
  | _, _, .cons (k := j) (v := v) (d := d) (vs := vs) (ds := ds) h hs => by
    have ih := RepT.drop k hs
    unfold dropK dropT at ih ⊢
    by_cases e : j = k
    · simpa [e] using ih
    · simpa [e] using RepT.cons h ih
theorem RepK.drop {K : PySem.W.Frag} {G : Hp} (k : Key) : ∀ {vs : List (Key × V)} {ds : List (Key × D)}, RepK K G vs ds → RepK K G (dropK vs k) (dropT ds k)
  | _, _, .nil => .nil
  | _, _, .cons (k := j) (v := v) (d := d) (vs := vs) (ds := ds) h hs => by
    have ih := RepK.drop k hs
    unfold dropK dropT at ih ⊢
    by_cases e : j = k
    · simpa [e] using ih
    · simpa [e] using RepK.cons h ih
theorem RepT.append {K : PySem.W.Frag} {G : Hp} : ∀ {vs ws : List (List Key × V)} {ds es : List (List Key × D)}, RepT K G vs ds → RepT K G ws es → RepT K G (vs ++ ws) (ds ++ es)
  | _, _, _, _, .nil, h => h
  | _, _, _, _, .cons h hs, g => .cons h (RepT.append hs g)
theorem RepK.append {K : PySem.W.Frag} {G : Hp} : ∀ {vs ws : List (Key × V)} {ds es : List (Key × D)}, RepK K G vs ds → RepK K G ws es → RepK K G (vs ++ ws) (ds ++ es)
  | _, _, _, _, .nil, h => h
  | _, _, _, _, .cons h hs, g => .cons h (RepK.append hs g)
theorem RepT.any {K : PySem.W.Frag} {G : Hp} (k : List Key) : ∀ {vs : List (List Key × V)} {ds : List (List Key × D)}, RepT K G vs ds → (vs.any fun kv => decide (kv.1 = k)) = ds.any fun kv => decide (kv.1 = k)
  | _, _, .nil => rfl
  | _, _, .cons _ hs => by rw [List.any_cons, List.any_cons, RepT.any k hs]
theorem RepK.any {K : PySem.W.Frag} {G : Hp} (k : Key) : ∀ {vs : List (Key × V)} {ds : List (Key × D)}, RepK K G vs ds → (vs.any fun kv => decide (kv.1 = k)) = ds.any fun kv => decide (kv.1 = k)
  | _, _, .nil => rfl
  | _, _, .cons _ hs => by rw [List.any_cons, List.any_cons, RepK.any k hs]
theorem RepT.over {K : PySem.W.Frag} {G : Hp} (k : List Key) {y : V} {z : D} (r : Rep K G y z) : ∀ {vs : List (List Key × V)} {ds : List (List Key × D)}, RepT K G vs ds → RepT K G (vs.map fun kv => if kv.1 = k then (kv.1, y) else kv) (ds.map fun kv => if kv.1 = k then (kv.1, z) else kv)
  | _, _, .nil => .nil
  | _, _, .cons (k := j) h hs => by
    rw [List.map_cons, List.map_cons]
    by_cases e : j = k
    · simpa [e] using RepT.cons r (RepT.over k r hs)
    · simpa [e] using RepT.cons h (RepT.over k r hs)
theorem RepK.over {K : PySem.W.Frag} {G : Hp} (k : Key) {y : V} {z : D} (r : Rep K G y z) : ∀ {vs : List (Key × V)} {ds : List (Key × D)}, RepK K G vs ds → RepK K G (vs.map fun kv => if kv.1 = k then (kv.1, y) else kv) (ds.map fun kv => if kv.1 = k then (kv.1, z) else kv)
  | _, _, .nil => .nil
  | _, _, .cons (k := j) h hs => by
    rw [List.map_cons, List.map_cons]
    by_cases e : j = k
    · simpa [e] using RepK.cons r (RepK.over k r hs)
    · simpa [e] using RepK.cons h (RepK.over k r hs)
theorem RepT.put {K : PySem.W.Frag} {G : Hp} {k : List Key} {y : V} {z : D} (r : Rep K G y z) {vs : List (List Key × V)} {ds : List (List Key × D)} (h : RepT K G vs ds) : RepT K G (putK vs k y) (putT ds k z) := by
  unfold putK putT
  rw [h.any k]
  split
  · exact h.over k r
  · exact h.append (.cons r .nil)
theorem RepK.put {K : PySem.W.Frag} {G : Hp} {k : Key} {y : V} {z : D} (r : Rep K G y z) {vs : List (Key × V)} {ds : List (Key × D)} (h : RepK K G vs ds) : RepK K G (putK vs k y) (putT ds k z) := by
  unfold putK putT
  rw [h.any k]
  split
  · exact h.over k r
  · exact h.append (.cons r .nil)
def dPopT : O1 → List D → Option (D × O1)
  | .dT kvs, [k, d] => (tupKey k).bind fun ks => match getT kvs ks with
    | some v => some (v, .dT (dropT kvs ks))
    | none => some (d, .dT kvs)
  | _, _ => none
theorem ms_popT {K : PySem.W.Frag} : MutS K DX.rPopT dPopT := by
  intro G H a u o vs ds d o' Q hf hH c rs l k
  unfold dPopT at hf
  split at hf
  · rename_i kvs kd dd
    obtain ⟨ks, h1, h2⟩ := Option.bind_eq_some_iff.mp hf
    cases u <;> first | exact c.elim | skip
    rename_i ws
    cases rs with | cons r rs =>
    cases rs with | cons r' rs =>
    cases rs
    have c : RepT K G ws kvs := c
    obtain ⟨b, rfl, hb⟩ := tupKey_rep l (r.c l) h1
    obtain ⟨g1, g2⟩ := c.get ks
    split at h2
    · rename_i v0 q
      cases h2
      obtain ⟨v, e1, e2⟩ := g1 _ q
      refine ⟨a, ws, ks, b, _, rfl, rfl, hH, hb, fun v' e' => ?_, fun e' => ?_⟩
      · rw [e1] at e'; cases e'
        exact k v (.dT (dropK ws ks)) (c.drop ks) e2
      · rw [e1] at e'; cases e'
    · rename_i q
      cases h2
      have e1 := g2 q
      refine ⟨a, ws, ks, b, _, rfl, rfl, hH, hb, fun v' e' => ?_, fun e' => ?_⟩
      · rw [e1] at e'; cases e'
      · have := k _ (.dT ws) c r'
        rw [upd_self hH] at this
        exact this
  · cases hf

/-! ### o[i] = v -/
def dPut : O1 → D → D → Option O1
  | .lst xs, .int i, v => (ixN xs.length i).bind fun j => some (.lst (xs.set j v))
  | .dT kvs, k, v => (tupKey k).bind fun ks => if kvs.length < 16777216 then some (.dT (putT kvs ks v)) else none
  | .dK kvs, k, v => (atomKey k).bind fun ks => if kvs.length < 16777216 then some (.dK (putT kvs ks v)) else none
  | _, _, _ => none
def rPutAll : V → V → V → Hp → (Hp → Prop) → Prop := fun o i v H Q => rSetL o i v H Q ∨ ∃ a H', o = .ref a ∧ DPut H a i v H' ∧ Q H'
theorem set_all {X : Cx} (hu : X.A.units + 64 < cLine) : PSet X rPutAll := by
  intro pins s σ H o i v ov iv u Q I r1 r2 r3 h
  rcases h with h | ⟨a, H', rfl, h1, h2⟩
  · exact set_list pins s σ H o i v ov iv u Q I r1 r2 r3 h
  · cases r1
    exact d_setItem (by omega) I h1 r2 r3 fun s' I' => ⟨H', I', h2⟩
theorem dPut_ok {K : PySem.W.Frag} {G H : Hp} {a : Addr} {u : HO} {o o' : O1} {i v : V} {di dv : D} {Q : Hp → Prop} (hf : dPut o di dv = some o') (hH : H a = some u) (c : Cel K G u o) (ri : Rep K G i di) (rv : Rep K G v dv) (l : Le G H)
    (k : ∀ u', Cel K G u' o' → Q (upd H a u')) : rPutAll (.ref a) i v H Q := by
  cases o with
  | fro d => cases di <;> cases hf
  | lst xs =>
    cases di <;> try (cases hf; done)
    rename_i i
    unfold dPut at hf
    obtain ⟨j, h1, h2⟩ := Option.bind_eq_some_iff.mp hf
    cases h2
    cases u <;> first | exact c.elim | skip
    rename_i ws
    have c : Reps K G ws xs := c
    cases ri
    exact .inl ⟨a, ws, _, j, rfl, rfl, hH, by rw [c.length]; exact h1, k (.lst (ws.set j v)) (c.set rv j)⟩
  | dT kvs =>
    unfold dPut at hf
    obtain ⟨ks, h1, h2⟩ := Option.bind_eq_some_iff.mp hf
    split at h2
    · rename_i hz
      cases h2
      cases u <;> first | exact c.elim | skip
      rename_i ws
      have c : RepT K G ws kvs := c
      obtain ⟨b, rfl, hb⟩ := tupKey_rep l (ri.c l) h1
      exact .inr ⟨a, _, rfl, DPut.t hH hb (by rw [sizeLine_eq, c.length]; exact hz), k (.dT (putK ws ks v)) (c.put rv)⟩
    · cases h2
  | dK kvs =>
    unfold dPut at hf
    obtain ⟨ks, h1, h2⟩ := Option.bind_eq_some_iff.mp hf
    split at h2
    · rename_i hz
      cases h2
      cases u <;> first | exact c.elim | skip
      rename_i ws
      have c : RepK K G ws kvs := c
      obtain rfl := atomKey_rep (ri.c l) h1
      exact .inr ⟨a, _, rfl, DPut.k hH (by rw [sizeLine_eq, c.length]; exact hz), k (.dK (putK ws ks v)) (c.put rv)⟩
    · cases h2
def mPut (mv : ME D) (mo : ME Opd) (mk : ME D) : MS := fun η => (mv η).bind fun v => (mo v.2).bind fun x => (mk x.2).bind fun i => (cellAt i.2 x.1).bind fun o => if o.own = true then (dPut o i.1 v.1).bind fun o' => some (.nx, setAt i.2 x.1 o') else none
theorem vs_put {o i value : Expr} {pv q p pi : Bool} {mv mk : ME D} {mo : ME Opd} {tpos pos : Pos} (hu : X.A.units + 64 < cLine) (hv : VE X B pv value mv) (ho : VO X B q p o mo) (hi : VE X B pi i mk) (hq : q = false ∨ pi = true := by decide)
    (ha : ∀ v, assign (.Subscript o i tpos) X.env v = (do
      let ov ← holding [v] (eval o X.env)
      let iv ← holding [v, ov] (eval i X.env)
      standAt tpos
      holding [v, ov, iv] (setItem ov iv v)
      release [v, ov, iv] []) := by intro _; rfl)
    (hs : swapsWithSole [.Subscript o i tpos] value pos.line X.env = pure false := by rfl) (hw : swappedStores [.Subscript o i tpos] value X.env = pure none := by rfl)
    (h1 : (assignEach [.Subscript o i tpos] X.env).map (·.2) = [assign (.Subscript o i tpos) X.env] := by rfl) : VS X B (.Assign [.Subscript o i tpos] value pos) (mPut mv mo mk) := by
  refine ps_imp (ps_asg hv (pg_sub ho.run hi (set_all hu) ha) hs hw h1) fun D0 σ H ⟨G, F, η, ρ, r, η', hm, R, k⟩ => ?_
  simp only [mPut, Option.bind_eq_some_iff] at hm
  obtain ⟨⟨dv, η1⟩, h1, ⟨x, η2⟩, h2, ⟨di, η3⟩, h3, oc, h4, h5⟩ := hm
  split at h5
  · rename_i how
    obtain ⟨o', h6, h7⟩ := Option.bind_eq_some_iff.mp h5
    cases h7
    refine ⟨G, F, η, ρ, dv, η1, h1, R, fun v G1 H1 F1 st1 _ R1 r1 => ?_⟩
    refine ⟨G1, F1, η1, ρ, x, η2, h2, R1, fun w G2 H2 F2 st2 _ R2 r2 => ?_⟩
    refine ⟨G2, F2, η2, ρ, di, η3, h3, R2, fun z G3 H3 F3 st3 pu3 R3 r3 => ?_⟩
    have r2' : RepP X.K G3 H3 σ w x := r2.step st3 (by
      rcases hq with hq | hq
      · exact .inl (ho.nof hq _ _ _ h2)
      · exact .inr (pu3 hq))
    obtain ⟨a, u, rfl, e1, e2, e3⟩ := R3.write h4 r2' how
    refine dPut_ok h6 e1 e2 r3 (r1.mono (st2.le.trans st3.le)) R3.le fun u' c => ?_
    obtain ⟨F4, R4, st4⟩ := e3 u' o' c
    exact k σ G3 _ F4 (((st1.trans st2).trans st3).trans st4) R4
  · cases h5

/-! ### o.f = v -/
theorem Rel.putFld {K : PySem.W.Frag} {ρ : Nat → V} {G H : Hp} {F : Nat → List Addr} {η : Env} {σ : L2.St} {i : Nat} {f : Str} {C : Addr} {fs : List (Str × O1)} {o : O1} {v : V} (R : Rel K B ρ G H F (η ++ [some (.s o)]) (σ ++ [some v])) (hb : ∀ j ∈ B, j < η.length) (e : η[i]? = some (some (.ins C fs))) :
    ∃ a dx vs F', σ[i]? = some (some (.ref a)) ∧ H a = some (.ins C dx vs) ∧ vs.length = fs.length ∧ Rel K B ρ G (upd H a (.ins C dx (putF f v vs))) F' (η.set i (some (.ins C (putO f o fs)))) σ ∧ Step G H (OwnP F) G (upd H a (.ins C dx (putF f v vs))) (OwnP F') := by
  obtain ⟨R0, hv, len⟩ := R.pop hb
  have hi : i < η.length := (List.getElem?_eq_some_iff.mp e).1
  obtain ⟨w, h1, a, dx, vs, fps, rfl, e2, e3, e4⟩ := R.slot i _ (by rw [List.getElem?_append_left hi]; exact e)
  rw [List.getElem?_append_left (by omega)] at h1
  have nd := R.ndi i
  rw [e2] at nd
  have sep : ∀ b ∈ F η.length, b ∉ F i := fun b hb hb' => by
    have := R.sep η.length i b hb hb'
    omega
  have hv' : Own1 K G H (F η.length) v o := hv
  obtain ⟨fps', q1, q2, q3⟩ := OwnF.put (f := f) hv' (R.ndi _) e4 (List.nodup_cons.mp nd).2 fun b hb hb' => sep b hb (by rw [e2]; exact List.mem_cons_of_mem _ hb')
  have na : ∀ b ∈ fps'.flatten, b ≠ a := fun b hb e => by
    subst e
    rcases q2 b hb with q | q
    · exact (List.nodup_cons.mp nd).1 q
    · exact sep b q (by rw [e2]; exact List.mem_cons_self)
  have ha : a ∈ F i := by rw [e2]; exact List.mem_cons_self
  have hn : OwnO K G (upd H a (.ins C dx (putF f v vs))) (a :: fps'.flatten) (.ref a) (.ins C (putO f o fs)) := ⟨a, dx, _, fps', rfl, rfl, upd_same, q1.mono (.refl G) fun b hb u h => by rw [upd_ne (na b hb)]; exact h⟩
  have R1 : Rel K B ρ G (upd H a (.ins C dx (putF f v vs))) (fun j => if j = i then a :: fps'.flatten else (fun j => if j = η.length then [] else F j) j) (η.set i (some (.ins C (putO f o fs)))) σ := by
    refine ⟨R.le.write (R.dis i a ha), fun j b hb => ?_, fun j => ?_, fun j k b h1 h2 => ?_, fun j o' e' => ?_, fun j hj => ?_, by rw [List.length_set]; exact len, R0.bor⟩
    · dsimp only at hb
      split at hb
      · rcases List.mem_cons.mp hb with rfl | hb
        · exact R.dis i _ ha
        · rcases q2 b hb with q | q
          · exact R.dis i b (by rw [e2]; exact List.mem_cons_of_mem _ q)
          · exact R.dis _ b q
      · exact R0.dis j b hb
    · dsimp only
      split
      · exact List.nodup_cons.mpr ⟨fun q => na a q rfl, q3⟩
      · exact R0.ndi j
    · dsimp only at h1 h2
      have key : ∀ j, j ≠ i → b ∈ (if j = η.length then [] else F j) → b ∈ a :: fps'.flatten → False := fun j ej h h' => by
        split at h
        · cases h
        · rename_i en
          rcases List.mem_cons.mp h' with rfl | h'
          · exact ej (R.sep j i b h ha)
          · rcases q2 b h' with q | q
            · exact ej (R.sep j i b h (by rw [e2]; exact List.mem_cons_of_mem _ q))
            · exact en (R.sep j _ b h q)
      by_cases ej : j = i <;> by_cases ek : k = i
      · rw [ej, ek]
      · simp only [ej, ek, if_true, if_false] at h1 h2; exact (key k ek h2 h1).elim
      · simp only [ej, ek, if_true, if_false] at h1 h2; exact (key j ej h1 h2).elim
      · simp only [ej, ek, if_false] at h1 h2; exact R0.sep j k b h1 h2
    · by_cases ej : j = i
      · subst ej
        rw [List.getElem?_set_self hi] at e'; cases e'
        exact ⟨_, h1, by simpa using hn⟩
      · rw [List.getElem?_set_ne (Ne.symm ej)] at e'
        obtain ⟨v', g1, g2⟩ := R0.slot j o' e'
        refine ⟨v', g1, ?_⟩
        simp only [ej, if_false]
        refine g2.mono (.refl G) fun b hb u h => ?_
        have z : b ≠ a := fun q => by
          subst q
          split at hb
          · cases hb
          · exact ej (R.sep j i b hb ha)
        rw [upd_ne z]; exact h
    · by_cases ej : j = i
      · subst ej; exact absurd (List.getElem?_set_self hi) (hj _)
      · simp only [ej, if_false]
        have := R0.emp j fun o' h => hj o' (by rw [List.getElem?_set_ne (Ne.symm ej)]; exact h)
        exact this
  refine ⟨a, dx, vs, _, h1, e3, e4.length, R1, .refl G, fun b h => .inl h, fun b w h nb => ?_, fun b h => ?_, fun b ⟨j, hj⟩ => ?_⟩
  · have z : b ≠ a := fun q => nb ⟨i, by rw [q]; exact ha⟩
    rw [upd_ne z]; exact h
  · by_cases q : b = a
    · subst q; rw [upd_same]; intro z; cases z
    · rw [upd_ne q]; exact h
  · dsimp only at hj
    split at hj
    · rcases List.mem_cons.mp hj with rfl | hj
      · exact .inl ⟨i, ha⟩
      · rcases q2 b hj with q | q
        · exact .inl ⟨i, by rw [e2]; exact List.mem_cons_of_mem _ q⟩
        · exact .inl ⟨_, q⟩
    · split at hj
      · cases hj
      · exact .inl ⟨j, hj⟩
def mFldSet (C : Addr) (i : Nat) (f : Str) (m : ME O) : MS := fun η => (m η).bind fun q => match q.1, q.2[i]? with
  | .s o, some (some (.ins C' fs)) => if C' = C ∧ fs.length < 1000 then some (.nx, q.2.set i (some (.ins C (putO f o fs)))) else none
  | _, _ => none
theorem vs_fld {o value : Expr} {C : Addr} {i : Nat} {f : Str} {p : Bool} {m : ME O} {pos pos' : Pos} (ho : PE X o (tVar i)) (hC : Cls X.K C) (hn : NoAttr X.K C f) (hv : VN X B p value m) (hs : swapsWith value (some (.Attribute o f pos')) pos.line X.env = pure false := by rfl) :
    VS X B (.Assign [.Attribute o f pos'] value pos) (mFldSet C i f m) := by
  refine ps_imp (ps_fld ho hv hs) fun D0 σ H ⟨G, F, η, ρ, r, η', hm, R, k⟩ => ?_
  simp only [mFldSet, Option.bind_eq_some_iff] at hm
  obtain ⟨⟨oo, η1⟩, h1, h2⟩ := hm
  split at h2
  · rename_i o1 C' fs q1 q2
    split at h2
    · rename_i hc
      obtain ⟨rfl, hlen⟩ := hc
      cases h2
      have q1 : oo = .s o1 := q1
      subst q1
      refine ⟨G, F, η, ρ, _, η1, h1, R, fun v G1 H1 F1 st1 _ R1 => ?_⟩
      obtain ⟨a, dx, vs, F2, e1, e2, e3, R2, st2⟩ := R1.putFld (f := f) (R.lenN R1) q2
      exact ⟨.ref a, e1, a, C', dx, vs, rfl, e2, hC, hn, by omega, k σ G1 _ F2 (st1.trans st2) R2⟩
    · cases h2
  · cases h2
/-- a field as a target -/
def gFld (K : PySem.W.Frag) (to : TE) (f : Str) : TG := fun v σ H Q => to σ H fun x H1 => ∃ a C dx fs, x = .ref a ∧ H1 a = some (.ins C dx fs) ∧ Cls K C ∧ NoAttr K C f ∧ fs.length < 1000 ∧ Q σ (upd H1 a (.ins C dx (putF f v fs)))
theorem pg_fld {o : Expr} {f : Str} {pos : Pos} {to : TE} (ho : PE X o to) : PG X (.Attribute o f pos) (gFld X.K to f) := by
  refine ⟨fun pins s σ H v u Q I r h => ?_⟩
  rw [assign_Attribute]
  refine wpAny_bind (wpAny_holding (thn (ho.run pins s σ H _ I h) fun ov s1 ⟨x, H1, I1, r1, a, C, dx, fs, ex, ea, hC, hn, hl, q1⟩ => ?_))
  subst ex
  obtain rfl : ov = Value.ref a := r1
  refine wpAny_bind (wpAny_standAt (wpAny_bind (wpAny_holding (setattr_ok I1 ea hC hn hl r fun s2 I2 => ?_))))
  exact wpAny_release ⟨σ, _, I2, q1⟩
end
end VL
end
section
set_option Elab.async false
set_option linter.all false
set_option maxRecDepth 100000
set_option maxHeartbeats 1000000
set_option autoImplicit false
namespace VL
open PySem PySem.Spec PyProof.Rows L2

/-! ### fields as targets -/
section
variable {X : Cx} {B : List Nat}
def gmFld (C : Addr) (i : Nat) (f : Str) : D → Env → Option Env := fun d η => match η[i]? with
  | some (some (.ins C' fs)) => if C' = C ∧ fs.length < 1000 then some (η.set i (some (.ins C (putO f (.fro d) fs)))) else none
  | _ => none
theorem vg_fld {o : Expr} {C : Addr} {i : Nat} {f : Str} {pos : Pos} (ho : PE X o (tVar i)) (hC : Cls X.K C) (hn : NoAttr X.K C f) : VG X B [] (.Attribute o f pos) (gmFld C i f) := by
  refine pg_imp (pg_fld ho) fun v σ H Q ⟨G, F, η, ρ, d, η', hm, R, r, k⟩ => ?_
  unfold gmFld at hm
  split at hm
  · rename_i C' fs q
    split at hm
    · rename_i hc
      obtain ⟨rfl, hlen⟩ := hc
      cases hm
      have R1 := R.push (f := []) (v := v) (o := .s (.fro d)) (.refl R.le) (fun b hb => by cases hb) .nil ⟨rfl, r⟩
      obtain ⟨a, dx, vs, F2, e1, e2, e3, R2, st2⟩ := R1.putFld (f := f) (fun j hj => R.bIn j hj) q
      refine ⟨.ref a, e1, a, C', dx, vs, rfl, e2, hC, hn, by omega, k σ _ F2 (Step.sub st2 (fun b ⟨j, hj⟩ => ?_) fun b h => h) R2 fun _ _ => rfl⟩
      try dsimp only at hj
      split at hj
      · cases hj
      · exact ⟨j, hj⟩
    · cases hm
  · cases hm

/-! ### d.get(k, x) -/
def isDict : D → Bool
  | .dT _ => true
  | .dK _ => true
  | _ => false
def mGet2 (mo : ME Opd) (mk md : ME D) : ME D := fun η => (mo η).bind fun x => (cont x.2 x.1).bind fun d0 => if isDict d0 = true then (mk x.2).bind fun i => (md i.2).bind fun z => (cont z.2 x.1).bind fun d => (dLook d i.1).bind fun o => some (o.getD z.1, z.2) else none
theorem isDict_IsD {K : PySem.W.Frag} {G H : Hp} {v : V} {d : D} (h : isDict d = true) (r : RepC K G H v d) : ∃ a, v = .ref a ∧ IsD H a := by
  cases d <;> try (cases h; done)
  · obtain ⟨a, vs, rfl, h1, _⟩ := r; exact ⟨a, rfl, .inr ⟨vs, h1⟩⟩
  · obtain ⟨a, vs, rfl, h1, _⟩ := r; exact ⟨a, rfl, .inl ⟨vs, h1⟩⟩
theorem ve_get2 {o e f : Expr} {q p pk pd : Bool} {mo : ME Opd} {mk md : ME D} {apos cpos : Pos} (hu : X.A.units + 64 < cLine) (ho : VO X B q p o mo) (he : VE X B pk e mk) (hf : VE X B pd f md) (m : M2 X o "get" apos e f cpos) (hq : q = false ∨ (pk && pd) = true := by decide) :
    VE X B (p && (pk && pd)) (.Call (.Attribute o "get" apos) [e, f] [] cpos) (mGet2 mo mk md) := by
  refine pe_imp (pe_dget2 (by omega) ho.run he hf m) fun σ H Q ⟨G, F, η, ρ, d, η', hm, R, k⟩ => ?_
  simp only [mGet2, Option.bind_eq_some_iff] at hm
  obtain ⟨⟨x, η1⟩, h1, d0, h2, h3⟩ := hm
  split at h3
  · rename_i hd
    simp only [Option.bind_eq_some_iff] at h3
    obtain ⟨⟨i, η2⟩, h4, ⟨z, η3⟩, h5, dd, h6, o', h7, h8⟩ := h3
    cases h8
    refine ⟨G, F, η, ρ, x, η1, h1, R, fun v G1 H1 F1 st1 pu1 R1 r1 => ?_⟩
    obtain ⟨a, rfl, ha⟩ := isDict_IsD hd (r1.cont R1 h2)
    refine ⟨a, rfl, ha, G1, F1, η1, ρ, i, η2, h4, R1, fun y G2 H2 F2 st2 pu2 R2 r2 => ?_⟩
    refine ⟨G2, F2, η2, ρ, z, η3, h5, R2, fun w G3 H3 F3 st3 pu3 R3 r3 => ?_⟩
    have r1' : RepP X.K G3 H3 σ (.ref a) x := r1.step (st2.trans st3) (by
      rcases hq with hq | hq
      · exact .inl (ho.nof hq _ _ _ h1)
      · rw [Bool.and_eq_true] at hq
        exact .inr ((pu2 hq.1).trans (pu3 hq.2)))
    have rc := r1'.cont R3 h6
    obtain ⟨a2, o2, e1, g1, _, g2⟩ := dLook_get R3.le rc ((r2.mono st3.le).c R3.le) h7
    cases e1
    refine ⟨o2, g1, ?_⟩
    have pur : (p && (pk && pd)) = true → Same H H3 := fun hp => by
      rw [Bool.and_eq_true, Bool.and_eq_true] at hp
      exact ((pu1 hp.1).trans (pu2 hp.2.1)).trans (pu3 hp.2.2)
    have st := (st1.trans st2).trans st3
    cases o' with
    | none =>
      have := g2.2 rfl
      rw [this]
      exact k w G3 H3 F3 st pur R3 r3
    | some d' =>
      obtain ⟨v', e2, e3⟩ := g2.1 d' rfl
      rw [e2]
      exact k v' G3 H3 F3 st pur R3 e3
  · cases h3

/-! ### isinstance -/
def tyD : D → Option String
  | .non => some "NoneType"
  | .bl _ => some "bool"
  | .int _ => some "int"
  | .str _ => some "str"
  | .tup _ => some "tuple"
  | .ktup _ => some "tuple"
  | .lst _ => some "list"
  | .dT _ => some "dict"
  | .dK _ => some "dict"
  | _ => none
def isiB (a T : String) : Bool := a == T || (a == "bool" && T == "int")
def isiT (T : String) : Bool := T == "int" || T == "bool" || T == "str" || T == "tuple" || T == "list"
theorem isi_kit {a T : String} (ha : a ∈ ["NoneType", "bool", "int", "str", "tuple", "list", "dict"]) (hT : isiT T = true) : kitB a T = some (isiB a T) := by
  have hT : T ∈ ["int", "bool", "str", "tuple", "list"] := by
    simp only [isiT, Bool.or_eq_true, beq_iff_eq] at hT
    simp only [List.mem_cons, List.not_mem_nil, or_false]
    rcases hT with (((h | h) | h) | h) | h <;> simp [h]
  simp only [List.mem_cons, List.not_mem_nil, or_false] at ha hT
  rcases ha with rfl | rfl | rfl | rfl | rfl | rfl | rfl <;> rcases hT with rfl | rfl | rfl | rfl | rfl <;> decide +kernel

inductive TyZ (K : PySem.W.Frag) (H : Hp) : V → Value → Prop where
  | x {x : V} {t : Value} (h : TyX K H x t) : TyZ K H x t
  | ft {a : Addr} {o : Obj} {kvs : List (List Key × V)} (e : H a = some (.frz o (.dT kvs))) : TyZ K H (.ref a) (.type "dict")
def rIsiZ (K : PySem.W.Frag) : List V → Hp → VK → Prop := fun xs H Q => ∃ (x : V) (T : String) (t : Value) (b : Bool), xs = [x, .ty T] ∧ TyZ K H x t ∧ PySem.W.kitOne K t (.type T) = some b ∧ Q (.bl b) H
theorem call_isiZ : CallR X (.builtin "isinstance") (rIsiZ X.K) := by
  intro pins s σ H xs us Q I r h
  obtain ⟨x, T, t, b, rfl, ty, e, q⟩ := h
  cases ty with
  | x ty => exact call_isi pins s σ H _ us Q I r ⟨x, .ty T, t, .type T, b, rfl, .ty T, ty, e, q⟩
  | @ft a ob kvs ea =>
    obtain ⟨u1, u2, rfl, r1, r2⟩ := vals2 r
    cases (show u1 = Value.ref a from r1)
    cases (show u2 = Value.type T from r2)
    obtain ⟨_, _, _, xs, _, o, es, ep, h1, h2, _⟩ := (show ObjOk X.prog X.w H s.heap a (.frz ob (.dT kvs)) from I.hok a _ ea)
    exact PySem.W.kia_one PySem.W.kitx_dict I.kIn ⟨o, h1, h2.1⟩ e (fun z => nomatch z) fun tk => ⟨.bl b, H, I.tok tk, rfl, q⟩
theorem SqL_ty {K : PySem.W.Frag} {H : Hp} {a : Addr} {xs : List V} (h : SqL K H a xs) : TyZ K H (.ref a) (.type "list") := by
  rcases h with (h | ⟨o, h⟩) | ⟨o, its, n, h1, h2, _⟩
  · exact .x (.base (.lst h))
  · exact .x (.base (.frz h))
  · exact .x (.kList h1 h2)
theorem SqT_ty {K : PySem.W.Frag} {H : Hp} {a : Addr} {xs : List V} (h : SqT K H a xs) : TyZ K H (.ref a) (.type "tuple") := by
  rcases h with (h | ⟨o, h⟩) | ⟨o, its, n, h1, h2, _⟩
  · exact .x (.base (.tup h))
  · exact .x (.fTuple h)
  · exact .x (.kTuple h1 h2)
theorem tyD_ok {K : PySem.W.Frag} {G H : Hp} (l : Le G H) {v : V} {d : D} {a : String} (r : RepC K G H v d) (h : tyD d = some a) : TyZ K H v (.type a) ∧ a ∈ ["NoneType", "bool", "int", "str", "tuple", "list", "dict"] := by
  cases d <;> cases h
  · cases r; exact ⟨.x (.base .non), by simp⟩
  · cases r; exact ⟨.x (.base (.bl _)), by simp⟩
  · cases r; exact ⟨.x (.base (.int _)), by simp⟩
  · cases r; exact ⟨.x (.base (.str _)), by simp⟩
  · cases r with | tup h1 h2 => exact ⟨SqT_ty (SqT.of (l.2 _ _ h1)), by simp⟩
  · cases r with | ktup h1 h2 => exact ⟨SqT_ty (l.sqT h1.1), by simp⟩
  · obtain ⟨a, vs, rfl, h1, _⟩ := r; exact ⟨SqL_ty h1, by simp⟩
  · obtain ⟨a, vs, rfl, h1, _⟩ := r
    rcases h1 with h1 | ⟨o, h1⟩
    · exact ⟨.x (.base (.dT h1)), by simp⟩
    · exact ⟨.ft h1, by simp⟩
  · obtain ⟨a, vs, rfl, h1, _⟩ := r
    rcases h1 with h1 | ⟨o, h1⟩
    · exact ⟨.x (.base (.dK h1)), by simp⟩
    · exact ⟨.x (.fDict h1), by simp⟩
def fIsi : List D → Option D
  | [x, .ty T] => if isiT T = true then (tyD x).bind fun a => some (.bl (isiB a T)) else none
  | _ => none
theorem cs_isi {K : PySem.W.Frag} : CallS K (rIsiZ K) fIsi := by
  intro G H vs ds d Q hf rs l k
  unfold fIsi at hf
  split at hf
  · rename_i x T
    split at hf
    · rename_i hT
      obtain ⟨a, h1, h2⟩ := Option.bind_eq_some_iff.mp hf
      cases h2
      cases rs with | cons r rs =>
      cases rs with | cons r' rs =>
      cases rs; cases r'
      obtain ⟨t1, t2⟩ := tyD_ok l r h1
      exact ⟨_, T, _, _, rfl, t1, kit_ty (isi_kit t2 hT), k _ G H (.refl l) (.bl _)⟩
    · cases hf
  · cases hf
theorem ve_ty {x : Str} {T : String} {pos : Pos} (hg : Gl X x) (hm : X.mg x = none) (hv : bootBuiltins x = some (.type T)) (hn : x ≠ "__name__" := by decide) (hd : (x == ("__debug__" : Str)) = false := by decide) : VE X B true (.Name x pos) (mC (.ty T)) :=
  ve_c (pe_bltn (v := .ty T) hg hm hv rfl hn hd) fun _ _ => .ty T

/-! ### len -/
def rLenAll (K : PySem.W.Frag) : List V → Hp → VK → Prop := fun xs H Q => (∃ x n, xs = [x] ∧ LenV K x H n ∧ Q (.int n) H) ∨ (∃ p kvs, xs = [.ref p] ∧ Rd H p (.dK kvs) ∧ Q (.int kvs.length) H) ∨ ∃ p kvs, xs = [.ref p] ∧ Rd H p (.dT kvs) ∧ Q (.int kvs.length) H
theorem call_lenAll : CallR X (.builtin "len") (rLenAll X.K) := by
  intro pins s σ H xs us Q I r h
  rcases h with h | ⟨p, kvs, rfl, hp, q⟩ | ⟨p, kvs, rfl, hp, q⟩
  · exact call_len pins s σ H xs us Q I r h
  · obtain ⟨u, rfl, rx⟩ := vals1 r
    cases rx
    exact d_len I hp fun t s' I' => ⟨.int kvs.length, H, I', ⟨t, rfl⟩, q⟩
  · obtain ⟨u, rfl, rx⟩ := vals1 r
    cases rx
    obtain ⟨z, hd, ys, rel, dd⟩ := dt_rd I.hok hp
    have hl : kvs.length = ys.length := Paired.length rel
    refine call_len_dictH hd dd (by rw [← hl]; rw [sizeLine_eq] at z; omega) ?_
    rw [← hl]
    exact ⟨.int ((kvs.length : Nat) : Int), H, I.tok _, ⟨_, rfl⟩, q⟩
def fLen : List D → Option D
  | [.str x] => if x.length ≤ 16777216 then some (.int x.length) else none
  | [.tup xs] => some (.int xs.length)
  | [.ktup xs] => some (.int xs.length)
  | [.lst xs] => some (.int xs.length)
  | [.dT xs] => some (.int xs.length)
  | [.dK xs] => some (.int xs.length)
  | _ => none
theorem cs_len {K : PySem.W.Frag} : CallS K (rLenAll K) fLen := by
  intro G H vs ds d Q hf rs l k
  unfold fLen at hf
  split at hf
  · split at hf
    · rename_i hz
      cases hf
      cases rs with | cons r rs =>
      cases rs; cases r
      exact .inl ⟨_, _, rfl, ⟨sz_le hz, rfl⟩, k _ G H (.refl l) (.int _)⟩
    · cases hf
  · cases hf
    cases rs with | cons r rs =>
    cases rs
    cases r with | tup h1 h2 =>
    exact .inl ⟨_, _, rfl, .inr ⟨_, SqT.of (l.2 _ _ h1), rfl⟩, by rw [h2.length]; exact k _ G H (.refl l) (.int _)⟩
  · cases hf
    cases rs with | cons r rs =>
    cases rs
    cases r with | ktup h1 h2 =>
    exact .inl ⟨_, _, rfl, .inr ⟨_, l.sqT h1.1, rfl⟩, by rw [h2.length]; exact k _ G H (.refl l) (.int _)⟩
  · cases hf
    cases rs with | cons r rs =>
    cases rs
    obtain ⟨a, vs, rfl, h1, h2⟩ := r
    exact .inl ⟨_, _, rfl, .inl ⟨_, h1, rfl⟩, by rw [h2.length]; exact k _ G H (.refl l) (.int _)⟩
  · cases hf
    cases rs with | cons r rs =>
    cases rs
    obtain ⟨a, vs, rfl, h1, h2⟩ := r
    exact .inr (.inr ⟨a, vs, rfl, h1, by rw [h2.length]; exact k _ G H (.refl l) (.int _)⟩)
  · cases hf
    cases rs with | cons r rs =>
    cases rs
    obtain ⟨a, vs, rfl, h1, h2⟩ := r
    exact .inr (.inl ⟨a, vs, rfl, h1, by rw [h2.length]; exact k _ G H (.refl l) (.int _)⟩)
  · cases hf

/-! ### list(..), tuple(..) -/
def fList : List D → Option O1
  | [.tup xs] => some (.lst xs)
  | [.ktup xs] => some (.lst xs)
  | [.lst xs] => some (.lst xs)
  | _ => none
theorem cn_list {K : PySem.W.Frag} : CallN K (fun xs H Q => ∃ p ys, xs = [.ref p] ∧ (SqL K H p ys ∨ SqT K H p ys) ∧ ∀ l, H l = none → Q (.ref l) (upd H l (.lst ys))) fList := by
  intro G H vs ds o Q hf rs l k
  unfold fList at hf
  split at hf <;> cases hf
  · cases rs with | cons r rs =>
    cases rs
    cases r with | tup h1 h2 => exact ⟨_, _, rfl, .inr (SqT.of (l.2 _ _ h1)), fun p hp => k p _ hp ⟨p, _, rfl, rfl, upd_same, h2⟩⟩
  · cases rs with | cons r rs =>
    cases rs
    cases r with | ktup h1 h2 => exact ⟨_, _, rfl, .inr (l.sqT h1.1), fun p hp => k p _ hp ⟨p, _, rfl, rfl, upd_same, h2⟩⟩
  · cases rs with | cons r rs =>
    cases rs
    obtain ⟨a, vs, rfl, h1, h2⟩ := r
    exact ⟨_, _, rfl, .inl h1, fun p hp => k p _ hp ⟨p, _, rfl, rfl, upd_same, h2⟩⟩
def fTuple : List D → Option D
  | [.tup xs] => some (.tup xs)
  | [.ktup xs] => some (.ktup xs)
  | [.lst xs] => some (.tup xs)
  | _ => none
theorem cs_tuple {K : PySem.W.Frag} : CallS K (fun xs H Q => ∃ p ys, xs = [.ref p] ∧ ((SqL K H p ys ∧ ∀ l, H l = none → Q (.ref l) (upd H l (.tup ys))) ∨ (SqT K H p ys ∧ Q (.ref p) H))) fTuple := by
  intro G H vs ds d Q hf rs l k
  unfold fTuple at hf
  split at hf <;> cases hf
  · cases rs with | cons r rs =>
    cases rs
    cases r with | tup h1 h2 => exact ⟨_, _, rfl, .inr ⟨SqT.of (l.2 _ _ h1), k _ G H (.refl l) (.tup h1 h2)⟩⟩
  · cases rs with | cons r rs =>
    cases rs
    cases r with | ktup h1 h2 => exact ⟨_, _, rfl, .inr ⟨l.sqT h1.1, k _ G H (.refl l) (.ktup h1 h2)⟩⟩
  · cases rs with | cons r rs =>
    cases rs
    obtain ⟨a, vs, rfl, h1, h2⟩ := r
    refine ⟨_, _, rfl, .inl ⟨h1, fun p hp => ?_⟩⟩
    have g := Grow.new l (o := .tup vs) hp
    exact k _ _ _ g (.tup upd_same (h2.mono g.le))

/-! ### all, abs, int, min, max of two -/
def bls : List D → Option (List Bool)
  | [] => some []
  | .bl b :: ds => (bls ds).bind fun bs => some (b :: bs)
  | _ => none
theorem bls_vals {K : PySem.W.Frag} {G : Hp} : ∀ {vs : List V} {ds : List D} {bs : List Bool}, Reps K G vs ds → bls ds = some bs → vs = bs.map V.bl
  | _, _, bs, .nil, h => by unfold bls at h; cases h; rfl
  | _, _, bs, .cons (d := d) r rs, h => by
    cases d <;> try (cases h; done)
    simp only [bls, Option.bind_eq_some_iff] at h
    obtain ⟨bs', h1, h2⟩ := h
    cases h2; cases r
    rw [bls_vals rs h1]; rfl
def fAll : List D → Option D
  | [.lst xs] => (bls xs).bind fun bs => some (.bl (bs.all id))
  | _ => none
theorem cs_all {K : PySem.W.Frag} : CallS K (rAll K) fAll := by
  intro G H vs ds d Q hf rs l k
  unfold fAll at hf
  split at hf
  · obtain ⟨bs, h1, h2⟩ := Option.bind_eq_some_iff.mp hf
    cases h2
    cases rs with | cons r rs =>
    cases rs
    obtain ⟨a, vs, rfl, g1, g2⟩ := r
    exact ⟨a, bs, rfl, by rw [← bls_vals g2 h1]; exact g1, k _ G H (.refl l) (.bl _)⟩
  · cases hf
def fAbs : List D → Option D
  | [.int i] => some (.int (if i < 0 then -i else i))
  | _ => none
theorem cs_abs {K : PySem.W.Frag} : CallS K (fun xs H Q => ∃ i, xs = [.int i] ∧ Q (.int (if i < 0 then -i else i)) H) fAbs := by
  intro G H vs ds d Q hf rs l k
  unfold fAbs at hf
  split at hf <;> cases hf
  cases rs with | cons r rs =>
  cases rs; cases r
  exact ⟨_, rfl, k _ G H (.refl l) (.int _)⟩
def fInt : List D → Option D
  | [.int i] => some (.int i)
  | [.bl b] => some (.int (if b then 1 else 0))
  | _ => none
theorem cs_int {K : PySem.W.Frag} : CallS K (fun xs H Q => (∃ i, xs = [.int i] ∧ Q (.int i) H) ∨ ∃ k, xs = [.bl k] ∧ Q (.int (if k then 1 else 0)) H) fInt := by
  intro G H vs ds d Q hf rs l k
  unfold fInt at hf
  split at hf <;> cases hf
  · cases rs with | cons r rs =>
    cases rs; cases r
    exact .inl ⟨_, rfl, k _ G H (.refl l) (.int _)⟩
  · cases rs with | cons r rs =>
    cases rs; cases r
    exact .inr ⟨_, rfl, k _ G H (.refl l) (.int _)⟩

/-! ### methods that read -/
def MtS (K : PySem.W.Frag) (T : String) (r : V → List V → Hp → VK → Prop) (f : D → List D → Option D) : Prop := ∀ (G H : Hp) (v : V) (x : D) (vs : List V) (ds : List D) (d : D) (Q : VK), f x ds = some d → RepC K G H v x → Reps K G vs ds → Le G H →
  (∀ v G' H', Grow G H G' H' → Rep K G' v d → Q v H') → r v vs H Q
def tyM (T : String) : D → Bool
  | .str _ => T == "str"
  | .lst _ => T == "list"
  | _ => false
theorem tyM_ok {K : PySem.W.Frag} {G H : Hp} {v : V} {d : D} {T : String} (h : tyM T d = true) (r : RepC K G H v d) : tyV K T v H := by
  cases d <;> try (cases h; done)
  · cases r; exact (by simpa [tyM] using h : T = "str")
  · obtain ⟨a, vs, rfl, h1, _⟩ := r
    exact .inl ⟨by simpa [tyM] using h, _, h1⟩
def mMtR (T : String) (f : D → List D → Option D) (mo : ME Opd) (ms : ME (List D)) : ME D := fun η => (mo η).bind fun x => (cont x.2 x.1).bind fun d0 => if tyM T d0 = true then (ms x.2).bind fun q => (cont q.2 x.1).bind fun d1 => (f d1 q.1).bind fun r => some (r, q.2) else none
theorem ve_mtr {o e : Expr} {es : List Expr} {name : Str} {apos cpos : Pos} {T id : String} {r : V → List V → Hp → VK → Prop} {f : D → List D → Option D} {q p pp : Bool} {mo : ME Opd} {ms : ME (List D)}
    (pa : PlainAttrs T) (slot : Slot T name id) (hty : typeOf (.builtin id) = pure (.type "method_descriptor")) (hm : MtR X id r) (hs : MtS X.K T r f) (ho : VO X B q p o mo) (ha : VEs X B pp (e :: es) ms) (hq : q = false ∨ pp = true := by decide)
    (hbase : attributeBase o name X.env (eval o X.env) = eval o X.env := by rfl)
    (hfew : ((backTo cpos (starEach (e :: es) X.env)).all (fun x => !x.1) && (backToKw cpos (keywordEach [] X.env)).all (fun x => x.1.isSome)
      && decide ((e :: es).length + ([] : List Keyword).length + (if ([] : List Keyword).isEmpty then 0 else 1) < 30)) = true := by rfl)
    (hline : (apos.endLine == cpos.line) = true := by rfl) (hst : starEach (e :: es) X.env = (false, eval e X.env) :: starEach es X.env := by rfl) (hplain : (backTo cpos (starEach es X.env)).any (·.1) = false := by rfl) :
    VE X B (p && pp) (.Call (.Attribute o name apos) (e :: es) [] cpos) (mMtR T f mo ms) := by
  refine pe_imp (pe_bm pa slot hty hm ho.run ha hbase hfew hline hst hplain) fun σ H Q ⟨G, F, η, ρ, d, η', hm, R, k⟩ => ?_
  simp only [mMtR, Option.bind_eq_some_iff] at hm
  obtain ⟨⟨x, η1⟩, h1, d0, h2, h3⟩ := hm
  split at h3
  · rename_i hk
    obtain ⟨⟨ds, η2⟩, h4, h5⟩ := Option.bind_eq_some_iff.mp h3
    obtain ⟨d1, h6, h7⟩ := Option.bind_eq_some_iff.mp h5
    obtain ⟨r', h8, h9⟩ := Option.bind_eq_some_iff.mp h7
    cases h9
    refine ⟨G, F, η, ρ, x, η1, h1, R, fun v G1 H1 F1 st1 pu1 R1 r1 => ?_⟩
    refine ⟨tyM_ok hk (r1.cont R1 h2), G1, F1, η1, ρ, ds, η2, h4, R1, fun vs G2 H2 F2 st2 pu2 R2 r2 => ?_⟩
    have r1' : RepP X.K G2 H2 σ v x := r1.step st2 (by
      rcases hq with hq | hq
      · exact .inl (ho.nof hq _ _ _ h1)
      · exact .inr (pu2 hq))
    refine hs G2 H2 v d1 vs ds _ Q h8 (r1'.cont R2 h6) r2 R2.le fun z G3 H3 g r3 => ?_
    refine k z G3 H3 F2 ((st1.trans st2).trans (g.step _)) (fun hp => ?_) (R2.grow g) r3
    rw [Bool.and_eq_true] at hp
    exact ((pu1 hp.1).trans (pu2 hp.2)).trans g.keep
  · cases h3
def strsD : List D → Option (List Str)
  | [] => some []
  | .str b :: ds => (strsD ds).bind fun bs => some (b :: bs)
  | _ => none
theorem strsD_vals {K : PySem.W.Frag} {G : Hp} : ∀ {vs : List V} {ds : List D} {bs : List Str}, Reps K G vs ds → strsD ds = some bs → vs = bs.map V.str
  | _, _, bs, .nil, h => by unfold strsD at h; cases h; rfl
  | _, _, bs, .cons (d := d) r rs, h => by
    cases d <;> try (cases h; done)
    simp only [strsD, Option.bind_eq_some_iff] at h
    obtain ⟨bs', h1, h2⟩ := h
    cases h2; cases r
    rw [strsD_vals rs h1]; rfl
def fJoin : D → List D → Option D
  | .str a, [.lst xs] => (strsD xs).bind fun ys => if (ys.map (·.length)).sum + ys.length * a.length ≤ 16777216 then some (.str (Txt.join a ys)) else none
  | _, _ => none
theorem mt_joinS {K : PySem.W.Frag} : MtS K "str" (fun x xs H Q => ∃ a p, ∃ ys : List Str, x = .str a ∧ xs = [.ref p] ∧ (SqL K H p (ys.map V.str) ∨ SqT K H p (ys.map V.str)) ∧
    (ys.map (·.length)).sum + ys.length * a.length ≤ 16777216 ∧ Q (.str (Txt.join a ys)) H) fJoin := by
  intro G H v x vs ds d Q hf r rs l k
  unfold fJoin at hf
  split at hf
  · obtain ⟨ys, h1, h2⟩ := Option.bind_eq_some_iff.mp hf
    split at h2
    · rename_i hz
      cases h2
      cases r
      cases rs with | cons r' rs =>
      cases rs
      cases r' with | lst g1 g2 =>
      exact ⟨_, _, ys, rfl, rfl, .inl (by rw [← strsD_vals g2 h1]; exact l.sqL g1), hz, k _ G H (.refl l) (.str _)⟩
    · cases h2
  · cases hf
def intsL : List D → Option (List Int)
  | [] => some []
  | .int b :: ds => (intsL ds).bind fun bs => some (b :: bs)
  | _ => none
theorem intsL_vals {K : PySem.W.Frag} {G : Hp} : ∀ {vs : List V} {ds : List D} {bs : List Int}, Reps K G vs ds → intsL ds = some bs → vs = bs.map V.int
  | _, _, bs, .nil, h => by unfold intsL at h; cases h; rfl
  | _, _, bs, .cons (d := d) r rs, h => by
    cases d <;> try (cases h; done)
    simp only [intsL, Option.bind_eq_some_iff] at h
    obtain ⟨bs', h1, h2⟩ := h
    cases h2; cases r
    rw [intsL_vals rs h1]; rfl
def fCount : D → List D → Option D
  | .lst xs, [.int k] => (intsL xs).bind fun ns => some (.int (ns.count k : Nat))
  | _, _ => none
theorem mt_countS {K : PySem.W.Frag} : MtS K "list" (rCntI K) fCount := by
  intro G H v x vs ds d Q hf r rs l k
  unfold fCount at hf
  split at hf
  · obtain ⟨ns, h1, h2⟩ := Option.bind_eq_some_iff.mp hf
    cases h2
    obtain ⟨a, ws, rfl, g1, g2⟩ := r
    cases rs with | cons r' rs =>
    cases rs; cases r'
    exact ⟨a, ns, _, rfl, rfl, by rw [← intsL_vals g2 h1]; exact g1, k _ G H (.refl l) (.int _)⟩
  · cases hf
end
end VL
end
section
set_option Elab.async false
set_option linter.all false
set_option maxRecDepth 100000
set_option maxHeartbeats 1000000
set_option autoImplicit false
namespace VL
open PySem PySem.Spec PyProof.Rows L2

/-! ### order of data -/
def encD (d : D) : PyData := (toP 60 d).getD .none
def leD (a b : D) : Bool := !PySem.W.dataLt (encD b) (encD a)
def sortD (xs : List D) : List D := xs.mergeSort leD
def isTup1 : PyData → Bool
  | .tuple (_ :: _) => true
  | _ => false
def noTup : PyData → Bool
  | .none => false
  | .tuple _ => false
  | _ => true
def okSort (xs : List D) : Bool := match toPs 60 xs with
  | some ps => (ps.all fun p => ps.all fun q => PySem.W.alike p q) && (ps.all isTup1 || ps.all noTup) && decide (xs.length ≤ 16777216)
  | none => false
theorem toPs_enc : ∀ {xs : List D} {ps : List PyData}, toPs 60 xs = some ps → ps = xs.map encD ∧ ∀ x ∈ xs, toP 60 x = some (encD x)
  | [], ps, h => by unfold toPs at h; cases h; exact ⟨rfl, fun x hx => by cases hx⟩
  | x :: xs, ps, h => by
    unfold toPs at h
    obtain ⟨p, h1, h2⟩ := Option.bind_eq_some_iff.mp h
    obtain ⟨qs, h3, rfl⟩ := Option.map_eq_some_iff.mp h2
    obtain ⟨e1, e2⟩ := toPs_enc h3
    have e : encD x = p := by unfold encD; rw [h1]; rfl
    refine ⟨by rw [List.map_cons, e, ← e1], fun y hy => ?_⟩
    rcases List.mem_cons.mp hy with rfl | hy
    · rw [e]; exact h1
    · exact e2 y hy
theorem okSort_of {xs : List D} (h : okSort xs = true) : (∀ x ∈ xs, toP 60 x = some (encD x)) ∧ PySem.W.AllAlike (xs.map encD) ∧ PySem.W.Sortable (xs.map encD) ∧ xs.length ≤ sizeLine := by
  unfold okSort at h
  split at h
  · rename_i ps hp
    obtain ⟨e1, e2⟩ := toPs_enc hp
    rw [Bool.and_eq_true, Bool.and_eq_true, Bool.or_eq_true, decide_eq_true_eq, List.all_eq_true] at h
    obtain ⟨⟨h1, h2⟩, h3⟩ := h
    subst e1
    refine ⟨e2, fun d hd d' hd' => (List.all_eq_true.mp (h1 d hd)) d' hd', ?_, sz_le h3⟩
    rcases h2 with h2 | h2
    · refine .inl fun d hd => ?_
      have := List.all_eq_true.mp h2 d hd
      cases d <;> try (cases this; done)
      rename_i ys
      cases ys with
      | nil => cases this
      | cons y ys => exact ⟨y, ys, rfl⟩
    · refine .inr fun d hd => ?_
      have := List.all_eq_true.mp h2 d hd
      cases d <;> first | (cases this; done) | exact ⟨(fun z => nomatch z), (fun xs z => nomatch z)⟩
  · cases h

/-! ### what the items stand for -/
def Std (K : PySem.W.Frag) (G : Hp) (u : Value) (d : D) : Prop := ∃ v, RelV v u ∧ Rep K G v d
theorem std_of {K : PySem.W.Frag} {G : Hp} : ∀ {vs : List V} {us : List Value} {ds : List D}, Vals vs us → Reps K G vs ds → PySem.W.EachIs (Std K G) us ds
  | _, _, _, .nil, .nil => .nil
  | _, _, _, .cons r rs, .cons h hs => .cons ⟨_, r, h⟩ (std_of rs hs)
theorem of_std {K : PySem.W.Frag} {G : Hp} : ∀ {us : List Value} {ds : List D}, PySem.W.EachIs (Std K G) us ds → ∃ vs, Vals vs us ∧ Reps K G vs ds
  | _, _, .nil => ⟨[], .nil, .nil⟩
  | _, _, .cons ⟨v, r, h⟩ hs => by
    obtain ⟨vs, h1, h2⟩ := of_std hs
    exact ⟨v :: vs, .cons r h1, .cons h h2⟩
theorem depth_enc {d : D} (h : toP 60 d = some (encD d)) : (encD d).depth ≤ 60 := (toP_plain h).2
section
variable {X : Cx}
theorem std_reads {pins : List (Addr × Obj)} {σ : L2.St} {H : Hp} {s : Shared} (I : Inv X pins σ H s) {G : Hp} (l : Le G H) : ∀ {us : List Value} {ds : List D}, PySem.W.EachIs (Std X.K G) us ds → (∀ x ∈ ds, toP 60 x = some (encD x)) → PySem.W.EachIs (fun v b => ∃ as, Reads s.heap v (encD b) as) us ds
  | _, _, .nil, _ => .nil
  | _, _, .cons ⟨v, r, h⟩ hs, ht => .cons (Dp.reads I _ v _ ((h.mono l).dp (ht _ List.mem_cons_self)) r) (std_reads I l hs fun x hx => ht x (List.mem_cons_of_mem _ hx))
def rSortL (K : PySem.W.Frag) : List V → Hp → VK → Prop := fun vs H Q => ∃ a ws ds G, vs = [.ref a] ∧ SqL K H a ws ∧ Le G H ∧ Reps K G ws ds ∧ okSort ds = true ∧ ∀ (ws' : List V) p, Reps K G ws' (sortD ds) → H p = none → Q (.ref p) (upd H p (.lst ws'))
theorem call_sortL (hu : X.A.units + 64 < cLine) : CallR X (.builtin "sorted") (rSortL X.K) := by
  intro pins s σ H xs us Q I r h
  obtain ⟨a, ws, ds, G, rfl, hs, l, rs, ok, q⟩ := h
  rw [Vals.ref1 r]
  obtain ⟨its, rv, pl, hz⟩ := I.list hs
  obtain ⟨t1, t2, t3, t4⟩ := okSort_of ok
  have e := std_of rv rs
  refine PySem.W.sorted_data (enc := encD) (R := Std X.K G) pl.isList e (std_reads I l e t1) t2 t3 t4 (fun b hb => ?_) fun out hl ho => ?_
  · have := depth_enc (t1 b hb); omega
  · obtain ⟨ws', w1, w2⟩ := of_std ho
    have hn : H (s.heap.objs.size + 1) = none := I.hok.fresh (Nat.le_succ _)
    obtain ⟨ep, ha⟩ := PyProof.Rows.sortedAll_at s.heap its out.toArray
    have hlen : ws'.length ≤ sizeLine := by rw [w1.length, hl]; exact t4
    refine ⟨.ref (s.heap.objs.size + 1), upd H (s.heap.objs.size + 1) (.lst ws'), I.laid (t' := s.toks) (fun b o eo => PyProof.Rows.sortedAll_old eo) (Nat.le_succ _) ⟨hlen, out, ep, w1, ha⟩, rfl, q ws' _ ?_ hn⟩
    have : ds.mergeSort (PySem.W.dataLe false encD) = sortD ds := by
      unfold sortD
      rw [PySem.W.dataLe_eq]
      rfl
    rw [this] at w2
    exact w2

/-! ### the keys of a dict -/
def atomD : Key → D
  | .inl i => .int i
  | .inr x => .str x
def keyD (k : List Key) : D := .tup (k.map atomD)
def tupsOf (H : Hp) : Hp := fun b => match H b with
  | some (.tup xs) => some (.tup xs)
  | _ => none
theorem atomD_rep {K : PySem.W.Frag} {G : Hp} : ∀ k : Key, Rep K G (kV k) (atomD k)
  | .inl i => .int i
  | .inr x => .str x
theorem atomDs_rep {K : PySem.W.Frag} {G : Hp} : ∀ k : List Key, Reps K G (k.map kV) (k.map atomD)
  | [] => .nil
  | x :: k => .cons (atomD_rep x) (atomDs_rep k)
theorem keyD_rep {K : PySem.W.Frag} {H : Hp} {b : Addr} {k : List Key} (h : H b = some (.tup (k.map kV))) : Rep K (tupsOf H) (.ref b) (keyD k) :=
  .tup (by unfold tupsOf; rw [h]) (atomDs_rep k)
theorem isKeys_reps {K : PySem.W.Frag} {H : Hp} : ∀ {kvs : List (List Key × V)} {bs : List Addr}, IsKeys H kvs bs → Reps K (tupsOf H) (bs.map V.ref) (kvs.map fun kv => keyD kv.1)
  | _, _, .nil => .nil
  | _, _, .cons h hs => .cons (keyD_rep h) (isKeys_reps hs)
/-- what is known, and every tuple -/
def andTups (G H : Hp) : Hp := fun b => match H b with
  | some (.tup xs) => some (.tup xs)
  | _ => G b
theorem andTups_le {G H : Hp} (l : Le G H) : Le G (andTups G H) ∧ Le (andTups G H) H ∧ Le (tupsOf H) (andTups G H) ∧ ∀ b, andTups G H b ≠ none → G b ≠ none ∨ Tp H b := by
  have key : ∀ b xs, H b = some (.tup xs) → andTups G H b = some (.tup xs) := fun b xs h => by unfold andTups; rw [h]
  have off : ∀ b, (∀ xs, H b ≠ some (.tup xs)) → andTups G H b = G b := fun b h => by
    unfold andTups
    split
    · rename_i xs q; exact absurd q (h xs)
    · rfl
  refine ⟨⟨fun a u h => ?_, fun a xs h => key a xs (l.2 a xs h)⟩, ⟨fun a u h => ?_, fun a xs h => ?_⟩, ⟨fun a u h => ?_, fun a xs h => ?_⟩, fun b hb => ?_⟩
  · rcases Classical.em (∃ xs, H a = some (.tup xs)) with ⟨xs, q⟩ | q
    · rcases l.1 a u h with r | ⟨o, r⟩
      · rw [q] at r; cases r; exact .inl (key a xs q)
      · rw [q] at r; cases r
    · have e := off a fun xs z => q ⟨xs, z⟩
      rcases h with h | ⟨o, h⟩
      · exact .inl (by rw [e]; exact h)
      · exact .inr ⟨o, by rw [e]; exact h⟩
  · rcases Classical.em (∃ xs, H a = some (.tup xs)) with ⟨xs, q⟩ | q
    · have e := key a xs q
      rcases h with h | ⟨o, h⟩ <;> rw [e] at h <;> cases h
      exact .inl q
    · have e := off a fun xs z => q ⟨xs, z⟩
      refine l.1 a u ?_
      rcases h with h | ⟨o, h⟩ <;> rw [e] at h
      · exact .inl h
      · exact .inr ⟨o, h⟩
  · rcases Classical.em (∃ xs, H a = some (.tup xs)) with ⟨ys, q⟩ | q
    · rw [key a ys q] at h; cases h; exact q
    · rw [off a fun xs z => q ⟨xs, z⟩] at h
      exact l.2 a xs h
  · have t : ∀ w, tupsOf H a = some w → andTups G H a = some w := fun w h => by
      unfold tupsOf at h
      split at h
      · rename_i xs q; cases h; exact key a xs q
      · cases h
    rcases h with h | ⟨o, h⟩
    · exact .inl (t _ h)
    · exact .inr ⟨o, t _ h⟩
  · have t : ∀ w, tupsOf H a = some w → andTups G H a = some w := fun w h => by
      unfold tupsOf at h
      split at h
      · rename_i xs q; cases h; exact key a xs q
      · cases h
    exact t _ h
  · rcases Classical.em (∃ xs, H b = some (.tup xs)) with q | q
    · exact .inr q
    · rw [off b fun xs z => q ⟨xs, z⟩] at hb
      exact .inl hb
theorem grow_tups {G H : Hp} (l : Le G H) : Grow G H (andTups G H) H := by
  obtain ⟨h1, h2, h3, h4⟩ := andTups_le l
  exact ⟨h1, fun b h => (h4 b h).imp id .inr, fun b o h => h, h2⟩
def rSortDT (K : PySem.W.Frag) : List V → Hp → VK → Prop := fun vs H Q => ∃ a kvs, vs = [.ref a] ∧ Rd H a (.dT kvs) ∧ okSort (kvs.map fun kv => keyD kv.1) = true ∧
  ∀ (ws' : List V) p, Reps K (tupsOf H) ws' (sortD (kvs.map fun kv => keyD kv.1)) → H p = none → Q (.ref p) (upd H p (.lst ws'))
theorem readsAll_atoms {h : Heap} : ∀ {k : List Key} {us : List Value} {as : List Addr} {ps : List PyData}, toPs 59 (k.map atomD) = some ps → ReadsAll h us ps as → as = []
  | [], us, as, ps, e, r => by
    simp only [List.map_nil, toPs] at e
    cases e
    cases r
    rfl
  | x :: k, us, as, ps, e, r => by
    simp only [List.map_cons, toPs, Option.bind_eq_some_iff] at e
    obtain ⟨p, h1, h2⟩ := e
    obtain ⟨qs, h3, rfl⟩ := Option.map_eq_some_iff.mp h2
    cases r with
    | cons r1 r2 =>
      rw [readsAll_atoms h3 r2]
      cases x with
      | inl i => simp only [atomD, toP] at h1; cases h1; cases r1; rfl
      | inr i => simp only [atomD, toP] at h1; cases h1; cases r1; rfl
theorem reads_key {h : Heap} {k : List Key} {u : Value} {as : List Addr} (ht : toP 60 (keyD k) = some (encD (keyD k))) (r : Reads h u (encD (keyD k)) as) : as = [] := by
  simp only [keyD, toP] at ht
  obtain ⟨ps, h1, h2⟩ := Option.map_eq_some_iff.mp ht
  rw [show encD (keyD k) = .tuple ps from h2.symm] at r
  cases r with
  | tuple _ _ _ r => exact readsAll_atoms h1 r
theorem call_sortDT (hc : X.calm = true) (hu : X.A.units + 64 < cLine) : CallR X (.builtin "sorted") (rSortDT X.K) := by
  intro pins s σ H xs us Q I r h
  obtain ⟨d, kvs, rfl, hd, ok, q⟩ := h
  rw [Vals.ref1 r]
  obtain ⟨z, hs, ks, pr, o, es, ep, ho, hx, hdt, he, hn⟩ := (show ObjOk X.prog X.w H s.heap d (.dT kvs) from hd.ok I.hok)
  have l1 : es.size = ks.length := size_of_entries he
  have l2 : kvs.length = ks.length := Paired.length pr
  obtain ⟨t1, t2, t3, t4⟩ := okSort_of ok
  refine Calls.call_function_entry PyProof.Rows.kind_sorted PyProof.Rows.plain_sorted PyProof.Rows.entry_sorted (PyProof.Rows.args_sorted1 _) ?_
  unfold Builtin.«sorted»
  refine wpAny_bind (m := checkCount "sorted" 1 1 _) (wpAny_pure ?_)
  refine wpAny_bind (PySem.W.kdu_collect (A := X.A.in1) (kdl_raw hs hx hdt) (I.ok.hd hc) ho (by omega) fun h' tk acc' hk it => ?_)
  have ea : acc'.toList = ks.map fun x => Value.ref x.2.1 := by
    have hl : acc'.toList.length = ks.length := by rw [Array.length_toList, it.1]; exact l1
    apply List.ext_getElem?
    intro j
    rw [List.getElem?_map]
    cases hj : acc'.toList[j]? with
    | none =>
      have h1 := List.getElem?_eq_none_iff.mp hj
      rw [List.getElem?_eq_none (by omega)]
      all_goals rfl
    | some v =>
      obtain ⟨en, hen, hv⟩ := it.2 j v (by rw [← Array.getElem?_toList]; exact hj)
      have qe := entry_at he j
      rw [hen] at qe
      cases hb : ks[j]? with
      | none =>
        rw [hb] at qe
        exact nomatch (show some en = none from qe)
      | some b =>
        rw [hb] at qe
        have e2 : en = entryOfKey (tupleKind (mixKind X.prog X.w)) b := Option.some.inj qe
        rw [hv, e2]
        all_goals rfl
  have eb : acc'.toList = (ks.map fun x => x.2.1).map Value.ref := by rw [ea, List.map_map]; all_goals rfl
  have rv : Vals ((ks.map fun x => x.2.1).map V.ref) acc'.toList := by rw [eb]; exact vals_refs _
  have rr : Reps X.K (tupsOf H) ((ks.map fun x => x.2.1).map V.ref) (kvs.map fun kv => keyD kv.1) := isKeys_reps (isKeys_of pr)
  have I1 : Inv X pins σ H { s with heap := h', toks := tk } := I.kept hk
  have hal : acc'.toList.length = kvs.length := by rw [ea, List.length_map]; exact l2.symm
  refine wpAny_bind (wpAny_newList ?_ (by rw [hal]; exact z))
  have hoL : (h'.push (seqObj "list" acc'.toList.toArray 0)).get? h'.objs.size = some (seqObj "list" acc'.toList.toArray 0) := Heap.get?_push_size _ rfl
  show wpAny _ _ _ _ _ { s with heap := h'.push (seqObj "list" acc'.toList.toArray 0), toks := tk }
  have lt : Le (tupsOf H) H := by
    have t : ∀ a w, tupsOf H a = some w → H a = some w := fun a w h => by
      unfold tupsOf at h
      split at h
      · rename_i xs q; cases h; exact q
      · cases h
    refine .of t
  have e := std_of rv rr
  have er : PySem.W.EachIs (fun v b => ∃ as, Reads (h'.push (seqObj "list" acc'.toList.toArray 0)) v (encD b) as ∧ h'.objs.size ∉ as) acc'.toList (kvs.map fun kv => keyD kv.1) := by
    have er0 := std_reads I1 lt e t1
    have : ∀ {us : List Value} {ks : List (List Key × V)}, (∀ x ∈ ks.map (fun kv => keyD kv.1), toP 60 x = some (encD x)) → PySem.W.EachIs (fun v b => ∃ as, Reads h' v (encD b) as) us (ks.map fun kv => keyD kv.1) →
        PySem.W.EachIs (fun v b => ∃ as, Reads (h'.push (seqObj "list" acc'.toList.toArray 0)) v (encD b) as ∧ h'.objs.size ∉ as) us (ks.map fun kv => keyD kv.1) := fun {us ks} => by
      induction ks generalizing us with
      | nil => intro _ h; cases h; exact .nil
      | cons k ks ih =>
        intro ht h
        cases h with
        | cons h1 h2 =>
          obtain ⟨as, r1⟩ := h1
          have := reads_key (ht _ (by simp)) r1
          subst this
          exact .cons ⟨[], PyProof.Rows.Reads.keeps (fun b o e => Heap.get?_push_of_some _ e) r1, by simp⟩ (ih (fun x hx => ht x (List.mem_cons_of_mem _ hx)) h2)
    exact this t1 er0
  refine wpAny_bind (wpAny_holding (PySem.W.list_sort_data (enc := encD) (R := Std X.K (tupsOf H)) (s := { s with heap := h'.push (seqObj "list" acc'.toList.toArray 0), toks := tk }) hoL e er t2 t3 t4 (fun b hb => ?_) fun out hl ho2 => ?_))
  · have := depth_enc (t1 b hb)
    show X.A.units + 1 + 1 + _ < _
    omega
  · obtain ⟨ws', w1, w2⟩ := of_std ho2
    have w2' : Reps X.K (tupsOf H) ws' (sortD (kvs.map fun kv => keyD kv.1)) := by
      have : (kvs.map fun kv => keyD kv.1).mergeSort (PySem.W.dataLe false encD) = sortD (kvs.map fun kv => keyD kv.1) := by
        unfold sortD
        rw [PySem.W.dataLe_eq]
        rfl
      rw [this] at w2
      exact w2
    obtain ⟨e', he'⟩ := PyProof.Rows.sortedHeap_at (vs := acc'.toList) (out := out.toArray) hoL
    have hlen : ws'.length ≤ sizeLine := by rw [w1.length, hl]; exact t4
    refine wpAny_pure ⟨_, rfl, .ref h'.objs.size, upd H h'.objs.size (.lst ws'), I1.laid (t' := tk) (fun b u e => ?_) (Nat.le_refl _)
      (show ObjOk X.prog X.w _ _ _ (.lst ws') from ⟨hlen, out, e', w1, he'⟩), rfl, q ws' _ w2' (I1.hok.fresh (Nat.le_refl _))⟩
    have hb : b < h'.objs.size := Heap.lt_size e
    rw [PyProof.Rows.sortedHeap_old (Nat.ne_of_lt hb) (by rw [size_push']; exact Nat.lt_succ_of_lt hb)]
    exact Heap.get?_push_of_some _ e
end
end VL
end
section
set_option Elab.async false
set_option linter.all false
set_option maxRecDepth 100000
set_option maxHeartbeats 1000000
set_option autoImplicit false
namespace VL
open PySem PySem.Spec PyProof.Rows L2

/-! ### tuples that are known to have no dict -/
section
variable {X : Cx} {B : List Nat}
def tTupZ (t : TA) : TE := fun σ H Q => t σ H fun xs H1 => xs.length ≤ sizeLine ∧ ∀ p o, H1 p = none → o.dict = none → Q (.ref p) (upd H1 p (.frz o (.tup xs)))
theorem pe_tupZ {es : List Expr} {t : TA} {x1 pos} (h : PA X es t) : PE X (.Tuple es x1 pos) (tTupZ t) := by
  refine ⟨fun pins s σ H Q I hq => ?_⟩
  refine wpAny_Tuple_spliced (thn (h.run pos pins s σ H _ I hq) fun us s1 ⟨xs, H1, I1, r, z, q⟩ => ⟨by rw [← r.length]; exact z, ?_⟩)
  have hf : H1 s1.heap.objs.size = none := I1.hok.fresh (Nat.le_refl _)
  refine ⟨.ref s1.heap.objs.size, upd H1 s1.heap.objs.size (.frz { cls := .type "tuple", data := .seq us.toArray } (.tup xs)), I1.laid (t' := s1.toks) (fun b u e => Heap.get?_push_of_some _ e) (Nat.le_refl _) ?_, rfl, q _ _ hf rfl⟩
  exact ⟨Heap.get?_push_size _ rfl, z, us, r, ⟨_, Heap.get?_push_size _ rfl, rfl, _, rfl⟩⟩
theorem sqZ_new {K : PySem.W.Frag} {G : Hp} {p : Addr} {o : Obj} {vs : List V} (ho : o.dict = none) : SqZ K (upd G p (.frz o (.tup vs))) p vs :=
  ⟨.inl (.inr ⟨o, upd_same⟩), .inl ⟨o, .tup vs, .inl upd_same, ho⟩⟩
def mTupZ (ms : ME (List D)) : ME D := fun η => (ms η).bind fun p => if p.1.length ≤ 16777216 then some (.ktup p.1, p.2) else none
theorem ve_tupZ {es : List Expr} {p : Bool} {ms : ME (List D)} {x1 pos} (h : VEs X B p es ms) : VE X B p (.Tuple es x1 pos) (mTupZ ms) := by
  refine pe_imp (pe_tupZ h) fun σ H Q ⟨G, F, η, ρ, d, η', hm, R, k⟩ => ?_
  simp only [mTupZ, Option.bind_eq_some_iff] at hm
  obtain ⟨⟨ds, η1⟩, h1, h2⟩ := hm
  split at h2
  · rename_i hz
    cases h2
    refine ⟨G, F, η, ρ, ds, η1, h1, R, fun vs G1 H1 F1 st1 pu1 R1 r1 => ⟨sz_le (by rw [r1.length]; exact hz), fun q o hq ho => ?_⟩⟩
    have g := Grow.new R1.le (o := .frz o (.tup vs)) hq
    exact k _ _ _ F1 (st1.trans (g.step _)) (fun hp => (pu1 hp).trans g.keep) (R1.grow g) (.ktup (sqZ_new ho) (r1.mono g.le))
  · cases h2
def rTupZ (K : PySem.W.Frag) : List V → Hp → VK → Prop := fun xs H Q => ∃ p ys, xs = [.ref p] ∧ ((SqL K H p ys ∧ ∀ l o, H l = none → o.dict = none → Q (.ref l) (upd H l (.frz o (.tup ys)))) ∨ (SqT K H p ys ∧ Q (.ref p) H))
theorem call_tupleZ : CallR X (.type "tuple") (rTupZ X.K) := by
  intro pins s σ H xs us Q I r h
  obtain ⟨p, ys, rfl, h⟩ := h
  rcases h with ⟨hq, q⟩ | ⟨hq, q⟩
  · obtain ⟨u, rfl, rx⟩ := vals1 r
    cases rx
    obtain ⟨its, r', pl, hz⟩ := I.list hq
    have hlen := r'.length
    refine call_tuple_list pl.isList (fun h' kp => ?_) (by simp only [List.size_toArray] <;> omega)
    have I1 : Inv X pins σ H { s with heap := h' } := I.kept (t' := s.toks) kp
    have I2 : Inv X pins σ (upd H h'.objs.size (.frz { cls := .type "tuple", data := .seq its.toArray } (.tup ys))) { s with heap := h'.push { cls := .type "tuple", data := .seq its.toArray } } :=
      I1.laid (t' := s.toks) (fun b o e => Heap.get?_push_of_some _ e) (Nat.le_refl _) (show ObjOk X.prog X.w _ _ _ (.frz _ (.tup ys)) from ⟨Heap.get?_push_size _ rfl, hz, its, r', IsTup.new _ _⟩)
    exact ⟨.ref h'.objs.size, _, I2, rfl, q _ _ (I1.hok.fresh (Nat.le_refl _)) rfl⟩
  · exact call_tuple_of pins s σ H [.ref p] us Q I r ⟨p, ys, rfl, .inr ⟨hq, q⟩⟩
def fTupZ : List D → Option D
  | [.tup xs] => some (.tup xs)
  | [.ktup xs] => some (.ktup xs)
  | [.lst xs] => some (.ktup xs)
  | _ => none
theorem cs_tupZ {K : PySem.W.Frag} : CallS K (rTupZ K) fTupZ := by
  intro G H vs ds d Q hf rs l k
  unfold fTupZ at hf
  split at hf <;> cases hf
  · cases rs with | cons r rs =>
    cases rs
    cases r with | tup h1 h2 => exact ⟨_, _, rfl, .inr ⟨SqT.of (l.2 _ _ h1), k _ G H (.refl l) (.tup h1 h2)⟩⟩
  · cases rs with | cons r rs =>
    cases rs
    cases r with | ktup h1 h2 => exact ⟨_, _, rfl, .inr ⟨l.sqT h1.1, k _ G H (.refl l) (.ktup h1 h2)⟩⟩
  · cases rs with | cons r rs =>
    cases rs
    obtain ⟨a, vs, rfl, h1, h2⟩ := r
    refine ⟨_, _, rfl, .inl ⟨h1, fun p o hp ho => ?_⟩⟩
    have g := Grow.new l (o := .frz o (.tup vs)) hp
    exact k _ _ _ g (.ktup (sqZ_new ho) (h2.mono g.le))

/-! ### new things of one's own, with more known -/
def CallG (K : PySem.W.Frag) (r : List V → Hp → VK → Prop) (f : List D → Option O1) : Prop := ∀ (G H : Hp) (vs : List V) (ds : List D) (o : O1) (Q : VK), f ds = some o → RepCs K G H vs ds → Le G H →
  (∀ G' H' p u, Grow G H G' H' → H' p = none → Own1 K G' (upd H' p u) [p] (.ref p) o → Q (.ref p) (upd H' p u)) → r vs H Q
theorem vn_callG {e : Expr} {es : List Expr} {q p : Bool} {ms : ME (List Opd)} {r : List V → Hp → VK → Prop} {f : List D → Option O1} (hc : ∀ {t : TA}, PA X es t → PE X e (tCB r t)) (hs : CallG X.K r f)
    (ha : VA X B q p es ms) : VN X B p e (mCallN f ms) := by
  refine pe_imp (hc ha.run) fun σ H Q ⟨G, F, η, ρ, d, η', hm, R, k⟩ => ?_
  simp only [mCallN, Option.bind_eq_some_iff] at hm
  obtain ⟨⟨xs, η1⟩, h1, ds, h2, o, h3, h4⟩ := hm
  cases h4
  refine ⟨G, F, η, ρ, xs, η1, h1, R, fun vs G1 H1 F1 st1 pu1 R1 r1 => ?_⟩
  refine hs G1 H1 vs ds o Q h3 (r1.conts R1 h2) R1.le fun G2 H2 p u g hp ho => ?_
  have R2 := R1.grow g
  obtain ⟨F3, R3, st3⟩ := vn_new R2 hp ho
  exact k _ _ _ F3 ((st1.trans (g.step _)).trans st3) (fun h => (pu1 h).trans ((show Same H1 H2 from g.keep).trans (Grow.lay R2.le hp).keep)) R3
def rSortAll (K : PySem.W.Frag) : List V → Hp → VK → Prop := fun vs H Q => rSortL K vs H Q ∨ rSortDT K vs H Q
theorem call_sortAll (hc : X.calm = true) (hu : X.A.units + 64 < cLine) : CallR X (.builtin "sorted") (rSortAll X.K) := CallR.or (call_sortL hu) (call_sortDT hc hu)
def fSorted : List D → Option O1
  | [.lst xs] => if okSort xs = true then some (.lst (sortD xs)) else none
  | [.dT kvs] => if okSort (kvs.map fun kv => keyD kv.1) = true then some (.lst (sortD (kvs.map fun kv => keyD kv.1))) else none
  | _ => none
theorem RepT.keys {K : PySem.W.Frag} {G : Hp} : ∀ {vs : List (List Key × V)} {ds : List (List Key × D)}, RepT K G vs ds → (vs.map fun kv => keyD kv.1) = ds.map fun kv => keyD kv.1
  | _, _, .nil => rfl
  | _, _, .cons _ hs => by rw [List.map_cons, List.map_cons, RepT.keys hs]
theorem cg_sorted {K : PySem.W.Frag} : CallG K (rSortAll K) fSorted := by
  intro G H vs ds o Q hf rs l k
  unfold fSorted at hf
  split at hf
  · split at hf
    · rename_i hk
      cases hf
      cases rs with | cons r rs =>
      cases rs
      obtain ⟨a, ws, rfl, h1, h2⟩ := r
      exact .inl ⟨a, ws, _, G, rfl, h1, l, h2, hk, fun ws' p w hp => k G H p (.lst ws') (.refl l) hp ⟨p, ws', rfl, rfl, upd_same, w⟩⟩
    · cases hf
  · split at hf
    · rename_i hk
      cases hf
      cases rs with | cons r rs =>
      cases rs
      obtain ⟨a, ws, rfl, h1, h2⟩ := r
      refine .inr ⟨a, ws, rfl, h1, by rw [h2.keys]; exact hk, fun ws' p w hp => ?_⟩
      rw [h2.keys] at w
      exact k (andTups G H) H p (.lst ws') (grow_tups l) hp ⟨p, ws', rfl, rfl, upd_same, w.mono (andTups_le l).2.2.1⟩
    · cases hf
  · cases hf

/-! ### dict(pairs), the keys tuples -/
def mergeT {α : Type} (kvs : List (List Key × α)) : List (List Key × α) := kvs.foldl (fun acc kv => putT acc kv.1 kv.2) []
def mergeV (kvs acc : List (List Key × V)) : List (List Key × V) := kvs.foldl (fun acc kv => putK acc kv.1 kv.2) acc
theorem KT.all {H : Hp} : ∀ {kvs acc : List (List Key × V)} {ps xs : List (List Key × Addr × Value)}, KT H kvs ps → KT H acc xs → KT H (mergeV kvs acc) (storedAllH xs ps)
  | _, _, _, _, .nil, h => h
  | _, _, _, _, .cons (a := p) (b := q) h t, h2 => by
    show KT H (mergeV _ (putK _ p.1 p.2)) (storedAllH (storedH _ q.1 q.2.1 q.2.2) _)
    refine KT.all t ?_
    rw [← h.1]
    exact h2.put p.1 h.2.1 h.2.2
theorem length_mergeV : ∀ (kvs acc : List (List Key × V)), (mergeV kvs acc).length ≤ acc.length + kvs.length
  | [], acc => by show acc.length ≤ acc.length + 0; omega
  | p :: kvs, acc => by
    show (mergeV kvs (putK acc p.1 p.2)).length ≤ _
    have h1 := length_mergeV kvs (putK acc p.1 p.2)
    have h2 := length_putK acc p.1 p.2
    rw [List.length_cons]; omega
def PairV (K : PySem.W.Frag) (H : Hp) (p : V) (kv : List Key × V) : Prop := ∃ c b, p = .ref c ∧ SqT K H c [.ref b, kv.2] ∧ H b = some (.tup (kv.1.map kV))
def rDictT (K : PySem.W.Frag) : List V → Hp → VK → Prop := fun xs H Q => ∃ (a : Addr) (ws : List V) (kvs : List (List Key × V)), xs = [.ref a] ∧ (SqL K H a ws ∨ SqZ K H a ws) ∧ Paired (PairV K H) ws kvs ∧ kvs.length ≤ sizeLine ∧
  ∀ p, H p = none → Q (.ref p) (upd H p (.dT (mergeV kvs [])))
theorem noDict_at {pins : List (Addr × Obj)} {σ : L2.St} {H : Hp} {s : Shared} {a : Addr} (I : Inv X pins σ H s) (h : NoDict X.K H a) : ∃ o, s.heap.get? a = some o ∧ o.dict = none := by
  rcases h with ⟨o, u, h1, h2⟩ | ⟨o, h1, h2⟩
  · rcases h1 with h1 | ⟨o', h1⟩
    · exact ⟨o, (I.hok a _ h1).1, h2⟩
    · exact ⟨o, (I.hok a _ h1).2.1, h2⟩
  · exact ⟨o, I.kIn a o h1, h2⟩
theorem pairs_at {pins : List (Addr × Obj)} {σ : L2.St} {H : Hp} {s : Shared} (I : Inv X pins σ H s) : ∀ {ws : List V} {us : List Value} {kvs : List (List Key × V)}, Vals ws us → Paired (PairV X.K H) ws kvs →
    ∃ (Ts : Nat → Addr) (prs : List (Value × Value)) (ps : List (List Key × Addr × Value)), us.length = prs.length ∧ ps.length = prs.length ∧ KT H kvs ps ∧ (∀ x ∈ ps, (tupleKind (mixKind X.prog X.w)).is s.heap x.1 x.2.1) ∧
      ∀ j k v, prs[j]? = some (k, v) → us[j]? = some (.ref (Ts j)) ∧ PairAt s.heap (Ts j) k v ∧ ∃ kk b, ps[j]? = some (kk, b, v) ∧ k = .ref b
  | _, _, _, .nil, .nil => ⟨fun _ => 0, [], [], rfl, rfl, .nil, (fun x hx => by cases hx), (fun j k v e => by simp at e)⟩
  | _, _, _, .cons (b := u) r rs, .cons (b := kv) h t => by
    obtain ⟨Ts, prs, ps, h1, h2, h3, h4, h5⟩ := pairs_at I rs t
    obtain ⟨c, b, rfl, g1, g2⟩ := h
    cases r
    obtain ⟨its, rv, ht, _⟩ := I.tuple g1
    obtain ⟨u1, u2, rfl, r1, r2⟩ := vals2 rv
    cases r1
    obtain ⟨o, ho, hc, n, hd⟩ := ht
    refine ⟨fun j => match j with
      | 0 => c
      | j + 1 => Ts j, (.ref b, u2) :: prs, (kv.1, b, u2) :: ps, by simp [h1], by simp [h2], .cons ⟨rfl, g2, r2⟩ h3, fun x hx => ?_, fun j k v e => ?_⟩
    · rcases List.mem_cons.mp hx with rfl | hx
      · exact key_of I.hok g2
      · exact h4 x hx
    · cases j with
      | zero =>
        simp at e
        obtain ⟨rfl, rfl⟩ := e
        exact ⟨rfl, .inl ⟨o, ho, hc, n, hd⟩, kv.1, b, rfl, rfl⟩
      | succ j =>
        obtain ⟨q1, q2, kk, b', q3, q4⟩ := h5 j k v (by simpa using e)
        exact ⟨by simpa using q1, q2, kk, b', by simpa using q3, q4⟩
theorem call_dictT (hc : X.calm = true) (hu : X.A.units + 64 < cLine) : CallR X (.type "dict") (rDictT X.K) := by
  intro pins s σ H xs us Q I r h
  obtain ⟨a, ws, kvs, rfl, hs, hp, hz, q⟩ := h
  rw [Vals.ref1 r]
  have hm : (s.heap.objs.size == sysModules) = false := beq_eq_false_iff_ne.mpr (Nat.ne_of_gt I.big)
  have fin : ∀ (ps : List (List Key × Addr × Value)) (h' : Heap) (tk : Nat), KT H kvs ps → h'.DictOfH (tupleKind (mixKind X.prog X.w)) s.heap.objs.size (storedAllH [] ps) → (∀ b o, s.heap.get? b = some o → h'.get? b = some o) → EP X pins σ Q (.ref s.heap.objs.size) { s with heap := h', toks := tk } := fun ps h' tk rel dd hk => by
    obtain ⟨o, es, ep, hq, h2, h3, h4, _, h5⟩ := dd
    have hn : H s.heap.objs.size = none := I.hok.fresh (Nat.le_refl _)
    have kt : KT H (mergeV kvs []) (storedAllH [] ps) := KT.all rel .nil
    have hl := length_mergeV kvs []
    refine ⟨.ref s.heap.objs.size, upd H s.heap.objs.size (.dT (mergeV kvs [])), I.laid (t' := tk) hk (Nat.le_refl _) ⟨by simp at hl; omega, hm, _, kt.keeps fun c ys ec => ?_, o, es, ep, hq, h2, h3, h4, h5⟩, rfl, q _ hn⟩
    rw [upd_ne (ne_of_none ec hn)]; exact ec
  have lp : ∀ {ps : List (List Key × Addr × Value)}, KT H kvs ps → kvs.length = ps.length := fun h => Paired.length h
  rcases hs with hs | hs
  · obtain ⟨its, rv, ⟨o, n, ho, hcl, hd, hdat⟩, _⟩ := I.list hs
    obtain ⟨Ts, prs, ps, h1, h2, h3, h4, h5⟩ := pairs_at I rv hp
    have hlen := lp h3
    refine call_dict_pairsH (knd := tupleKind (mixKind X.prog X.w)) (PairArg.list a its.toArray Ts prs) (I.ok.hd hc) (tupleKind_room_in1 (by show X.A.units + 1 + 1 < _; omega)) ⟨⟨o, n, ho, hcl, hd, hdat⟩, by simp [h1], fun j k v e => ⟨by simpa using (h5 j k v e).1, (h5 j k v e).2.1⟩⟩ ⟨h2, fun j k v e => (h5 j k v e).2.2⟩ (fun h' hk x hx => ?_) (by omega) fun h' tk dd hk => fin ps h' tk h3 dd fun b o e => hk b o (by simp) e
    exact tupleKind_stays.stays (fun b o vs n e _ => hk b o (Nat.ne_of_lt (Heap.lt_size e)) (by simp) e) (h4 x hx)
  · obtain ⟨its, rv, ⟨o, ho, hcl, n, hdat⟩, _⟩ := I.tuple hs.1
    obtain ⟨o', ho', hd⟩ := noDict_at I hs.2
    rw [ho] at ho'; cases ho'
    obtain ⟨Ts, prs, ps, h1, h2, h3, h4, h5⟩ := pairs_at I rv hp
    have hlen := lp h3
    refine call_dict_pairsH (knd := tupleKind (mixKind X.prog X.w)) (PairArg.tuple a its.toArray Ts prs) (I.ok.hd hc) (tupleKind_room_in1 (by show X.A.units + 1 + 1 < _; omega)) ⟨⟨o, n, ho, hcl, hd, hdat⟩, by simp [h1], fun j k v e => ⟨by simpa using (h5 j k v e).1, (h5 j k v e).2.1⟩⟩ ⟨h2, fun j k v e => (h5 j k v e).2.2⟩ (fun h' hk x hx => ?_) (by omega) fun h' tk dd hk => fin ps h' tk h3 dd fun b o e => hk b o (by simp) e
    exact tupleKind_stays.stays (fun b o vs n e _ => hk b o (Nat.ne_of_lt (Heap.lt_size e)) (by simp) e) (h4 x hx)
def pairT (d : D) : Option (List Key × D) := (tupItems d).bind fun xs => match xs with
  | [k, v] => (tupKey k).bind fun ks => some (ks, v)
  | _ => none
def pairsT : List D → Option (List (List Key × D))
  | [] => some []
  | d :: ds => (pairT d).bind fun p => (pairsT ds).bind fun ps => some (p :: ps)
theorem pairsT_ok {K : PySem.W.Frag} {G H : Hp} (l : Le G H) : ∀ {ws : List V} {ds : List D} {kds : List (List Key × D)}, Reps K G ws ds → pairsT ds = some kds → ∃ kvs, Paired (PairV K H) ws kvs ∧ RepT K G kvs kds
  | _, _, _, .nil, h => by unfold pairsT at h; cases h; exact ⟨[], .nil, .nil⟩
  | _, _, _, .cons r rs, h => by
    simp only [pairsT, Option.bind_eq_some_iff] at h
    obtain ⟨p, h1, ps, h2, h3⟩ := h
    cases h3
    obtain ⟨kvs, g1, g2⟩ := pairsT_ok l rs h2
    simp only [pairT, Option.bind_eq_some_iff] at h1
    obtain ⟨xs, e1, e2⟩ := h1
    obtain ⟨a, vs, rfl, e3, e4⟩ := tupItems_rep r e1
    split at e2
    · obtain ⟨ks, e5, e6⟩ := Option.bind_eq_some_iff.mp e2
      cases e6
      cases e4 with | cons r1 e4 =>
      cases e4 with | cons r2 e4 =>
      cases e4
      obtain ⟨b, rfl, hb⟩ := tupKey_rep l (r1.c l) e5
      exact ⟨(ks, _) :: kvs, .cons ⟨a, b, rfl, l.sqT e3, hb⟩ g1, .cons r2 g2⟩
    · cases e2
theorem RepT.merge {K : PySem.W.Frag} {G : Hp} : ∀ {kvs acc : List (List Key × V)} {kds bcc : List (List Key × D)}, RepT K G kvs kds → RepT K G acc bcc → RepT K G (mergeV kvs acc) (kds.foldl (fun acc kv => putT acc kv.1 kv.2) bcc)
  | _, _, _, _, .nil, h => h
  | _, _, _, _, .cons (k := k) (v := v) (d := d) (vs := vs) (ds := ds) r rs, h => by
    show RepT K G (mergeV vs (putK _ k v)) (ds.foldl (fun acc kv => putT acc kv.1 kv.2) (putT _ k d))
    exact RepT.merge rs (h.put r)
def fDictT : List D → Option O1
  | [.lst xs] => if xs.length ≤ 16777216 then (pairsT xs).bind fun kds => some (.dT (mergeT kds)) else none
  | [.ktup xs] => if xs.length ≤ 16777216 then (pairsT xs).bind fun kds => some (.dT (mergeT kds)) else none
  | _ => none
theorem Paired.len {α β : Type} {F : α → β → Prop} : ∀ {a : List α} {b : List β}, Paired F a b → a.length = b.length
  | _, _, .nil => rfl
  | _, _, .cons _ h => by rw [List.length_cons, List.length_cons, Paired.len h]
theorem cg_dictT {K : PySem.W.Frag} : CallG K (rDictT K) fDictT := by
  intro G H vs ds o Q hf rs l k
  unfold fDictT at hf
  split at hf
  · split at hf
    · rename_i hz
      obtain ⟨kds, h1, h2⟩ := Option.bind_eq_some_iff.mp hf
      cases h2
      cases rs with | cons r rs =>
      cases rs
      obtain ⟨a, ws, rfl, g1, g2⟩ := r
      obtain ⟨kvs, q1, q2⟩ := pairsT_ok l g2 h1
      have e1 := Paired.len q1
      have e2 := g2.length
      exact ⟨a, ws, kvs, rfl, .inl g1, q1, sz_le (by omega), fun p hp => k G H p (.dT (mergeV kvs [])) (.refl l) hp ⟨p, _, rfl, rfl, upd_same, RepT.merge q2 .nil⟩⟩
    · cases hf
  · split at hf
    · rename_i hz
      obtain ⟨kds, h1, h2⟩ := Option.bind_eq_some_iff.mp hf
      cases h2
      cases rs with | cons r rs =>
      cases rs
      cases r with | ktup g1 g2 =>
      obtain ⟨kvs, q1, q2⟩ := pairsT_ok l g2 h1
      have e1 := Paired.len q1
      have e2 := g2.length
      exact ⟨_, _, kvs, rfl, .inr (l.sqZ g1), q1, sz_le (by omega), fun p hp => k G H p (.dT (mergeV kvs [])) (.refl l) hp ⟨p, _, rfl, rfl, upd_same, RepT.merge q2 .nil⟩⟩
    · cases hf
  · cases hf
end
end VL
end
section
set_option Elab.async false
set_option linter.all false
set_option maxRecDepth 100000
set_option maxHeartbeats 1000000
set_option autoImplicit false
namespace VL
open PySem PySem.Spec PyProof.Rows L2

/-! ### sorted(set(a list of pairs of small numbers)) -/
def ltP (p q : Int × Int) : Bool := decide (p.1 < q.1 ∨ (p.1 = q.1 ∧ p.2 < q.2))
def insP (p : Int × Int) : List (Int × Int) → List (Int × Int)
  | [] => [p]
  | q :: r => if p = q then q :: r else if ltP p q = true then p :: q :: r else q :: insP p r
def setSort (ps : List (Int × Int)) : List (Int × Int) := ps.foldr insP []
theorem mem_insP {p x : Int × Int} : ∀ {l : List (Int × Int)}, x ∈ insP p l ↔ x = p ∨ x ∈ l
  | [] => by simp [insP]
  | q :: r => by
    unfold insP
    split
    · rename_i h; subst h; simp
    · split
      · simp
      · rw [List.mem_cons, mem_insP, List.mem_cons]
        constructor
        · rintro (h | h | h)
          · exact .inr (.inl h)
          · exact .inl h
          · exact .inr (.inr h)
        · rintro (h | h | h)
          · exact .inr (.inl h)
          · exact .inl h
          · exact .inr (.inr h)
theorem ltP_trans {p q r : Int × Int} (a : ltP p q = true) (b : ltP q r = true) : ltP p r = true := by
  simp only [ltP, decide_eq_true_eq] at *
  omega
theorem ltP_tri {p q : Int × Int} (h : p ≠ q) (n : ¬ ltP p q = true) : ltP q p = true := by
  simp only [ltP, decide_eq_true_eq] at *
  have : ¬ (p.1 = q.1 ∧ p.2 = q.2) := fun e => h (Prod.ext e.1 e.2)
  omega
theorem ltP_irr {p : Int × Int} : ¬ ltP p p = true := by simp [ltP]
theorem insP_sorted {p : Int × Int} : ∀ {l : List (Int × Int)}, l.Pairwise (fun a b => ltP a b = true) → (insP p l).Pairwise (fun a b => ltP a b = true)
  | [], _ => by simp [insP]
  | q :: r, h => by
    unfold insP
    obtain ⟨h1, h2⟩ := List.pairwise_cons.mp h
    split
    · exact h
    · rename_i hne
      split
      · rename_i hlt
        refine List.pairwise_cons.mpr ⟨fun x hx => ?_, h⟩
        rcases List.mem_cons.mp hx with rfl | hx
        · exact hlt
        · exact ltP_trans hlt (h1 x hx)
      · rename_i hlt
        refine List.pairwise_cons.mpr ⟨fun x hx => ?_, insP_sorted h2⟩
        rcases mem_insP.mp hx with rfl | hx
        · exact ltP_tri hne hlt
        · exact h1 x hx
theorem setSort_sorted : ∀ ps : List (Int × Int), (setSort ps).Pairwise (fun a b => ltP a b = true)
  | [] => .nil
  | p :: ps => insP_sorted (setSort_sorted ps)
theorem mem_setSort {x : Int × Int} : ∀ {ps : List (Int × Int)}, x ∈ setSort ps ↔ x ∈ ps
  | [] => Iff.rfl
  | p :: ps => by
    show x ∈ insP p (setSort ps) ↔ _
    rw [mem_insP, mem_setSort, List.mem_cons]
theorem sorted_eq : ∀ {a b : List (Int × Int)}, a.Pairwise (fun a b => ltP a b = true) → b.Pairwise (fun a b => ltP a b = true) → (∀ x, x ∈ a ↔ x ∈ b) → a = b
  | [], [], _, _, _ => rfl
  | [], y :: b, _, _, h => by have := (h y).mpr List.mem_cons_self; cases this
  | x :: a, [], _, _, h => by have := (h x).mp List.mem_cons_self; cases this
  | x :: a, y :: b, ha, hb, h => by
    obtain ⟨a1, a2⟩ := List.pairwise_cons.mp ha
    obtain ⟨b1, b2⟩ := List.pairwise_cons.mp hb
    have e : x = y := by
      rcases List.mem_cons.mp ((h x).mp List.mem_cons_self) with e | e
      · exact e
      · rcases List.mem_cons.mp ((h y).mpr List.mem_cons_self) with e' | e'
        · exact e'.symm
        · exact absurd (ltP_trans (b1 x e) (a1 y e')) ltP_irr
    subst e
    rw [sorted_eq a2 b2 fun z => ?_]
    constructor
    · intro hz
      rcases List.mem_cons.mp ((h z).mp (List.mem_cons_of_mem _ hz)) with e | e
      · subst e; exact absurd (a1 z hz) ltP_irr
      · exact e
    · intro hz
      rcases List.mem_cons.mp ((h z).mpr (List.mem_cons_of_mem _ hz)) with e | e
      · subst e; exact absurd (b1 z hz) ltP_irr
      · exact e
def pairD (p : Int × Int) : D := .tup [.int p.1, .int p.2]
def pairI : D → Option (Int × Int)
  | .tup [.int x, .int y] => if (0 ≤ x ∧ x < 64) ∧ (0 ≤ y ∧ y < 64) then some (x, y) else none
  | _ => none
def pairsI : List D → Option (List (Int × Int))
  | [] => some []
  | d :: ds => (pairI d).bind fun p => (pairsI ds).bind fun ps => some (p :: ps)
def Sm (p : Int × Int) : Prop := (0 ≤ p.1 ∧ p.1 < 64) ∧ (0 ≤ p.2 ∧ p.2 < 64)
theorem pairsI_ok {K : PySem.W.Frag} {G : Hp} : ∀ {ws : List V} {ds : List D} {ps : List (Int × Int)}, Reps K G ws ds → pairsI ds = some ps →
    ∃ ks : List (Addr × Int × Int), ws = ks.map (fun k => V.ref k.1) ∧ ps = ks.map (·.2) ∧ ∀ k ∈ ks, G k.1 = some (.tup [.int k.2.1, .int k.2.2]) ∧ Sm k.2
  | _, _, ps, .nil, h => by unfold pairsI at h; cases h; exact ⟨[], rfl, rfl, fun k hk => by cases hk⟩
  | _, _, ps, .cons (d := d) r rs, h => by
    simp only [pairsI, Option.bind_eq_some_iff] at h
    obtain ⟨p, h1, ps', h2, h3⟩ := h
    cases h3
    obtain ⟨ks, e1, e2, e3⟩ := pairsI_ok rs h2
    unfold pairI at h1
    split at h1
    · rename_i x y
      split at h1
      · rename_i hb
        cases h1
        cases r with
        | tup g1 g2 =>
          cases g2 with | cons r1 g2 =>
          cases g2 with | cons r2 g2 =>
          cases g2; cases r1; cases r2
          rename_i a
          refine ⟨(a, x, y) :: ks, by rw [List.map_cons, ← e1], by rw [List.map_cons, ← e2], fun k hk => ?_⟩
          rcases List.mem_cons.mp hk with rfl | hk
          · exact ⟨g1, hb⟩
          · exact e3 k hk
      · cases h1
    · cases h1
def fSortSet : List D → Option O1
  | [.lst xs] => (pairsI xs).bind fun ps => if ps.length < 64 then some (.lst ((setSort ps).map pairD)) else none
  | _ => none
section
variable {X : Cx} {B : List Nat}
theorem vn_sortSet {e : Expr} {q p : Bool} {ms : ME (List Opd)} {p1 p2 pos1 pos2 : Pos} (hc : X.calm = true) (hu : X.A.units + 64 < cLine) (hg : Gl X "sorted") (hm : X.mg "sorted" = none) (hg2 : Gl X "set") (hm2 : X.mg "set" = none) (ha : VA X B q p [e] ms)
    (he : starEach [.Call (.Name "set" p2) [e] [] pos2] X.env = (false, eval (.Call (.Name "set" p2) [e] [] pos2) X.env) :: starEach [] X.env := by rfl) (he2 : starEach [e] X.env = (false, eval e X.env) :: starEach [] X.env := by rfl) :
    VN X B p (.Call (.Name "sorted" p1) [.Call (.Name "set" p2) [e] [] pos2] [] pos1) (mCallN fSortSet ms) := by
  have hset : PE X (.Call (.Name "set" p2) [e] [] pos2) (tCB (rSetOfT X.K X.prog X.w) (rdA X.K B p ms)) := pe_callTy (cr_setOfT hc hu) hg2 hm2 (by rfl) ha.run (by decide) (by decide) he2 (by rfl)
  have hall : PE X (.Call (.Name "sorted" p1) [.Call (.Name "set" p2) [e] [] pos2] [] pos1) (tCB (rSortedT X.K X.prog X.w) (tCons (tCB (rSetOfT X.K X.prog X.w) (rdA X.K B p ms)) tNil)) :=
    pe_callB (cr_sortedT hc) hg hm (by rfl) (pa_cons hset pa_nil he) (by decide) (by decide) he (by rfl)
  refine pe_imp hall fun σ H Q ⟨G, F, η, ρ, d, η', hm, R, k⟩ => ?_
  simp only [mCallN, Option.bind_eq_some_iff] at hm
  obtain ⟨⟨xs, η1⟩, h1, ds, h2, o, h3, h4⟩ := hm
  cases h4
  refine ⟨G, F, η, ρ, xs, η1, h1, R, fun vs G1 H1 F1 st1 pu1 R1 r1 => ?_⟩
  have rc := r1.conts R1 h2
  unfold fSortSet at h3
  split at h3
  · obtain ⟨ps, h5, h6⟩ := Option.bind_eq_some_iff.mp h3
    split at h6
    · rename_i hlen
      cases h6
      cases rc with | cons r rs =>
      cases rs
      obtain ⟨l, ws, rfl, g1, g2⟩ := r
      obtain ⟨ks, e1, e2, e3⟩ := pairsI_ok g2 h5
      subst e1
      subst e2
      have kz : ∀ p ∈ ks.map (fun k => (k.1, [k.2.1, k.2.2])), SqT X.K H1 p.1 (p.2.map V.int) := fun p hp => by
        obtain ⟨k, hk, rfl⟩ := List.mem_map.mp hp
        exact SqT.of (R1.le.2 _ _ (e3 k hk).1)
      refine ⟨l, ks.map fun k => (k.1, [k.2.1, k.2.2]), rfl, by rw [List.map_map]; exact g1, kz, by simpa using hlen, fun a L hna hL hL2 => ?_⟩
      have gset := Grow.lay R1.le (o := SetTO X.prog X.w a L) hna
      refine ⟨a, L, 2, 64, rfl, upd_same, fun p hp => ?_, by omega, fun p hp => ?_, fun L' p pm nd few pw hp => ?_⟩
      · rcases kz p (hL p hp) with q | q
        · refine .inl ?_
          rcases q with q | ⟨o, q⟩
          · exact .inl (gset.keep _ _ q)
          · exact .inr ⟨o, gset.keep _ _ q⟩
        · exact .inr q
      · obtain ⟨k, hk, rfl⟩ := List.mem_map.mp (hL p hp)
        refine ⟨rfl, fun m hm => ?_⟩
        have sm := (e3 k hk).2
        rcases List.mem_cons.mp hm with rfl | hm
        · exact sm.1
        · rcases List.mem_cons.mp hm with rfl | hm
          · exact sm.2
          · cases hm
      · have hmem : ∀ z ∈ L', ∃ k ∈ ks, z = (k.1, [k.2.1, k.2.2]) := fun z hz => by
          obtain ⟨k, hk, e⟩ := List.mem_map.mp (hL z (pm.mem_iff.mp hz))
          exact ⟨k, hk, e.symm⟩
        have chosen : ∃ M : List (Addr × Int × Int), L' = M.map (fun k => (k.1, [k.2.1, k.2.2])) ∧ ∀ k ∈ M, k ∈ ks := by
          clear pm nd few pw hp
          induction L' with
          | nil => exact ⟨[], rfl, fun k hk => by cases hk⟩
          | cons z L' ih =>
            obtain ⟨M, m1, m2⟩ := ih fun z hz => hmem z (List.mem_cons_of_mem _ hz)
            obtain ⟨k, hk, rfl⟩ := hmem z List.mem_cons_self
            refine ⟨k :: M, by rw [List.map_cons, m1], fun j hj => ?_⟩
            rcases List.mem_cons.mp hj with rfl | hj
            · exact hk
            · exact m2 j hj
        obtain ⟨M, m1, m2⟩ := chosen
        have sorted : (M.map (·.2)).Pairwise (fun a b => ltP a b = true) := by
          rw [m1] at pw nd
          rw [List.map_map] at nd
          rw [List.pairwise_map] at pw ⊢
          have nd2 : M.Pairwise (fun a b => ([a.2.1, a.2.2] : List Int) ≠ [b.2.1, b.2.2]) := by
            have := nd
            unfold List.Nodup at this
            rw [List.pairwise_map] at this
            exact this
          have both := (List.pairwise_and_iff.mpr ⟨pw, nd2⟩)
          refine List.Pairwise.imp_of_mem (fun {x y} hx hy hxy => ?_) both
          have sx := (e3 x (m2 x hx)).2
          have sy := (e3 y (m2 y hy)).2
          simp only [ltP, decide_eq_true_eq]
          exact pair_lt hxy.1 hxy.2 sx.1 sx.2 sy.1 sy.2
        have same : M.map (·.2) = setSort (ks.map (·.2)) := by
          refine sorted_eq sorted (setSort_sorted _) fun x => ?_
          rw [mem_setSort]
          constructor
          · intro hx
            obtain ⟨k, hk, rfl⟩ := List.mem_map.mp hx
            exact List.mem_map.mpr ⟨k, m2 k hk, rfl⟩
          · intro hx
            obtain ⟨k, hk, rfl⟩ := List.mem_map.mp hx
            have := hL2 (k.1, [k.2.1, k.2.2]) (List.mem_map.mpr ⟨k, hk, rfl⟩)
            obtain ⟨z, hz, ez⟩ := List.mem_map.mp this
            have hz' := pm.mem_iff.mpr hz
            rw [m1] at hz'
            obtain ⟨j, hj, rfl⟩ := List.mem_map.mp hz'
            have ez : ([j.2.1, j.2.2] : List Int) = [k.2.1, k.2.2] := ez
            injection ez with q1 q2
            injection q2 with q2 _
            exact List.mem_map.mpr ⟨j, hj, Prod.ext q1 q2⟩
        have reps : Reps X.K G1 (L'.map fun q => V.ref q.1) ((setSort (ks.map (·.2))).map pairD) := by
          rw [← same, m1, List.map_map, List.map_map]
          clear same sorted m1 pm nd few pw
          induction M with
          | nil => exact .nil
          | cons k M ih =>
            exact .cons (.tup (e3 k (m2 k List.mem_cons_self)).1 (.cons (.int _) (.cons (.int _) .nil))) (ih fun j hj => m2 j (List.mem_cons_of_mem _ hj))
        have R2 := R1.grow gset
        obtain ⟨F3, R3, st3⟩ := vn_new (u := .lst (L'.map fun q => V.ref q.1)) (o := .lst ((setSort (ks.map (·.2))).map pairD)) R2 hp ⟨p, _, rfl, rfl, upd_same, reps⟩
        exact k _ _ _ F3 ((st1.trans (gset.step _)).trans st3) (fun h => (pu1 h).trans ((show Same H1 _ from gset.keep).trans (Grow.lay R2.le hp).keep)) R3
    · cases h6
  · cases h3
end
end VL
end
section
set_option Elab.async false
set_option linter.all false
set_option maxRecDepth 100000
set_option maxHeartbeats 1000000
set_option autoImplicit false
namespace VL
open PySem PySem.Spec PyProof.Rows L2

/-! ### what the text says, by the kernel -/
def visB (sc : Scope) (x : Str) : Bool := match sc.names.lookup x with
  | some .local => true
  | some .cell => true
  | some .free => true
  | _ => false
theorem visB_of {sc : Scope} {x : Str} (h : visB sc x = true) : Vis sc x := by
  unfold visB at h
  split at h
  · rename_i q; exact .inl q
  · rename_i q; exact .inr (.inl q)
  · rename_i q; exact .inr (.inr q)
  · cases h
def locB (sc : Scope) (x : Str) : Bool := match sc.names.lookup x with
  | some .local => true
  | some .cell => true
  | _ => false
theorem locB_of {sc : Scope} {x : Str} (h : locB sc x = true) : Loc sc x := by
  unfold locB at h
  split at h
  · rename_i q; exact .inl q
  · rename_i q; exact .inr q
  · cases h
def isKind (k : NameKind) (sc : Scope) (x : Str) : Bool := match sc.names.lookup x, k with
  | some .local, .local => true
  | _, _ => false
theorem isKind_of {sc : Scope} {x : Str} (h : isKind .local sc x = true) : sc.names.lookup x = some .local := by
  unfold isKind at h
  split at h
  · rename_i q _; exact q
  · cases h
def nmB (x : Str) : Bool := !(x == ("__debug__" : Str)) && !(x == ("__classdict__" : Str))
theorem nmB_of {x : Str} (h : nmB x = true) : (x == ("__debug__" : Str)) = false ∧ (x == ("__classdict__" : Str)) = false := by
  unfold nmB at h
  rw [Bool.and_eq_true, Bool.not_eq_true', Bool.not_eq_true'] at h
  exact h
def freeB (sc : Scope) (x : Str) : Bool := match sc.names.lookup x with
  | some .cell => true
  | some .free => true
  | _ => false
def ownB (own : List (Str × Nat)) (N : List Str) (x : Str) : Bool := (own.map (·.1)).contains x || !N.contains x
def blkB (N : List Str) (sc scope : Scope) (own : List (Str × Nat)) : Bool :=
  (match scope.kind with
    | .function => true
    | _ => false) && (scope.names.all fun y => decide (scope.names.lookup y.1 = some y.2)) && (own.all fun p => decide (N[p.2]? = some p.1)) &&
  (scope.names.all fun y => match y.2 with
    | .free => freeB sc y.1
    | .local => ownB own N y.1
    | .cell => ownB own N y.1
    | _ => true)
theorem blkB_of {N : List Str} {sc scope : Scope} {own : List (Str × Nat)} (h : blkB N sc scope own = true) : BlkOk N sc scope own := by
  unfold blkB at h
  rw [Bool.and_eq_true, Bool.and_eq_true, Bool.and_eq_true, List.all_eq_true, List.all_eq_true, List.all_eq_true] at h
  obtain ⟨⟨⟨h1, h2⟩, h3⟩, h4⟩ := h
  refine ⟨?_, fun y hy => by simpa using h2 y hy, fun p hp => by simpa using h3 p hp, fun y hy e => ?_, fun y hy e => ?_⟩
  · split at h1
    · rename_i q; exact q
    · cases h1
  · have := h4 y hy
    rw [e] at this
    have this : freeB sc y.1 = true := this
    unfold freeB at this
    split at this
    · rename_i q; exact .inl q
    · rename_i q; exact .inr q
    · cases this
  · have := h4 y hy
    have o : ownB own N y.1 = true := by rcases e with e | e <;> (rw [e] at this; exact this)
    unfold ownB at o
    rw [Bool.or_eq_true, Bool.not_eq_true'] at o
    rcases o with o | o
    · exact .inl (List.contains_iff_mem.mp o)
    · exact .inr fun q => by rw [List.contains_iff_mem.mpr q] at o; cases o
section
variable {X : Cx} {B : List Nat}
/-- the name in slot i -/
theorem pn (i : Nat) {x : Str} {pos : Pos} (hN : X.N[i]? = some x := by kernel_rfl) (hv : visB X.env.scope x = true := by kernel_rfl) (hd : nmB x = true := by kernel_rfl) : PE X (.Name x pos) (tVar i) :=
  pe_var hN (visB_of hv) (nmB_of hd).1 (nmB_of hd).2
theorem vN (i : Nat) {x : Str} {pos : Pos} (hN : X.N[i]? = some x := by kernel_rfl) (hv : visB X.env.scope x = true := by kernel_rfl) (hd : nmB x = true := by kernel_rfl) : VE X B true (.Name x pos) (mName i) := ve_name i (pn i hN hv hd)
theorem oN (i : Nat) {x : Str} {pos : Pos} (hN : X.N[i]? = some x := by kernel_rfl) (hv : visB X.env.scope x = true := by kernel_rfl) (hd : nmB x = true := by kernel_rfl) : VO X B false true (.Name x pos) (mLoc i) := vo_loc i (pn i hN hv hd)
theorem takeN (i : Nat) {x : Str} {pos : Pos} (hN : X.N[i]? = some x := by kernel_rfl) (hv : visB X.env.scope x = true := by kernel_rfl) (hd : nmB x = true := by kernel_rfl) : VE X B true (.Name x pos) (mTake i) := ve_take i (pn i hN hv hd)
theorem moveN (i : Nat) {x : Str} {pos : Pos} (hN : X.N[i]? = some x := by kernel_rfl) (hv : visB X.env.scope x = true := by kernel_rfl) (hd : nmB x = true := by kernel_rfl) : VN X B true (.Name x pos) (mMove i) := vn_move i (pn i hN hv hd)
theorem sSet (i : Nat) {x : Str} {e : Expr} {p : Bool} {m : ME O} {pos pos' : Pos} (he : VN X B p e m) (hN : X.N.Nodup := by assumption) (hi : X.N[i]? = some x := by kernel_rfl) (hx : locB X.env.scope x = true := by kernel_rfl) (hB : i ∉ B := by decide)
    (hs : swapsWith e (some (.Name x pos')) pos.line X.env = pure false := by kernel_rfl) (hf : X.fn x = true := by kernel_rfl) : VS X B (.Assign [.Name x pos'] e pos) (mSet i m) := vs_set hN hi (locB_of hx) he hB hs (.inl hf)
theorem gN (i : Nat) {x : Str} {pos : Pos} (hN : X.N.Nodup := by assumption) (hi : X.N[i]? = some x := by kernel_rfl) (hx : locB X.env.scope x = true := by kernel_rfl) (hB : i ∉ B := by decide) (hf : X.fn x = true := by kernel_rfl) : VG X B [i] (.Name x pos) (gmName i) := vg_name hN hi (locB_of hx) hB (.inl hf)
/-- a target of a comprehension: local to its block -/
theorem gL (i : Nat) {x : Str} {pos : Pos} (hN : X.N.Nodup := by assumption) (hi : X.N[i]? = some x := by kernel_rfl) (hx : isKind .local X.env.scope x = true := by kernel_rfl) (hB : i ∉ B := by decide) : VG X B [i] (.Name x pos) (gmName i) := vg_name hN hi (.inl (isKind_of hx)) hB (.inr (isKind_of hx))
theorem sPar (i j : Nat) {x y : Str} {a b : Expr} {m : ME (List O)} {px py pt pos : Pos} {kt k2 pt2} (ha : VNs X B [a, b] m) (hN : X.N.Nodup := by assumption) (hc : X.calm = true := by kernel_rfl) (hi : X.N[i]? = some x := by kernel_rfl) (hj : X.N[j]? = some y := by kernel_rfl)
    (hx : isKind .local X.env.scope x = true := by kernel_rfl) (hy : isKind .local X.env.scope y = true := by kernel_rfl) (hij : i ≠ j := by decide) (hBi : i ∉ B := by decide) (hBj : j ∉ B := by decide)
    (hw : swappedStores [.Tuple [.Name x px, .Name y py] kt pt] (.Tuple [a, b] k2 pt2) X.env = pure (some [x, y]) := by kernel_rfl)
    (hs : swapsWithSole [.Tuple [.Name x px, .Name y py] kt pt] (.Tuple [a, b] k2 pt2) pos.line X.env = pure false := by kernel_rfl) :
    VS X B (.Assign [.Tuple [.Name x px, .Name y py] kt pt] (.Tuple [a, b] k2 pt2) pos) (mPar2 i j m) := vs_par hc hN hi hj (isKind_of hx) (isKind_of hy) ha hij hBi hBj hw hs
theorem sPar3 (i j l : Nat) {x y z : Str} {a b c : Expr} {m : ME (List O)} {px py pz pt pos : Pos} {kt k2 pt2} (ha : VNs X B [a, b, c] m) (hN : X.N.Nodup := by assumption) (hc : X.calm = true := by kernel_rfl) (hi : X.N[i]? = some x := by kernel_rfl) (hj : X.N[j]? = some y := by kernel_rfl) (hl : X.N[l]? = some z := by kernel_rfl)
    (hx : isKind .local X.env.scope x = true := by kernel_rfl) (hy : isKind .local X.env.scope y = true := by kernel_rfl) (hz : isKind .local X.env.scope z = true := by kernel_rfl)
    (hij : i ≠ j := by decide) (hil : i ≠ l := by decide) (hjl : j ≠ l := by decide) (hBi : i ∉ B := by decide) (hBj : j ∉ B := by decide) (hBl : l ∉ B := by decide)
    (hw : swappedStores [.Tuple [.Name x px, .Name y py, .Name z pz] kt pt] (.Tuple [a, b, c] k2 pt2) X.env = pure (some [x, y, z]) := by kernel_rfl)
    (hs : swapsWithSole [.Tuple [.Name x px, .Name y py, .Name z pz] kt pt] (.Tuple [a, b, c] k2 pt2) pos.line X.env = pure false := by kernel_rfl) :
    VS X B (.Assign [.Tuple [.Name x px, .Name y py, .Name z pz] kt pt] (.Tuple [a, b, c] k2 pt2) pos) (mPar3 i j l m) := vs_par3 hc hN hi hj hl (isKind_of hx) (isKind_of hy) (isKind_of hz) ha hij hil hjl hBi hBj hBl hw hs

/-! ### a op b op' c -/
def mChain (f g : D → D → Option D) (ma mb mc : ME Opd) : ME D := fun η => (ma η).bind fun p => (mb p.2).bind fun q => (cont q.2 p.1).bind fun a => (cont q.2 q.1).bind fun b => (f a b).bind fun d => match d with
  | .bl true => (mc q.2).bind fun r => (cont r.2 q.1).bind fun b' => (cont r.2 r.1).bind fun c => (g b' c).bind fun d => some (d, r.2)
  | .bl false => some (.bl false, q.2)
  | _ => none
theorem chain_imp {K : PySem.W.Frag} {r r' : R2} {f g : D → D → Option D} {qa qb pa pb pc : Bool} {ma mb mc : ME Opd} (hs : OpS K r f) (hs' : OpS K r' g) (na : qa = false → ∀ η x η', ma η = some (x, η') → x.isF = false) (nb : qb = false → ∀ η x η', mb η = some (x, η') → x.isF = false)
    (hq : qa = false ∨ pb = true) (hq2 : qb = false ∨ pc = true) (σ : L2.St) (H : Hp) (Q : VK) (h : rdE K B (pa && (pb && pc)) (mChain f g ma mb mc) σ H Q) :
    tChain r r' (rdO K B pa ma) (rdO K B pb mb) (rdO K B pc mc) σ H Q := by
  obtain ⟨G, F, η, ρ, d, η', hm, R, k⟩ := h
  simp only [mChain, Option.bind_eq_some_iff] at hm
  obtain ⟨⟨x, η1⟩, h1, ⟨y, η2⟩, h2, a', h3, b', h4, d', h5, h6⟩ := hm
  refine ⟨G, F, η, ρ, x, η1, h1, R, fun v G1 H1 F1 st1 pu1 R1 r1 => ?_⟩
  refine ⟨G1, F1, η1, ρ, y, η2, h2, R1, fun u G2 H2 F2 st2 pu2 R2 r2 => ?_⟩
  have r1' : RepP K G2 H2 σ v x := r1.step st2 (by
    rcases hq with hq | hq
    · exact .inl (na hq _ _ _ h1)
    · exact .inr (pu2 hq))
  refine hs G2 H2 v u a' b' d' _ h5 (r1'.cont R2 h3) (r2.cont R2 h4) R2.le fun z G3 H3 g3 r3 => ?_
  have R3 := R2.grow g3
  split at h6
  · cases r3
    refine ⟨true, rfl, ?_⟩
    simp only [if_true]
    obtain ⟨⟨c, η3⟩, h7, h8⟩ := Option.bind_eq_some_iff.mp h6
    simp only [Option.bind_eq_some_iff] at h8
    obtain ⟨b2, h9, c2, h10, d2, h11, h12⟩ := h8
    cases h12
    refine ⟨G3, F2, η2, ρ, c, _, h7, R3, fun w G4 H4 F4 st4 pu4 R4 r4 => ?_⟩
    have r2' : RepP K G4 H4 σ u y := r2.step ((g3.step (OwnP F2)).trans st4) (by
      rcases hq2 with hq | hq
      · exact .inl (nb hq _ _ _ h2)
      · exact .inr ((show Same H2 H3 from g3.keep).trans (pu4 hq)))
    refine hs' G4 H4 u w b2 c2 _ Q h11 (r2'.cont R4 h9) (r4.cont R4 h10) R4.le fun z G5 H5 g5 r5 => ?_
    refine k z G5 H5 F4 ((((st1.trans st2).trans (g3.step _)).trans st4).trans (g5.step _)) (fun hp => ?_) (R4.grow g5) r5
    rw [Bool.and_eq_true, Bool.and_eq_true] at hp
    exact ((((pu1 hp.1).trans (pu2 hp.2.1)).trans (show Same H2 H3 from g3.keep)).trans (pu4 hp.2.2)).trans (show Same H4 H5 from g5.keep)
  · cases h6
    cases r3
    refine ⟨false, rfl, ?_⟩
    simp only [Bool.false_eq_true, if_false]
    refine k _ G3 H3 F2 ((st1.trans st2).trans (g3.step _)) (fun hp => ?_) R3 (.bl false)
    rw [Bool.and_eq_true, Bool.and_eq_true] at hp
    exact ((pu1 hp.1).trans (pu2 hp.2.1)).trans (show Same H2 H3 from g3.keep)
  · cases h6
theorem ve_chain {op op' : CmpOp} {r r' : R2} {f g : D → D → Option D} {a b c : Expr} {qa qb qc pa pb pc : Bool} {ma mb mc : ME Opd} {pos : Pos} (ho : OpR X (compareOp op) r) (ho' : OpR X (compareOp op') r') (hs : OpS X.K r f) (hs' : OpS X.K r' g)
    (ha : VO X B qa pa a ma) (hb : VO X B qb pb b mb) (hc : VO X B qc pc c mc) (hq : qa = false ∨ pb = true := by decide) (hq2 : qb = false ∨ pc = true := by decide) (hm : lastMarks [op, op'] [b, c] = false := by with_unfolding_all rfl) :
    VE X B (pa && (pb && pc)) (.Compare a [op, op'] [b, c] pos) (mChain f g ma mb mc) :=
  pe_imp (pe_chain ho ho' ha.run hb.run hc.run hm) fun σ H Q h => chain_imp hs hs' ha.nof hb.nof hq hq2 σ H Q h
theorem vt_chain {op op' : CmpOp} {r r' : R2} {f g : D → D → Option D} {a b c : Expr} {qa qb qc pa pb pc : Bool} {ma mb mc : ME Opd} {pos : Pos} (ho : OpR X (compareOp op) r) (ho' : OpR X (compareOp op') r') (hs : OpS X.K r f) (hs' : OpS X.K r' g)
    (ha : VO X B qa pa a ma) (hb : VO X B qb pb b mb) (hc : VO X B qc pc c mc) (hq : qa = false ∨ pb = true := by decide) (hq2 : qb = false ∨ pc = true := by decide) (hm : lastMarks [op, op'] [b, c] = false := by with_unfolding_all rfl) :
    VT X B (pa && (pb && pc)) (.Compare a [op, op'] [b, c] pos) (mB (mChain f g ma mb mc)) :=
  vt_of (pt_imp (pt_chain ho ho' ha.run hb.run hc.run hm) fun σ H Q h => chain_imp hs hs' ha.nof hb.nof hq hq2 σ H _ h)
/-- not of any value that is a bool: the kit's -/
theorem ve_cmp {op : CmpOp} {r : R2} {f : D → D → Option D} {a b : Expr} {qa qb pa pb : Bool} {ma mb : ME Opd} {pos : Pos} (ho : OpR X (compareOp op) r) (hs : OpS X.K r f) (ha : VO X B qa pa a ma) (hb : VO X B qb pb b mb) (hq : qa = false ∨ pb = true := by decide)
    (hm : behindInMarks op b = false := by kernel_rfl) : VE X B (pa && pb) (.Compare a [op] [b] pos) (mOp2 f ma mb) := ve_op2 (fun h1 h2 => pe_cmpR ho h1 h2 hm) hs ha hb hq
theorem vt_cmp {op : CmpOp} {r : R2} {f : D → D → Option D} {a b : Expr} {qa qb pa pb : Bool} {ma mb : ME Opd} {pos : Pos} (ho : OpR X (compareOp op) r) (hs : OpS X.K r f) (ha : VO X B qa pa a ma) (hb : VO X B qb pb b mb) (hq : qa = false ∨ pb = true := by decide)
    (hm : behindInMarks op b = false := by kernel_rfl) : VT X B (pa && pb) (.Compare a [op] [b] pos) (mB (mOp2 f ma mb)) := vt_op2 (fun h1 h2 => pt_cmpR ho h1 h2 hm) hs ha hb hq
theorem ve_bin {op : Operator} {r : R2} {f : D → D → Option D} {a b : Expr} {qa qb pa pb : Bool} {ma mb : ME Opd} {pos : Pos} (ho : OpR X (binaryOp op) r) (hs : OpS X.K r f) (ha : VO X B qa pa a ma) (hb : VO X B qb pb b mb) (hq : qa = false ∨ pb = true := by decide) :
    VE X B (pa && pb) (.BinOp a op b pos) (mOp2 f ma mb) := ve_op2 (fun h1 h2 => pe_op ho h1 h2) hs ha hb hq
theorem ve_neg {a : Expr} {qa pa : Bool} {ma : ME Opd} {pos : Pos} (ha : VO X B qa pa a ma) : VE X B pa (.UnaryOp .USub a pos) (mUn dNeg ma) := ve_un (fun h => pe_un un_neg h) us_neg ha
theorem ve_at {a b : Expr} {qa qb pa pb : Bool} {ma mb : ME Opd} {pos : Pos} (hu : X.A.units + 64 < cLine) (ha : VO X B qa pa a ma) (hb : VO X B qb pb b mb) (hq : qa = false ∨ pb = true := by decide) (hs : PlainIx b := by intro _ _; rfl) : VE X B (pa && pb) (.Subscript a b pos) (mOp2 dIx ma mb) :=
  ve_op2 (fun h1 h2 => pe_ix (ix_all hu) h1 h2 hs) os_ix ha hb hq
theorem ve_gl {x : Str} {v : V} {u : Value} {d : D} {pos : Pos} (hm : X.mg x = some u) (r : RelV v u) (rp : ∀ K G, Rep K G v d) (hg : X.env.kindOf x = some .globalImplicit := by kernel_rfl) (hd : (x == ("__debug__" : Str)) = false := by kernel_rfl) : VE X B true (.Name x pos) (mC d) :=
  ve_c (pe_glob hg hm r hd) rp
theorem ve_tyN {x : Str} {T : String} {pos : Pos} (hm : X.mg x = none) (hv : bootBuiltins x = some (.type T)) (hg : X.env.kindOf x = some .globalImplicit := by kernel_rfl) (hn : x ≠ "__name__" := by decide) (hd : (x == ("__debug__" : Str)) = false := by kernel_rfl) : VE X B true (.Name x pos) (mC (.ty T)) := ve_ty hg hm hv hn hd
/-- a builtin function, a builtin type -/
theorem callB {id : String} {x : Str} {e : Expr} {es : List Expr} {q p : Bool} {ms : ME (List Opd)} {r : List V → Hp → VK → Prop} {f : List D → Option D} {p0 pos : Pos} (hc : CallR X (.builtin id) r) (hs : CallS X.K r f) (hm : X.mg x = none) (hv : bootBuiltins x = some (.builtin id)) (ha : VA X B q p (e :: es) ms)
    (hg : X.env.kindOf x = some .globalImplicit := by kernel_rfl) (hn : x ≠ "__name__" := by decide) (hdb : (x == ("__debug__" : Str)) = false := by kernel_rfl) (he : starEach (e :: es) X.env = (false, eval e X.env) :: starEach es X.env := by kernel_rfl) (hpl : (backTo pos (starEach es X.env)).any (·.1) = false := by kernel_rfl) :
    VE X B p (.Call (.Name x p0) (e :: es) [] pos) (mCall f ms) := ve_call (fun h => pe_callB hc hg hm hv h hn hdb he hpl) hs ha
theorem callT {T : String} {x : Str} {e : Expr} {es : List Expr} {q p : Bool} {ms : ME (List Opd)} {r : List V → Hp → VK → Prop} {f : List D → Option D} {p0 pos : Pos} (hc : CallR X (.type T) r) (hs : CallS X.K r f) (hm : X.mg x = none) (hv : bootBuiltins x = some (.type T)) (ha : VA X B q p (e :: es) ms)
    (hg : X.env.kindOf x = some .globalImplicit := by kernel_rfl) (hn : x ≠ "__name__" := by decide) (hdb : (x == ("__debug__" : Str)) = false := by kernel_rfl) (he : starEach (e :: es) X.env = (false, eval e X.env) :: starEach es X.env := by kernel_rfl) (hpl : (backTo pos (starEach es X.env)).any (·.1) = false := by kernel_rfl) :
    VE X B p (.Call (.Name x p0) (e :: es) [] pos) (mCall f ms) := ve_call (fun h => pe_callTy hc hg hm hv h hn hdb he hpl) hs ha
theorem callTN {T : String} {x : Str} {e : Expr} {es : List Expr} {q p : Bool} {ms : ME (List Opd)} {r : List V → Hp → VK → Prop} {f : List D → Option O1} {p0 pos : Pos} (hc : CallR X (.type T) r) (hs : CallN X.K r f) (hm : X.mg x = none) (hv : bootBuiltins x = some (.type T)) (ha : VA X B q p (e :: es) ms)
    (hg : X.env.kindOf x = some .globalImplicit := by kernel_rfl) (hn : x ≠ "__name__" := by decide) (hdb : (x == ("__debug__" : Str)) = false := by kernel_rfl) (he : starEach (e :: es) X.env = (false, eval e X.env) :: starEach es X.env := by kernel_rfl) (hpl : (backTo pos (starEach es X.env)).any (·.1) = false := by kernel_rfl) :
    VN X B p (.Call (.Name x p0) (e :: es) [] pos) (mCallN f ms) := vn_call (fun h => pe_callTy hc hg hm hv h hn hdb he hpl) hs ha
theorem callTG {T : String} {x : Str} {e : Expr} {es : List Expr} {q p : Bool} {ms : ME (List Opd)} {r : List V → Hp → VK → Prop} {f : List D → Option O1} {p0 pos : Pos} (hc : CallR X (.type T) r) (hs : CallG X.K r f) (hm : X.mg x = none) (hv : bootBuiltins x = some (.type T)) (ha : VA X B q p (e :: es) ms)
    (hg : X.env.kindOf x = some .globalImplicit := by kernel_rfl) (hn : x ≠ "__name__" := by decide) (hdb : (x == ("__debug__" : Str)) = false := by kernel_rfl) (he : starEach (e :: es) X.env = (false, eval e X.env) :: starEach es X.env := by kernel_rfl) (hpl : (backTo pos (starEach es X.env)).any (·.1) = false := by kernel_rfl) :
    VN X B p (.Call (.Name x p0) (e :: es) [] pos) (mCallN f ms) := vn_callG (fun h => pe_callTy hc hg hm hv h hn hdb he hpl) hs ha
theorem callBG {id : String} {x : Str} {e : Expr} {es : List Expr} {q p : Bool} {ms : ME (List Opd)} {r : List V → Hp → VK → Prop} {f : List D → Option O1} {p0 pos : Pos} (hc : CallR X (.builtin id) r) (hs : CallG X.K r f) (hm : X.mg x = none) (hv : bootBuiltins x = some (.builtin id)) (ha : VA X B q p (e :: es) ms)
    (hg : X.env.kindOf x = some .globalImplicit := by kernel_rfl) (hn : x ≠ "__name__" := by decide) (hdb : (x == ("__debug__" : Str)) = false := by kernel_rfl) (he : starEach (e :: es) X.env = (false, eval e X.env) :: starEach es X.env := by kernel_rfl) (hpl : (backTo pos (starEach es X.env)).any (·.1) = false := by kernel_rfl) :
    VN X B p (.Call (.Name x p0) (e :: es) [] pos) (mCallN f ms) := vn_callG (fun h => pe_callB hc hg hm hv h hn hdb he hpl) hs ha
theorem rng1 {tg a : Expr} {q : Bool} {m : ME (List D)} {p pos : Pos} (hm : X.mg "range" = none) (ha : VEs X B q [a] m) (hg : X.env.kindOf "range" = some .globalImplicit := by kernel_rfl) (hs : starEach [a] X.env = [(false, eval a X.env)] := by kernel_rfl) : VI X B tg (.Call (.Name "range" p) [a] [] pos) (mOver rangeI1 m) := vi_range1 hg hm ha hs
theorem rng2 {tg a b : Expr} {q : Bool} {m : ME (List D)} {p pos : Pos} (hm : X.mg "range" = none) (ha : VEs X B q [a, b] m) (hg : X.env.kindOf "range" = some .globalImplicit := by kernel_rfl) (hs : starEach [a, b] X.env = [(false, eval a X.env), (false, eval b X.env)] := by kernel_rfl)
    (hs2 : starEach [b] X.env = [(false, eval b X.env)] := by kernel_rfl) : VI X B tg (.Call (.Name "range" p) [a, b] [] pos) (mOver rangeI2 m) := vi_range2 hg hm ha hs hs2
theorem zipV {e e2 : Expr} {q : Bool} {m : ME (List D)} {p pos tpos : Pos} {elts : List Expr} {kk : Nat} (hm : X.mg "zip" = none) (ha : VEs X B q [e, e2] m) (hg : X.env.kindOf "zip" = some .globalImplicit := by kernel_rfl)
    (hs : starEach [e, e2] X.env = (false, eval e X.env) :: starEach [e2] X.env := by kernel_rfl) (hpl : (backTo pos (starEach [e2] X.env)).any (·.1) = false := by kernel_rfl) :
    VI X B (.Tuple elts kk tpos) (.Call (.Name "zip" p) [e, e2] [] pos) (mOver zipI m) := vi_zip hg hm ha hs hpl
theorem enumV {e : Expr} {q : Bool} {m : ME (List D)} {p pos tpos : Pos} {elts : List Expr} {kk : Nat} (hm : X.mg "enumerate" = none) (ha : VEs X B q [e] m) (hg : X.env.kindOf "enumerate" = some .globalImplicit := by kernel_rfl) (hs : starEach [e] X.env = [(false, eval e X.env)] := by kernel_rfl) :
    VI X B (.Tuple elts kk tpos) (.Call (.Name "enumerate" p) [e] [] pos) (mOver enumI m) := vi_enum hg hm ha hs
theorem lcV (own : List (Str × Nat)) {elt tg iter : Expr} {ifs : List Expr} {scope : Scope} {pos : Pos} {mi : ME (List D)} {ts : List Nat} {tm : D → Env → Option Env} {pt p : Bool} {mt : ME Bool} {me : ME D} (hi : VI X B tg iter mi)
    (hg : ∀ (s : Shared) (H : Hp) (C : Addr) (cl : List (Str × Addr)) (fp : List Addr), VG (X.blk s H scope (compEnvC scope cl C X.env) fp) B ts tg tm) (ht : ∀ (s : Shared) (H : Hp) (C : Addr) (cl : List (Str × Addr)) (fp : List Addr), VTs (X.blk s H scope (compEnvC scope cl C X.env) fp) B pt ifs mt)
    (he : ∀ (s : Shared) (H : Hp) (C : Addr) (cl : List (Str × Addr)) (fp : List Addr), VE (X.blk s H scope (compEnvC scope cl C X.env) fp) B p elt me) (hN : X.N.Nodup := by assumption) (hc : X.calm = true := by kernel_rfl) (ok : blkB X.N X.env.scope scope own = true := by kernel_rfl) (hts : ∀ i ∈ ts, i ∈ own.map (·.2) := by decide) (hB : ∀ i ∈ own.map (·.2), i ∉ B := by decide)
    (hs : ∀ x, foldedSetIterable iter X.env x = pure x := by intro _; rfl) : VN X B false (.ListComp elt [⟨tg, iter, ifs, 0⟩] scope pos) (mLc mi (own.map (·.2)) tm mt me) := vn_lc hc hN hi (blkB_of ok) hg ht he hts hB hs
theorem sLc (i : Nat) (own : List (Str × Nat)) {y : Str} {py : Pos} {elt tg iter : Expr} {ifs : List Expr} {scope : Scope} {pos spos : Pos} {mi : ME (List D)} {ts : List Nat} {tm : D → Env → Option Env} {pt p : Bool} {mt : ME Bool} {me : ME D} (hi : VI X B tg iter mi)
    (hg : ∀ (s : Shared) (H : Hp) (C : Addr) (cl : List (Str × Addr)) (fp : List Addr), VG (X.blk s H scope (compEnvC scope cl C X.env) fp) B ts tg tm) (ht : ∀ (s : Shared) (H : Hp) (C : Addr) (cl : List (Str × Addr)) (fp : List Addr), VTs (X.blk s H scope (compEnvC scope cl C X.env) fp) B pt ifs mt)
    (he : ∀ (s : Shared) (H : Hp) (C : Addr) (cl : List (Str × Addr)) (fp : List Addr), VE (X.blk s H scope (compEnvC scope cl C X.env) fp) B p elt me) (hN : X.N.Nodup := by assumption) (hc : X.calm = true := by kernel_rfl) (hy : X.N[i]? = some y := by kernel_rfl) (hyl : isKind .local X.env.scope y = true := by kernel_rfl)
    (hsw : swapsWith (.ListComp elt [⟨tg, iter, ifs, 0⟩] scope pos) (some (.Name y py)) spos.line X.env = pure true := by kernel_rfl) (ok : blkB X.N X.env.scope scope own = true := by kernel_rfl) (hBi : i ∉ B := by decide) (hts : ∀ i ∈ ts, i ∈ own.map (·.2) := by decide) (hB : ∀ i ∈ own.map (·.2), i ∉ B := by decide)
    (hs : ∀ x, foldedSetIterable iter X.env x = pure x := by intro _; rfl) : VS X B (.Assign [.Name y py] (.ListComp elt [⟨tg, iter, ifs, 0⟩] scope pos) spos) (mSet i (mLc mi (own.map (·.2)) tm mt me)) := vs_setLc hc hN hy (isKind_of hyl) hsw hi (blkB_of ok) hg ht he hBi hts hB hs
end
section
variable {P : Program} {w : World} {K : PySem.W.Frag} {mg : Str → Option Value} {base : Heap}
/-- a def of the text -/
theorem okV {x qual : Str} {st : Stmt} {f : Addr} {fd : FuncData} {N ps : List Str} {k n : Nat} {B : List Nat} {m : MS} (F : Fun K x qual st f fd) (S : FnScope N ps (defScope st)) (hps : ps.length = n) (hB : ∀ i ∈ B, i < n)
    (hbody : ∀ (cdv : Value) (A : Around) (outer : List PySem.Env) (s : Shared) (H : Hp) (E : XK), Room k (A.deeper (envOfC qual (defScope st) s.heap.objs.size f cdv)) → VSs (cxOf CX0 P w K mg base N qual (defScope st) f cdv A outer s H E).nox B (defBody st) m) :
    FnOk P w K mg base CX0 (k + 1) f fd ps (spF K (fnRun n N.length B m)) := by
  obtain ⟨oc, od, kV, doc, pm, an, cdv, ct, osl, rfl, lk, hcd⟩ := F.ex
  refine fn_vl lk hcd S hps hB fun A outer s H E hr => ?_
  exact (hbody cdv A outer s H E hr).nox
end
end VL
end
section
set_option Elab.async false
set_option linter.all false
set_option maxRecDepth 100000
set_option maxHeartbeats 1000000
set_option autoImplicit false
namespace VL
open PySem PySem.Spec PyProof.Rows L2

/-! ### defs, methods, classes by name -/
structure DefV (K : PySem.W.Frag) (mg : Str → Option Value) (x : Str) (st : Stmt) (ps : List Str) : Prop where
  ex : ∃ f fd, Fun K x x st f fd ∧ mg x = some (.ref f) ∧ Binds K fd ps []
structure MetV (K : PySem.W.Frag) (C : Addr) (x qual : Str) (st : Stmt) (ps : List Str) : Prop where
  ex : ∃ f fd, Fun K x qual st f fd ∧ Meth K C x f ∧ Binds K fd ps []
structure IniV (K : PySem.W.Frag) (mg : Str → Option Value) (C : Addr) (x qual : Str) (st : Stmt) (ps : List Str) : Prop where
  ex : ∃ f fd, Fun K "__init__" qual st f fd ∧ Mk K C f ∧ mg x = some (.ref C) ∧ Binds K fd ps []
structure FnV (P : Program) (w : World) (K : PySem.W.Frag) (mg : Str → Option Value) (base : Heap) (x : Str) (k : Nat) (ps : List Str) (run : Fn) : Prop where
  ex : ∃ f fd, FnOk P w K mg base CX0 k f fd ps (spF K run) ∧ mg x = some (.ref f) ∧ PySem.W.keepIn K (.ref f) = true ∧ Binds K fd ps []
structure MeV (P : Program) (w : World) (K : PySem.W.Frag) (mg : Str → Option Value) (base : Heap) (C : Addr) (x : Str) (k : Nat) (ps : List Str) (run : Fn) : Prop where
  ex : ∃ f fd, FnOk P w K mg base CX0 k f fd ps (spF K run) ∧ Meth K C x f ∧ Binds K fd ps []
structure CoV (P : Program) (w : World) (K : PySem.W.Frag) (mg : Str → Option Value) (base : Heap) (C : Addr) (x : Str) (k : Nat) (ps : List Str) (run : Fn) : Prop where
  ex : ∃ f fd, FnOk P w K mg base CX0 k f fd ps (spF K run) ∧ Mk K C f ∧ mg x = some (.ref C) ∧ Binds K fd ps []
section
variable {P : Program} {w : World} {K : PySem.W.Frag} {mg : Str → Option Value} {base : Heap}
theorem DefV.ok {x : Str} {st : Stmt} {N ps : List Str} {k n : Nat} {B : List Nat} {m : MS} (D0 : DefV K mg x st ps) (S : FnScope N ps (defScope st)) (hps : ps.length = n) (hB : ∀ i ∈ B, i < n)
    (hbody : ∀ (f : Addr) (cdv : Value) (A : Around) (outer : List PySem.Env) (s : Shared) (H : Hp) (E : XK), Room k (A.deeper (envOfC x (defScope st) s.heap.objs.size f cdv)) → VSs (cxOf CX0 P w K mg base N x (defScope st) f cdv A outer s H E).nox B (defBody st) m) :
    FnV P w K mg base x (k + 1) ps (fnRun n N.length B m) := by
  obtain ⟨f, fd, F, hm, hb⟩ := D0.ex
  exact ⟨f, fd, okV F S hps hB (hbody f), hm, F.kp, hb⟩
theorem MetV.ok {x qual : Str} {C : Addr} {st : Stmt} {N ps : List Str} {k n : Nat} {B : List Nat} {m : MS} (D0 : MetV K C x qual st ps) (S : FnScope N ps (defScope st)) (hps : ps.length = n) (hB : ∀ i ∈ B, i < n)
    (hbody : ∀ (f : Addr) (cdv : Value) (A : Around) (outer : List PySem.Env) (s : Shared) (H : Hp) (E : XK), Room k (A.deeper (envOfC qual (defScope st) s.heap.objs.size f cdv)) → VSs (cxOf CX0 P w K mg base N qual (defScope st) f cdv A outer s H E).nox B (defBody st) m) :
    MeV P w K mg base C x (k + 1) ps (fnRun n N.length B m) := by
  obtain ⟨f, fd, F, hm, hb⟩ := D0.ex
  exact ⟨f, fd, okV F S hps hB (hbody f), hm, hb⟩
theorem IniV.ok {x qual : Str} {C : Addr} {st : Stmt} {N ps : List Str} {k n : Nat} {B : List Nat} {m : MS} (D0 : IniV K mg C x qual st ps) (S : FnScope N ps (defScope st)) (hps : ps.length = n) (hB : ∀ i ∈ B, i < n)
    (hbody : ∀ (f : Addr) (cdv : Value) (A : Around) (outer : List PySem.Env) (s : Shared) (H : Hp) (E : XK), Room k (A.deeper (envOfC qual (defScope st) s.heap.objs.size f cdv)) → VSs (cxOf CX0 P w K mg base N qual (defScope st) f cdv A outer s H E).nox B (defBody st) m) :
    CoV P w K mg base C x (k + 1) ps (fnRun n N.length B m) := by
  obtain ⟨f, fd, F, hm, hg, hb⟩ := D0.ex
  exact ⟨f, fd, okV F S hps hB (hbody f), hm, hg, hb⟩
/-- a def that calls itself: nothing is promised at fuel 0 -/
theorem FnV.zero {x : Str} {st : Stmt} {ps : List Str} {k : Nat} (D0 : DefV K mg x st ps) : FnV P w K mg base x k ps (fun _ => none) := by
  obtain ⟨f, fd, F, hm, hb⟩ := D0.ex
  refine ⟨f, fd, ⟨fun vs H Q E h => ?_, fun A outer s H args us vs Q E hr e0 hb r h => ?_⟩, hm, F.kp, hb⟩
  · obtain ⟨G, F0, os, r, outs, h1, _⟩ := h; cases h1
  · obtain ⟨G, F0, os, r', outs, h1, _⟩ := h; cases h1
end
section
variable {X : Cx} {B : List Nat}
theorem callU {k : Nat} {x : Str} {ps : List Str} {run : Fn} {p pos : Pos} {e : Expr} {es : List Expr} {q pp : Bool} {ms : ME (List Opd)} (F : FnV X.prog X.w X.K X.mg X.base x k ps run) (hr : Room k X.A) (ha : VA X B q pp (e :: es) ms)
    (hg : X.env.kindOf x = some .globalImplicit := by kernel_rfl) (hdb : (x == ("__debug__" : Str)) = false := by kernel_rfl) (he : starEach (e :: es) X.env = (false, eval e X.env) :: starEach es X.env := by kernel_rfl) (hpl : (backTo pos (starEach es X.env)).any (·.1) = false := by kernel_rfl) :
    VN X B false (.Call (.Name x p) (e :: es) [] pos) (mCallF run ms) := by
  obtain ⟨f, fd, F, hm, hk, hb⟩ := F.ex
  exact vn_callF (CX := CX0) (E := E0) F hr hg hm hk hb pass0 ha hdb he hpl
theorem callU0 {k : Nat} {x : Str} {ps : List Str} {run : Fn} {p pos : Pos} (F : FnV X.prog X.w X.K X.mg X.base x k ps run) (hr : Room k X.A)
    (hg : X.env.kindOf x = some .globalImplicit := by kernel_rfl) (hdb : (x == ("__debug__" : Str)) = false := by kernel_rfl) : VN X B false (.Call (.Name x p) [] [] pos) (mCallF run mNil) := by
  obtain ⟨f, fd, F, hm, hk, hb⟩ := F.ex
  exact vn_callF0 (CX := CX0) (E := E0) F hr hg hm hk hb pass0 hdb
theorem makeU {k : Nat} {C : Addr} {x : Str} {ps : List Str} {run : Fn} {p pos : Pos} {e : Expr} {es : List Expr} {q pp : Bool} {ms : ME (List Opd)} (F : CoV X.prog X.w X.K X.mg X.base C x k ps run) (hr : Room (k + 1) X.A) (ha : VA X B q pp (e :: es) ms)
    (hg : X.env.kindOf x = some .globalImplicit := by kernel_rfl) (hdb : (x == ("__debug__" : Str)) = false := by kernel_rfl) (he : starEach (e :: es) X.env = (false, eval e X.env) :: starEach es X.env := by kernel_rfl) (hpl : (backTo pos (starEach es X.env)).any (·.1) = false := by kernel_rfl) :
    VN X B false (.Call (.Name x p) (e :: es) [] pos) (mMake C run ms) := by
  obtain ⟨f, fd, F, M, hm, hb⟩ := F.ex
  exact vn_make (CX := CX0) (E := E0) M F hr hg hm hb pass0 ha hdb he hpl
theorem methU {k i : Nat} {C : Addr} {mn : Str} {ps : List Str} {run : Fn} {o : Expr} {apos pos : Pos} {e : Expr} {es : List Expr} {q pp : Bool} {ms : ME (List Opd)} {pl : Sem Bool} (F : MeV X.prog X.w X.K X.mg X.base C mn k ps run) (hC : Cls X.K C) (hr : Room k X.A) (he : PE X o (tVar i)) (ha : VA X B q pp (e :: es) ms)
    (hst : starEach (e :: es) X.env = (false, eval e X.env) :: starEach es X.env := by kernel_rfl) (hpl : (backTo pos (starEach es X.env)).any (·.1) = false := by kernel_rfl)
    (ht : eval (.Call (.Attribute o mn apos) (e :: es) [] pos) X.env = (do
      let ov ← eval o X.env
      standAt apos.atName
      let (f, first) ← holding [ov] (getMethod ov mn pl)
      callWith pos f first (backTo pos (starEach (e :: es) X.env)) (backToKw pos (keywordEach [] X.env))) := by rfl) : VN X B false (.Call (.Attribute o mn apos) (e :: es) [] pos) (mMeth C mn i run ms) := by
  obtain ⟨f, fd, F, hm, hb⟩ := F.ex
  exact vn_meth (CX := CX0) (E := E0) he hC hm F hr hb pass0 ha hst hpl ht
theorem methU0 {k i : Nat} {C : Addr} {mn : Str} {ps : List Str} {run : Fn} {o : Expr} {apos pos : Pos} {pl : Sem Bool} (F : MeV X.prog X.w X.K X.mg X.base C mn k ps run) (hC : Cls X.K C) (hr : Room k X.A) (he : PE X o (tVar i))
    (ht : eval (.Call (.Attribute o mn apos) [] [] pos) X.env = (do
      let ov ← eval o X.env
      standAt apos.atName
      let (f, first) ← holding [ov] (getMethod ov mn pl)
      callWith pos f first (backTo pos (starEach [] X.env)) (backToKw pos (keywordEach [] X.env))) := by rfl) : VN X B false (.Call (.Attribute o mn apos) [] [] pos) (mMeth C mn i run mNil) := by
  obtain ⟨f, fd, F, hm, hb⟩ := F.ex
  exact vn_meth0 (CX := CX0) (E := E0) he hC hm F hr hb pass0 ht
/-- (a new instance).m() -/
def mMethT (C : Addr) (mn : Str) (run : Fn) (mo : ME O) : ME O := fun η => (mo η).bind fun q => match q.1 with
  | .ins C' fs => if C' = C ∧ fs.lookup mn = none then (run [.ins C' fs]).bind fun r => some (r.1, q.2) else none
  | _ => none
theorem methT {k : Nat} {C : Addr} {mn : Str} {ps : List Str} {run : Fn} {o : Expr} {apos pos : Pos} {p : Bool} {mo : ME O} {pl : Sem Bool} (F : MeV X.prog X.w X.K X.mg X.base C mn k ps run) (hC : Cls X.K C) (hr : Room k X.A) (he : VN X B p o mo)
    (ht : eval (.Call (.Attribute o mn apos) [] [] pos) X.env = (do
      let ov ← eval o X.env
      standAt apos.atName
      let (f, first) ← holding [ov] (getMethod ov mn pl)
      callWith pos f first (backTo pos (starEach [] X.env)) (backToKw pos (keywordEach [] X.env))) := by rfl) : VN X B false (.Call (.Attribute o mn apos) [] [] pos) (mMethT C mn run mo) := by
  obtain ⟨f, fd, FF, hm, hb⟩ := F.ex
  refine pe_imp (pe_meth0 (CX := CX0) (E := E0) (dvs := []) (ds := []) he hC hm FF hr hb .nil pass0 ht) fun σ H Q ⟨G, Fm, η, ρ, r, η', hm, R, k⟩ => ?_
  simp only [mMethT, Option.bind_eq_some_iff] at hm
  obtain ⟨⟨oo, η1⟩, h1, h2⟩ := hm
  split at h2
  · rename_i C' fs q
    split at h2
    · rename_i hcc
      obtain ⟨rfl, hlk⟩ := hcc
      obtain ⟨⟨r', outs⟩, h3, h4⟩ := Option.bind_eq_some_iff.mp h2
      cases h4
      have q : oo = .ins C' fs := q
      subst q
      refine ⟨G, Fm, η, ρ, _, η1, h1, R, fun v G1 H1 F1 st1 _ R1 => ?_⟩
      have len : η1.length = σ.length := by have := R1.len; simp at this; exact this
      obtain ⟨v', e1, a, dx, vs, fps, rfl, e2, e3, e4⟩ := R1.slot η1.length (.ins C' fs) (by simp)
      have e1' := e1
      rw [List.getElem?_append_right (by omega), len] at e1
      simp at e1
      subst e1
      refine ⟨a, dx, vs, rfl, e3, (OwnF.get e4).2 hlk, ?_⟩
      obtain ⟨Fc, Rc, after⟩ := call_core (xs := [.loc η1.length]) (os := [.ins C' fs]) R1 (.cons (v := .ref a) (x := .loc η1.length) e1' .nil) (by simp [argsO]) (by simp [locs])
      show spF X.K run [V.ref a] H1 Q E0
      refine ⟨G1, Fc, _, _, outs, h3, Rc, fun z G2 H2 Fa st2 Ra => ?_⟩
      obtain ⟨F', R', st'⟩ := after z G2 H2 Fa _ outs st2 Ra
      have el : backE (η1 ++ [some (O.ins C' fs)]) [.loc η1.length] outs = η1 ++ [outs.head?.join] := by
        simp [backE]
      rw [el] at R'
      obtain ⟨R3, st3⟩ := R'.re (B' := B) (ρ' := ρ) (η' := η1 ++ [some r']) (σ' := σ ++ [some z]) (fun i => if i < η1.length then .new i else if i = η1.length then .new (η1.length + 1) else .fz) (fun x y j h1 h2 => by
          try dsimp only at h1 h2
          split at h1 <;> split at h2
          · cases h1; cases h2; rfl
          · split at h2
            · injection h1 with h1; injection h2 with h2; omega
            · cases h2
          · split at h1
            · injection h1 with h1; injection h2 with h2; omega
            · cases h1
          · split at h1
            · split at h2
              · omega
              · cases h2
            · cases h1) (fun x j h => by
          try dsimp only at h
          split at h
          · cases h
          · split at h <;> cases h) (fun i o e => by
          rcases Nat.lt_or_ge i η1.length with hi | hi
          · rw [List.getElem?_append_left hi] at e
            simp only [hi, if_true]
            refine ⟨?_, ?_⟩
            · rw [List.getElem?_append_left (by simp; omega), List.getElem?_append_left hi]; exact e
            · rw [List.getElem?_append_left (by omega), List.getElem?_append_left (by simp; omega), List.getElem?_append_left (by omega)]
          · rw [List.getElem?_append_right hi] at e
            have : i = η1.length := by
              have := (List.getElem?_eq_some_iff.mp e).1
              simp at this; omega
            subst this
            simp at e; subst e
            simp only [Nat.lt_irrefl, if_false, if_true]
            refine ⟨by rw [List.getElem?_append_right (by simp)]; simp, ?_⟩
            rw [List.getElem?_append_right (by omega), List.getElem?_append_right (by simp; omega)]
            simp [len]) (by simp [len]) (fun i hi => by
          have := R.bor i hi
          rw [List.getElem?_append_left (List.getElem?_eq_some_iff.mp this).1]; exact this)
      exact k z G2 H2 _ ((st1.trans st').trans st3) (fun z => by cases z) R3
    · cases h2
  · cases h2
/-- a + b, a new list of one's own -/
def mCatN (ma mb : ME Opd) : ME O := fun η => (ma η).bind fun p => (mb p.2).bind fun q => match cont q.2 p.1, cont q.2 q.1 with
  | some (.lst xs), some (.lst ys) => if xs.length + ys.length ≤ 16777216 then some (.s (.lst (xs ++ ys)), q.2) else none
  | _, _ => none
theorem vn_cat {a b : Expr} {qa qb pa pb : Bool} {ma mb : ME Opd} {pos : Pos} (ha : VO X B qa pa a ma) (hb : VO X B qb pb b mb) (hq : qa = false ∨ pb = true := by decide) : VN X B (pa && pb) (.BinOp a .Add b pos) (mCatN ma mb) := by
  refine pe_imp (pe_op op_catS ha.run hb.run) fun σ H Q ⟨G, F, η, ρ, d, η', hm, R, k⟩ => ?_
  simp only [mCatN, Option.bind_eq_some_iff] at hm
  obtain ⟨⟨x, η1⟩, h1, ⟨y, η2⟩, h2, h3⟩ := hm
  split at h3
  · rename_i xs ys h4 h5
    split at h3
    · rename_i hz
      cases h3
      refine ⟨G, F, η, ρ, x, η1, h1, R, fun v G1 H1 F1 st1 pu1 R1 r1 => ?_⟩
      refine ⟨G1, F1, η1, ρ, y, _, h2, R1, fun u G2 H2 F2 st2 pu2 R2 r2 => ?_⟩
      have r1' : RepP X.K G2 H2 σ v x := r1.step st2 (by
        rcases hq with hq | hq
        · exact .inl (ha.nof hq _ _ _ h1)
        · exact .inr (pu2 hq))
      obtain ⟨a1, vs1, rfl, g1, g2⟩ := r1'.cont R2 h4
      obtain ⟨a2, vs2, rfl, g3, g4⟩ := r2.cont R2 h5
      have e1 := g2.length
      have e2 := g4.length
      refine ⟨a1, a2, vs1, vs2, rfl, rfl, g1, g3, sz_le (by omega), fun p hp => ?_⟩
      obtain ⟨F3, R3, st3⟩ := vn_new (u := .lst (vs1 ++ vs2)) (o := .lst (xs ++ ys)) R2 hp ⟨p, _, rfl, rfl, upd_same, g2.append g4⟩
      refine k _ _ _ F3 ((st1.trans st2).trans st3) (fun h => ?_) R3
      rw [Bool.and_eq_true] at h
      exact ((pu1 h.1).trans (pu2 h.2)).trans (Grow.lay R2.le hp).keep
    · cases h3
  · cases h3
/-- a module's number, a module's list -/
theorem ve_glI {x : Str} {i : Int} {pos : Pos} (h : ∃ t, X.mg x = some (.int i t)) (hg : X.env.kindOf x = some .globalImplicit := by kernel_rfl) (hd : (x == ("__debug__" : Str)) = false := by kernel_rfl) : VE X B true (.Name x pos) (mC (.int i)) := by
  obtain ⟨t, h⟩ := h
  exact ve_gl (v := .int i) h ⟨t, rfl⟩ (fun _ _ => .int i) hg hd
theorem ve_glR {x : Str} {d : D} {pos : Pos} (h : ∃ a, X.mg x = some (.ref a) ∧ ∀ G, Rep X.K G (.ref a) d) (hg : X.env.kindOf x = some .globalImplicit := by kernel_rfl) (hd : (x == ("__debug__" : Str)) = false := by kernel_rfl) : VE X B true (.Name x pos) (mC d) := by
  obtain ⟨a, h, r⟩ := h
  refine pe_imp (pe_glob (v := .ref a) hg h rfl hd) fun σ H Q ⟨G, F, η, ρ, d', η', hm, R, k⟩ => ?_
  cases hm
  exact k _ G H F (.refl _ _ _) (fun _ => .refl H) R (r _)
end

def fStr : List D → Option D
  | [.str a] => some (.str a)
  | _ => none
theorem cs_str {K : PySem.W.Frag} : CallS K (fun xs H Q => ∃ a, xs = [.str a] ∧ Q (.str a) H) fStr := by
  intro G H vs ds d Q hf rs l k
  unfold fStr at hf
  split at hf <;> cases hf
  cases rs with | cons r rs =>
  cases rs; cases r
  exact ⟨_, rfl, k _ G H (.refl l) (.str _)⟩
theorem hu1 {A : Around} (h : A.units + 64 < cLine) : A.units + 1 < cLine := by omega
end VL
end
section
set_option Elab.async false
set_option linter.all false
set_option maxRecDepth 100000
set_option maxHeartbeats 1000000
set_option autoImplicit false
namespace VL
open PySem PySem.Spec PyProof.Rows L2

/-! ### a law's end -/
def spLaw (K : PySem.W.Frag) : Sp := fun vs H Q _ => ∃ (a : Addr) (ns : List Int), vs = [.ref a] ∧ SqL K H a (ns.map V.int) ∧ ns.length ≤ 63 ∧ ∀ H', Q (.bl true) H'
theorem reps_ints {K : PySem.W.Frag} {G : Hp} : ∀ ns : List Int, Reps K G (ns.map V.int) (ns.map D.int)
  | [] => .nil
  | n :: ns => .cons (.int n) (reps_ints ns)
/-- what the plain law has to say -/
def Plain (run : Fn) : Prop := ∀ ns : List Int, ns.length ≤ 63 → ∃ outs, run [.s (.fro (.lst (ns.map D.int)))] = some (.s (.fro (.bl true)), outs)
theorem law_imp {K : PySem.W.Frag} {run : Fn} (pl : Plain run) : ∀ vs H Q E, spLaw K vs H Q E → spF K run vs H Q E := by
  rintro vs H Q E ⟨a, ns, rfl, hS, hl, k⟩
  obtain ⟨outs, e⟩ := pl ns hl
  have r : Rep K H (.ref a) (.lst (ns.map D.int)) := .lst hS (reps_ints ns)
  refine ⟨H, fun _ => [], _, _, outs, e, ⟨.refl H, (fun i b hb => by cases hb), (fun i => .nil), (fun i j b hb => by cases hb), (fun i o e => ?_), (fun i _ => rfl), rfl, (fun i hi => by cases hi)⟩, fun v G' H' F' st R => ?_⟩
  · cases i with
    | zero => cases e; exact ⟨.ref a, rfl, rfl, r⟩
    | succ i => simp at e
  · obtain ⟨v', h1, h2⟩ := R.slot outs.length (.s (.fro (.bl true))) (by simp)
    have len : outs.length = 1 := by have := R.len; simp at this; exact this
    rw [len] at h1
    simp at h1; subst h1
    cases h2.2
    exact k H'
theorem walkV {l : PySem.W.OpenLaw} {k : Nat} {q : Program} {loose : List Str} {XP : (Str → Option Value) → Heap → Prop} {YP : World → Heap → Prop} {d : DefRec} {K : Params → PySem.W.Frag} (hn : l.most = some 63) (hdf : d.params.defaults = []) (hr : Room k callerA)
    (hY : ∀ (w : World) (h : Heap), YP w h → (K w.params).In h)
    (F : ∀ (w : World) (mg : Str → Option Value) (fa : Addr) (h : Heap), (K w.params).In h → h.Ns mainGlobals mg → mg d.name = some (.ref fa) →
      ∃ fd : FuncData, (∀ (s : Shared) (u : Value), BindsTo s fd ⟨[u], []⟩ [("script", u)]) ∧ ∀ base : Heap, (K w.params).In base → base.Ns mainGlobals mg → FnOk l.prog w (K w.params) mg base CX0 k fa fd ["script"] (spLaw (K w.params))) :
    PySem.W.WalkO q loose XP YP l.row.toRowW d [] (fun f vs => PySem.call f vs) :=
  L2.walk_of (n := 63) (k := k) (x := "script") (CX := fun _ => CX0) (sp := fun w => spLaw (K w.params)) hn (by decide) hdf hr hY F (fun _ _ a ns hl _ hS => ⟨a, ns, rfl, hS, hl, fun _ => rfl⟩) fun _ _ _ _ _ z => z
/-- values of the written part -/
theorem ktup_of {K : PySem.W.Frag} {G : Hp} {a : Addr} {its : List Value} {n : Nat} {sl : Array (Option Value)} {vs : List V} {ds : List D} (l : K.lookup a = some ⟨.type "tuple", none, .seq its.toArray n, sl⟩) (hz : its.length ≤ 1000) (r : Vals vs its) (rs : Reps K G vs ds) : Rep K G (.ref a) (.ktup ds) :=
  .ktup ⟨.inr ⟨_, its.toArray, n, l, rfl, rfl, by simp; rw [sizeLine_eq]; omega, by simpa using r⟩, .inr ⟨_, l, rfl⟩⟩ rs
theorem klst_of {K : PySem.W.Frag} {G : Hp} {a : Addr} {its : List Value} {n : Nat} {sl : Array (Option Value)} {vs : List V} {ds : List D} (l : K.lookup a = some ⟨.type "list", none, .seq its.toArray n, sl⟩) (hz : its.length ≤ 1000) (r : Vals vs its) (rs : Reps K G vs ds) : Rep K G (.ref a) (.lst ds) :=
  .lst (.inr ⟨_, its.toArray, n, l, rfl, rfl, rfl, by simp; rw [sizeLine_eq]; omega, by simpa using r⟩) rs
theorem vk_ref {a : Addr} {vs : List V} {us : List Value} (h : Vals vs us) : Vals (.ref a :: vs) (.ref a :: us) := .cons rfl h
theorem vk_int {i : Int} {t : Tok} {vs : List V} {us : List Value} (h : Vals vs us) : Vals (.int i :: vs) (.int i t :: us) := .cons ⟨t, rfl⟩ h
theorem vk_str {x : Str} {t : Tok} {vs : List V} {us : List Value} (h : Vals vs us) : Vals (.str x :: vs) (.str x t :: us) := .cons ⟨t, rfl⟩ h
theorem vk_bl {b : Bool} {vs : List V} {us : List Value} (h : Vals vs us) : Vals (.bl b :: vs) (.bool b :: us) := .cons rfl h
end VL
end
section
set_option Elab.async false
set_option linter.all false
set_option maxRecDepth 100000
set_option maxHeartbeats 1000000
namespace VL
open PySem PySem.Spec PyProof.Rows L2

/-! ### sum -/
def fSum : List D → Option D
  | [.lst xs] => (intsL xs).bind fun ns => some (.int ns.sum)
  | _ => none
theorem cs_sum {K : PySem.W.Frag} : CallS K (rSum K) fSum := by
  intro G H vs ds d Q hf rs l k
  unfold fSum at hf
  split at hf
  · obtain ⟨ns, h1, h2⟩ := Option.bind_eq_some_iff.mp hf
    cases h2
    cases rs with | cons r rs =>
    cases rs
    obtain ⟨a, vs, rfl, g1, g2⟩ := r
    exact ⟨a, ns, rfl, by rw [← intsL_vals g2 h1]; exact g1, k _ G H (.refl l) (.int _)⟩
  · cases hf
/-! ### xs[::-1] -/
def dRev : D → Option D
  | .lst xs => some (.lst xs.reverse)
  | _ => none
def rRevL (K : PySem.W.Frag) : V → Hp → VK → Prop := fun x H1 Q => ∃ a xs, x = .ref a ∧ SqL K H1 a xs ∧ ∀ p, H1 p = none → Q (.ref p) (upd H1 p (.lst xs.reverse))
theorem us_rev {K : PySem.W.Frag} : UnS K (rRevL K) dRev := by
  intro G H x a d Q hf ra l k
  unfold dRev at hf
  split at hf
  · cases hf
    obtain ⟨a1, vs, rfl, g1, g2⟩ := ra
    refine ⟨a1, vs, rfl, g1, fun p hp => ?_⟩
    have g := Grow.new l (o := .lst vs.reverse) hp
    exact k _ _ _ g (.lst (SqL.of upd_same) (g2.reverse.mono g.le))
  · cases hf
section
variable {X : Cx} {B : List Nat}
theorem ve_rev {e : Expr} {q p : Bool} {m : ME Opd} {k : Nat} {p1 p2 p3 pos : Pos} (ha : VO X B q p e m) : VE X B p (.Subscript e (.Slice none none (some (.UnaryOp .USub (.Constant (.int 1) k p1) p2)) p3) pos) (mUn dRev m) :=
  ve_un (r := rRevL X.K) (fun h => pe_revL h) us_rev ha
end
/-! ### comprehensions with two for -/
def lc2Loop (own vs1 : List Nat) (tm : D → Env → Option Env) (mt : ME Bool) (mi1 : ME (List D)) (tm1 : D → Env → Option Env) (mt1 : ME Bool) (me : ME D) : List D → Env → Option (List D × Env)
  | [], η => some ([], η)
  | d :: ds, η => (tm d η).bind fun η1 => (mt η1).bind fun q => if q.1 = true then (mi1 q.2).bind fun p => (lcLoop vs1 tm1 mt1 me p.1 (wipeE p.2 vs1)).bind fun z => (lc2Loop own vs1 tm mt mi1 tm1 mt1 me ds (wipeE z.2 own)).bind fun r => some (z.1 ++ r.1, r.2)
    else lc2Loop own vs1 tm mt mi1 tm1 mt1 me ds (wipeE q.2 own)
def mLc2 (mi : ME (List D)) (own vs1 : List Nat) (tm : D → Env → Option Env) (mt : ME Bool) (mi1 : ME (List D)) (tm1 : D → Env → Option Env) (mt1 : ME Bool) (me : ME D) : ME O := fun η => (mi η).bind fun p =>
  if calmE p.2 own = true then (lc2Loop own vs1 tm mt mi1 tm1 mt1 me p.1 (wipeE p.2 own)).bind fun q => if q.1.length ≤ 16777216 then some (.s (.lst q.1), restE p.2 q.2 own) else none else none
theorem lc2_imp {K : PySem.W.Frag} {B ts ts1 : List Nat} {mi mi1 : ME (List D)} {vs vs1 : List Nat} {tm tm1 : D → Env → Option Env} {pt pt1 p : Bool} {mt mt1 : ME Bool} {me : ME D} (hts : ∀ i ∈ ts, i ∈ vs) (hts1 : ∀ i ∈ ts1, i ∈ vs1) (hv : ∀ i ∈ vs1, i ∈ vs) (hB : ∀ i ∈ vs, i ∉ B) (σ : L2.St) (H : Hp) (Q : VK)
    (h : rdN K B false (mLc2 mi vs vs1 tm mt mi1 tm1 mt1 me) σ H Q) : tLc2 (rdI K B mi) (rdG K B ts tm) (rdT K B pt mt) (rdI K B mi1) (rdG K B ts1 tm1) (rdT K B pt1 mt1) (rdE K B p me) vs vs1 σ H Q := by
  obtain ⟨G, F, η, ρ, o, η', hm, R, k⟩ := h
  simp only [mLc2, Option.bind_eq_some_iff] at hm
  obtain ⟨⟨ds, η1⟩, h1, h2⟩ := hm
  split at h2
  · rename_i hcalm
    obtain ⟨⟨rs, η2⟩, h3, h4⟩ := Option.bind_eq_some_iff.mp h2
    dsimp only at h4
    split at h4
    case isFalse => cases h4
    rename_i hz
    cases h4
    refine ⟨G, F, η, ρ, ds, η1, h1, R, fun J G1 H1 F1 st1 R1 is Dd hD => ?_⟩
    have g0 := Grow.lay R1.le (o := .lst []) hD
    have nD : ¬ OwnP F1 Dd := fun ⟨j, hj⟩ => R1.there j Dd hj hD
    have gD : G1 Dd = none := Grow.laid_none R1.le hD
    obtain ⟨Fw, Rw, stw⟩ := (R1.grow g0).wipe vs hB
    have nDw : ¬ OwnP Fw Dd := fun q => by
      rcases stw.fin Dd q with q | q
      · exact nD q
      · rw [upd_same] at q; cases q
    refine ⟨fun i m H' => i + m = ds.length ∧ ∃ G' F' η3 accv acc rs', Step G1 (upd H1 Dd (.lst [])) (fun b => OwnP F1 b ∨ b = Dd) G' H' (fun b => OwnP F' b ∨ b = Dd) ∧ Rel K B ρ G' H' F' η3 (wipe σ vs) ∧ H' Dd = some (.lst accv) ∧ Reps K G' accv acc ∧
      ¬ OwnP F' Dd ∧ G' Dd = none ∧ lc2Loop vs vs1 tm mt mi1 tm1 mt1 me (ds.drop i) η3 = some (rs', η2) ∧ rs = acc ++ rs', ⟨ds.length, Nat.zero_add _, G1, Fw, wipeE η1 vs, [], [], rs, stw.or _, Rw, upd_same, .nil, nDw, gD, h3, rfl⟩, ?_⟩
    rintro i m H2 ⟨him, G2, F2, η3, accv, acc, rs', st2, R2, hD2, ra, nD2, gD2, e2, ers⟩
    obtain ⟨j1, j2, j3⟩ := is G2 H2 st2.le R2.le
    cases q : ds[i]? with
    | none =>
      have hi := List.getElem?_eq_none_iff.mp q
      rw [List.drop_eq_nil_of_le hi] at e2
      cases e2
      refine .inl ⟨j2 i hi, ?_⟩
      obtain ⟨F3, R3, st3⟩ := R1.rest vs R2 st2.le hcalm hB
      have nD3 : ¬ OwnP F3 Dd := (st3.aside hD2 nD2 gD2).2.1
      rw [List.append_nil] at ers; subst ers
      obtain ⟨F4, R4, own4⟩ := R3.adopt (f := [Dd]) (v := .ref Dd) (o := .s (.lst rs)) (fun b hb => by simp at hb; subst hb; exact ⟨nD3, gD2⟩) new_nd ⟨Dd, accv, rfl, rfl, hD2, ra⟩
      refine k (.ref Dd) G2 H2 F4 ?_ (fun z => by cases z) R4
      have s0 : Step G1 H1 (OwnP F1) G1 (upd H1 Dd (.lst [])) (fun b => OwnP F1 b ∨ b = Dd) := ⟨.refl G1, fun b h => .inl h, fun b u h _ => g0.keep b u h, g0.there, fun b h => by
        rcases h with h | h
        · exact .inl h
        · rw [h]; exact .inr hD⟩
      exact st1.trans ((s0.trans (st2.trans (st3.or fun b => b = Dd))).sub (fun b h => h) fun b h => by
        rcases own4 b h with h | h
        · exact .inl h
        · simp at h; exact .inr h)
    | some d =>
      have hi := (List.getElem?_eq_some_iff.mp q).1
      rw [List.drop_eq_getElem_cons hi, (List.getElem?_eq_some_iff.mp q).2] at e2
      simp only [lc2Loop, Option.bind_eq_some_iff] at e2
      obtain ⟨η4, e4, ⟨b5, η5⟩, e5, e6⟩ := e2
      refine .inr ⟨j1 i hi, fun H' => ∃ G' F' η3 accv acc rs', Step G1 (upd H1 Dd (.lst [])) (fun b => OwnP F1 b ∨ b = Dd) G' H' (fun b => OwnP F' b ∨ b = Dd) ∧ Rel K B ρ G' H' F' η3 (wipe σ vs) ∧ H' Dd = some (.lst accv) ∧ Reps K G' accv acc ∧
        ¬ OwnP F' Dd ∧ G' Dd = none ∧ lc2Loop vs vs1 tm mt mi1 tm1 mt1 me (ds.drop (i + 1)) η3 = some (rs', η2) ∧ rs = acc ++ rs', fun H' h => ⟨m - 1, by omega, by omega, h⟩, fun x H3 y => ?_⟩
      obtain ⟨G3, g3, r3⟩ := j3 i x H3 d q y
      have R3 := R2.grow g3
      obtain ⟨hD3, nD3, gD3⟩ := (g3.step (OwnP F2)).aside hD2 nD2 gD2
      have st3 := st2.trans ((g3.step (OwnP F2)).or fun b => b = Dd)
      refine ⟨G3, F2, η3, ρ, d, η4, e4, R3, r3, fun σ4 H4 F4 st4 R4 w4 => ?_⟩
      have wv : wipe σ4 vs = wipe σ vs := by rw [w4 vs hts, wipe_wipe σ vs vs fun _ h => h]
      refine ⟨wv, G3, F4, η4, ρ, b5, η5, e5, R4, fun G5 H5 F5 st5 _ R5 => ?_⟩
      have st35 := st4.trans st5
      obtain ⟨hD5, nD5, gD5⟩ := st35.aside hD3 nD3 gD3
      have stA := st3.trans (st35.or fun b => b = Dd)
      cases b5 with
      | false =>
        simp only [Bool.false_eq_true, if_false] at e6 ⊢
        obtain ⟨F6, R6, st6⟩ := R5.wipe vs hB
        rw [wv] at R6
        exact ⟨G5, F6, _, accv, acc, rs', stA.trans (st6.or _), R6, hD5, ra.mono (g3.le.trans st35.le), (st6.aside hD5 nD5 gD5).2.1, gD5, e6, ers⟩
      | true =>
        simp only [if_true, Option.bind_eq_some_iff] at e6 ⊢
        obtain ⟨⟨ds1, η6⟩, e7, ⟨z1, η7⟩, e8, ⟨r1, η8⟩, e9, e10⟩ := e6
        cases e10
        refine ⟨G5, F5, η5, ρ, ds1, η6, e7, R5, fun J1 G6 H6 F6 st6 R6 is1 => ?_⟩
        obtain ⟨hD6, nD6, gD6⟩ := st6.aside hD5 nD5 gD5
        have stB := stA.trans (st6.or fun b => b = Dd)
        obtain ⟨F7, R7, st7⟩ := R6.wipe vs1 fun i hi => hB i (hv i hi)
        refine ⟨fun j k H' => j + k = ds1.length ∧ ∃ G' F' η' accv acc zs, Step G1 (upd H1 Dd (.lst [])) (fun b => OwnP F1 b ∨ b = Dd) G' H' (fun b => OwnP F' b ∨ b = Dd) ∧ Le G6 G' ∧ Rel K B ρ G' H' F' η' (wipe σ4 vs1) ∧ H' Dd = some (.lst accv) ∧ Reps K G' accv acc ∧
          ¬ OwnP F' Dd ∧ G' Dd = none ∧ lcLoop vs1 tm1 mt1 me (ds1.drop j) η' = some (zs, η7) ∧ rs = acc ++ zs ++ r1, ⟨ds1.length, Nat.zero_add _, G6, F7, wipeE η6 vs1, accv, acc, z1, stB.trans (st7.or _), .refl _, R7, hD6, ra.mono ((g3.le.trans st35.le).trans st6.le), (st7.aside hD6 nD6 gD6).2.1, gD6, e8, by rw [ers, List.append_assoc]⟩, ?_⟩
        rintro j k1 H8 ⟨hjk, G8, F8, η9, accv8, acc8, zs, st8, l8, R8, hD8, ra8, nD8, gD8, e11, ers8⟩
        obtain ⟨i1, i2, i3⟩ := is1 G8 H8 l8 R8.le
        cases q1 : ds1[j]? with
        | none =>
          have hj := List.getElem?_eq_none_iff.mp q1
          rw [List.drop_eq_nil_of_le hj] at e11
          cases e11
          refine .inl ⟨i2 j hj, ?_⟩
          obtain ⟨F9, R9, st9⟩ := R8.wipe vs hB
          rw [wipe_wipe σ4 vs vs1 hv, wv] at R9
          exact ⟨G8, F9, _, accv8, acc8, r1, st8.trans (st9.or _), R9, hD8, ra8, (st9.aside hD8 nD8 gD8).2.1, gD8, e9, by rw [ers8, List.append_nil]⟩
        | some d1 =>
          have hj := (List.getElem?_eq_some_iff.mp q1).1
          rw [List.drop_eq_getElem_cons hj, (List.getElem?_eq_some_iff.mp q1).2] at e11
          simp only [lcLoop, Option.bind_eq_some_iff] at e11
          obtain ⟨η10, e12, ⟨b13, η13⟩, e13, e14⟩ := e11
          refine .inr ⟨i1 j hj, fun H' => ∃ G' F' η' accv acc zs, Step G1 (upd H1 Dd (.lst [])) (fun b => OwnP F1 b ∨ b = Dd) G' H' (fun b => OwnP F' b ∨ b = Dd) ∧ Le G6 G' ∧ Rel K B ρ G' H' F' η' (wipe σ4 vs1) ∧ H' Dd = some (.lst accv) ∧ Reps K G' accv acc ∧
            ¬ OwnP F' Dd ∧ G' Dd = none ∧ lcLoop vs1 tm1 mt1 me (ds1.drop (j + 1)) η' = some (zs, η7) ∧ rs = acc ++ zs ++ r1, fun H' h => ⟨k1 - 1, by omega, by omega, h⟩, fun x1 H9 y1 => ?_⟩
          obtain ⟨G9, g9, r9⟩ := i3 j x1 H9 d1 q1 y1
          have R9 := R8.grow g9
          obtain ⟨hD9, nD9, gD9⟩ := (g9.step (OwnP F8)).aside hD8 nD8 gD8
          have st9 := st8.trans ((g9.step (OwnP F8)).or fun b => b = Dd)
          refine ⟨G9, F8, η9, ρ, d1, η10, e12, R9, r9, fun σ5 H10 F10 st10 R10 w10 => ?_⟩
          have wv1 : wipe σ5 vs1 = wipe σ4 vs1 := by rw [w10 vs1 hts1, wipe_wipe σ4 vs1 vs1 fun _ h => h]
          refine ⟨wv1, G9, F10, η10, ρ, b13, η13, e13, R10, fun G11 H11 F11 st11 _ R11 => ?_⟩
          have st1011 := st10.trans st11
          obtain ⟨hD11, nD11, gD11⟩ := st1011.aside hD9 nD9 gD9
          have stC := st9.trans (st1011.or fun b => b = Dd)
          have l11 := (l8.trans g9.le).trans st1011.le
          cases b13 with
          | false =>
            simp only [Bool.false_eq_true, if_false] at e14 ⊢
            obtain ⟨F12, R12, st12⟩ := R11.wipe vs1 fun i hi => hB i (hv i hi)
            rw [wv1] at R12
            exact ⟨G11, F12, _, accv8, acc8, zs, stC.trans (st12.or _), l11, R12, hD11, ra8.mono (g9.le.trans st1011.le), (st12.aside hD11 nD11 gD11).2.1, gD11, e14, ers8⟩
          | true =>
            simp only [if_true, Option.bind_eq_some_iff] at e14 ⊢
            obtain ⟨⟨z, η15⟩, e15, ⟨rz, η16⟩, e16, e17⟩ := e14
            cases e17
            refine ⟨G11, F11, η13, ρ, z, η15, e15, R11, fun v G12 H12 F12 st12 _ R12 r12 => ?_⟩
            obtain ⟨hD12, nD12, gD12⟩ := st12.aside hD11 nD11 gD11
            have stE := stC.trans (st12.or fun b => b = Dd)
            refine ⟨accv8, hD12, ?_, ?_⟩
            · have := ra8.length
              have hl : acc8.length < rs.length := by rw [ers8]; simp
              have hz : rs.length ≤ 16777216 := hz
              rw [sizeLine_eq]; omega
            · have R13 := R12.other (u := .lst (accv8 ++ [v])) nD12 gD12
              obtain ⟨F14, R14, st14⟩ := R13.wipe vs1 fun i hi => hB i (hv i hi)
              rw [wv1] at R14
              have hD13 : (upd H12 Dd (.lst (accv8 ++ [v]))) Dd = some (.lst (accv8 ++ [v])) := upd_same
              refine ⟨G12, F14, _, accv8 ++ [v], acc8 ++ [z], rz, (stE.trans (Step.upd (.inr rfl))).trans (st14.or _), l11.trans st12.le, R14, hD13, ?_, (st14.aside hD13 nD12 gD12).2.1, gD12, e16, by rw [ers8]; simp⟩
              exact (ra8.mono ((g9.le.trans st1011.le).trans st12.le)).append (.one r12)
  · cases h2
section
variable {X : Cx} {B : List Nat}
theorem lcV2 (own : List (Str × Nat)) (vs1 : List Nat) {elt tg iter tg1 iter1 : Expr} {ifs ifs1 : List Expr} {scope : Scope} {pos : Pos} {mi mi1 : ME (List D)} {ts ts1 : List Nat} {tm tm1 : D → Env → Option Env} {pt pt1 p : Bool} {mt mt1 : ME Bool} {me : ME D} (hi : VI X B tg iter mi)
    (hg : ∀ (s : Shared) (H : Hp) (C : Addr) (cl : List (Str × Addr)) (fp : List Addr), VG (X.blk s H scope (compEnvC scope cl C X.env) fp) B ts tg tm) (ht : ∀ (s : Shared) (H : Hp) (C : Addr) (cl : List (Str × Addr)) (fp : List Addr), VTs (X.blk s H scope (compEnvC scope cl C X.env) fp) B pt ifs mt)
    (hi1 : ∀ (s : Shared) (H : Hp) (C : Addr) (cl : List (Str × Addr)) (fp : List Addr), VI (X.blk s H scope (compEnvC scope cl C X.env) fp) B tg1 iter1 mi1)
    (hg1 : ∀ (s : Shared) (H : Hp) (C : Addr) (cl : List (Str × Addr)) (fp : List Addr), VG (X.blk s H scope (compEnvC scope cl C X.env) fp) B ts1 tg1 tm1) (ht1 : ∀ (s : Shared) (H : Hp) (C : Addr) (cl : List (Str × Addr)) (fp : List Addr), VTs (X.blk s H scope (compEnvC scope cl C X.env) fp) B pt1 ifs1 mt1)
    (he : ∀ (s : Shared) (H : Hp) (C : Addr) (cl : List (Str × Addr)) (fp : List Addr), VE (X.blk s H scope (compEnvC scope cl C X.env) fp) B p elt me) (hN : X.N.Nodup := by assumption) (hc : X.calm = true := by kernel_rfl) (ok : blkB X.N X.env.scope scope own = true := by kernel_rfl) (hts : ∀ i ∈ ts, i ∈ own.map (·.2) := by decide) (hts1 : ∀ i ∈ ts1, i ∈ vs1 := by decide) (hv : ∀ i ∈ vs1, i ∈ own.map (·.2) := by decide) (hB : ∀ i ∈ own.map (·.2), i ∉ B := by decide)
    (hs : ∀ x, foldedSetIterable iter X.env x = pure x := by intro _; rfl) (hs1 : ∀ env x, foldedSetIterable iter1 env x = pure x := by intro _ _; rfl) : VN X B false (.ListComp elt [⟨tg, iter, ifs, 0⟩, ⟨tg1, iter1, ifs1, 0⟩] scope pos) (mLc2 mi (own.map (·.2)) vs1 tm mt mi1 tm1 mt1 me) :=
  pe_imp (pe_lc2 (g := rdG X.K B ts tm) (tt := rdT X.K B pt mt) (g1 := rdG X.K B ts1 tm1) (tt1 := rdT X.K B pt1 mt1) (te := rdE X.K B p me) (wi1 := rdI X.K B mi1) hc hN hi (blkB_of ok) hv hg ht hi1 hg1 ht1 he hs hs1) fun σ H Q h => lc2_imp hts hts1 hv hB σ H Q h
end
end VL
end
section
set_option Elab.async false
set_option linter.all false
set_option maxRecDepth 100000
set_option maxHeartbeats 1000000
set_option autoImplicit false
namespace VL
open PySem PySem.Spec PyProof.Rows L2

/-- bind, with a tag that keeps simp out of what comes next (with -dsimp) -/
structure Tg {γ : Type} (f : γ) : Type where
  mk ::
def bnd {α β : Type} (x : Option α) (f : α → Option β) (_u : Tg f := ⟨⟩) : Option β := x.bind f
theorem bnd_some {α β : Type} {a : α} {f : α → Option β} {u : Tg f} : bnd (some a) f u = f a := rfl
theorem bnd_none {α β : Type} {f : α → Option β} {u : Tg f} : bnd none f u = none := rfl
/-! ### stepping through an m-term: each combinator where it is applied -/
section
variable {α : Type} {η η' : Env}
theorem e_seq {a b : MS} : mSeq a b η = bnd (a η) fun q => match q.1 with
  | .nx => b q.2
  | r => some (r, q.2) := rfl
theorem e_seqN {b : MS} : (bnd (some (Out.nx, η) : Option (Out × Env)) fun q => match q.1 with
  | .nx => b q.2
  | r => some (r, q.2)) = b η := rfl
theorem e_seqR {b : MS} {o : O} : (bnd (some (Out.rt o, η) : Option (Out × Env)) fun q => match q.1 with
  | .nx => b q.2
  | r => some (r, q.2)) = some (.rt o, η) := rfl
theorem e_skip : mSkip η = some (.nx, η) := rfl
theorem e_never : mNever η = none := rfl
theorem e_ret {m : ME O} : mRet m η = bnd (m η) fun q => some (.rt q.1, q.2) := rfl
theorem e_n {m : ME D} : mN m η = bnd (m η) fun p => some (.s (.fro p.1), p.2) := rfl
theorem e_c {d : D} : mC d η = some (d, η) := rfl
theorem e_d {m : ME D} : mD m η = bnd (m η) fun p => some (.d p.1, p.2) := rfl
theorem e_do {m : ME D} : mDo m η = bnd (m η) fun q => some (.nx, q.2) := rfl
theorem e_nil : (mNil : ME (List α)) η = some ([], η) := rfl
theorem e_cons {m : ME α} {ms : ME (List α)} : mCons m ms η = bnd (m η) fun p => bnd (ms p.2) fun q => some (p.1 :: q.1, q.2) := rfl
theorem e_op2 {f : D → D → Option D} {ma mb : ME Opd} : mOp2 f ma mb η = bnd (ma η) fun p => bnd (mb p.2) fun q => bnd (cont q.2 p.1) fun a => bnd (cont q.2 q.1) fun b => bnd (f a b) fun d => some (d, q.2) := rfl
theorem e_un {f : D → Option D} {ma : ME Opd} : mUn f ma η = bnd (ma η) fun p => bnd (cont p.2 p.1) fun a => bnd (f a) fun d => some (d, p.2) := rfl
theorem e_chain {f g : D → D → Option D} {ma mb mc : ME Opd} : mChain f g ma mb mc η = bnd (ma η) fun p => bnd (mb p.2) fun q => bnd (cont q.2 p.1) fun a => bnd (cont q.2 q.1) fun b => bnd (f a b) fun d => match d with
  | .bl true => bnd (mc q.2) fun r => bnd (cont r.2 q.1) fun b' => bnd (cont r.2 r.1) fun c => bnd (g b' c) fun d => some (d, r.2)
  | .bl false => some (.bl false, q.2)
  | _ => none := rfl
theorem e_b {m : ME D} : mB m η = bnd (m η) fun p => match p.1 with
  | .bl b => some (b, p.2)
  | _ => none := rfl
theorem e_not {m : ME Bool} : mNot m η = bnd (m η) fun p => some (!p.1, p.2) := rfl
theorem e_and {a b : ME Bool} : mAnd a b η = bnd (a η) fun p => if p.1 = true then b p.2 else some (false, p.2) := rfl
theorem e_or {a b : ME Bool} : mOr a b η = bnd (a η) fun p => if p.1 = true then some (true, p.2) else b p.2 := rfl
theorem e_andV {a b : ME D} : mAndV a b η = bnd (a η) fun p => match p.1 with
  | .bl true => b p.2
  | .bl false => some (.bl false, p.2)
  | _ => none := rfl
theorem e_orV {a b : ME D} : mOrV a b η = bnd (a η) fun p => match p.1 with
  | .bl true => some (.bl true, p.2)
  | .bl false => b p.2
  | _ => none := rfl
theorem e_notV {a : ME D} : mNotV a η = bnd (a η) fun p => match p.1 with
  | .bl b => some (.bl (!b), p.2)
  | _ => none := rfl
theorem e_if {c : ME Bool} {a b : ME α} : mIf c a b η = bnd (c η) fun p => if p.1 = true then a p.2 else b p.2 := rfl
theorem e_ifS {c : ME Bool} {a b : MS} : mIfS c a b η = bnd (c η) fun p => if p.1 = true then a p.2 else b p.2 := rfl
theorem e_call {f : List D → Option D} {ms : ME (List Opd)} : mCall f ms η = bnd (ms η) fun p => bnd (conts p.2 p.1) fun ds => bnd (f ds) fun d => some (d, p.2) := rfl
theorem e_callN {f : List D → Option O1} {ms : ME (List Opd)} : mCallN f ms η = bnd (ms η) fun p => bnd (conts p.2 p.1) fun ds => bnd (f ds) fun o => some (.s o, p.2) := rfl
theorem e_callF {run : Fn} {ms : ME (List Opd)} : mCallF run ms η = bnd (ms η) fun a => if (locs a.1).Nodup then bnd (argsO a.2 a.1) fun os => bnd (run os) fun r => some (r.1, backE a.2 a.1 r.2) else none := rfl
theorem e_fz {m : ME O} : mFz m η = bnd (m η) fun p => match p.1 with
  | .s o => some (o.fz, p.2)
  | _ => none := rfl
theorem e_tup {ms : ME (List D)} : mTup ms η = bnd (ms η) fun p => if p.1.length ≤ 16777216 then some (.tup p.1, p.2) else none := rfl
theorem e_tupZ {ms : ME (List D)} : mTupZ ms η = bnd (ms η) fun p => if p.1.length ≤ 16777216 then some (.ktup p.1, p.2) else none := rfl
theorem e_lst {ms : ME (List D)} : mLst ms η = bnd (ms η) fun p => if p.1.length ≤ 16777216 then some (.s (.lst p.1), p.2) else none := rfl
theorem e_set {i : Nat} {m : ME O} : mSet i m η = bnd (m η) fun q => if i < q.2.length then some (.nx, q.2.set i (some q.1)) else none := rfl
theorem e_asg {m : ME D} {tm : D → Env → Option Env} : mAsg m tm η = bnd (m η) fun q => bnd (tm q.1 q.2) fun η2 => some (.nx, η2) := rfl
theorem e_put {mv mk : ME D} {mo : ME Opd} : mPut mv mo mk η = bnd (mv η) fun v => bnd (mo v.2) fun x => bnd (mk x.2) fun i => bnd (cellAt i.2 x.1) fun o => if o.own = true then bnd (dPut o i.1 v.1) fun o' => some (.nx, setAt i.2 x.1 o') else none := rfl
theorem e_get2 {mo : ME Opd} {mk md : ME D} : mGet2 mo mk md η = bnd (mo η) fun x => bnd (cont x.2 x.1) fun d0 => if isDict d0 = true then bnd (mk x.2) fun i => bnd (md i.2) fun z => bnd (cont z.2 x.1) fun d => bnd (dLook d i.1) fun o => some (o.getD z.1, z.2) else none := rfl
theorem e_mut {T : String} {f : O1 → List D → Option (D × O1)} {mo : ME Opd} {ms : ME (List D)} : mMut T f mo ms η = bnd (mo η) fun x => bnd (cellAt x.2 x.1) fun o0 => if kindT T o0 = true then bnd (ms x.2) fun q => bnd (cellAt q.2 x.1) fun o => if o.own = true then bnd (f o q.1) fun r => some (r.1, setAt q.2 x.1 r.2) else none else none := rfl
theorem e_mtr {T : String} {f : D → List D → Option D} {mo : ME Opd} {ms : ME (List D)} : mMtR T f mo ms η = bnd (mo η) fun x => bnd (cont x.2 x.1) fun d0 => if tyM T d0 = true then bnd (ms x.2) fun q => bnd (cont q.2 x.1) fun d1 => bnd (f d1 q.1) fun r => some (r, q.2) else none := rfl
theorem e_for {mi : ME (List D)} {tm : D → Env → Option Env} {body : MS} : mFor mi tm body η = bnd (mi η) fun q => mLoop tm body q.1 q.2 := rfl
theorem e_iter {m : ME D} : mIter m η = bnd (m η) fun q => bnd (itemsI q.1) fun ds => some (ds, q.2) := rfl
theorem e_over {f : List D → Option (List D)} {m : ME (List D)} : mOver f m η = bnd (m η) fun q => bnd (f q.1) fun ds => some (ds, q.2) := rfl
def small (n : Nat) : Bool := decide (n ≤ 16777216)
theorem small_of {n : Nat} (h : n ≤ 16777216) : small n = true := decide_eq_true h
theorem e_lc {mi : ME (List D)} {own : List Nat} {tm : D → Env → Option Env} {mt : ME Bool} {me : ME D} : mLc mi own tm mt me η = bnd (mi η) fun p =>
  bif calmE p.2 own && small p.1.length then bnd (lcLoop own tm mt me p.1 (wipeE p.2 own)) fun q => some (.s (.lst q.1), restE p.2 q.2 own) else none := by
  unfold mLc
  refine congrArg _ (funext fun p => ?_)
  by_cases h : calmE p.2 own = true ∧ p.1.length ≤ 16777216
  · rw [if_pos h, h.1, small_of h.2]; rfl
  · rw [if_neg h]
    have : (calmE p.2 own && small p.1.length) = false := by
      cases q : calmE p.2 own && small p.1.length with
      | false => rfl
      | true =>
        rw [Bool.and_eq_true] at q
        exact absurd ⟨q.1, of_decide_eq_true q.2⟩ h
    rw [this]; rfl
theorem e_yes : mYes η = some (true, η) := rfl
theorem e_pno : mPno η = some (none, η) := rfl
theorem e_po {m : ME D} : mPo m η = bnd (m η) fun p => match p.1 with
  | .int i => some (some i, p.2)
  | _ => none := rfl
theorem e_cut {mo : ME Opd} {ml mh : ME (Option Int)} : mCut mo ml mh η = bnd (mo η) fun p => bnd (ml p.2) fun l => bnd (mh l.2) fun h => bnd (cont h.2 p.1) fun a => bnd (dCut a l.1 h.1) fun d => some (d, h.2) := rfl
theorem e_par2 {i j : Nat} {m : ME (List O)} : mPar2 i j m η = bnd (m η) fun q => match q.1 with
  | [a, b] => if i < q.2.length ∧ j < q.2.length then some (.nx, (q.2.set i (some a)).set j (some b)) else none
  | _ => none := rfl
theorem e_par3 {i j l : Nat} {m : ME (List O)} : mPar3 i j l m η = bnd (m η) fun q => match q.1 with
  | [a, b, c] => if i < q.2.length ∧ j < q.2.length ∧ l < q.2.length then some (.nx, ((q.2.set i (some a)).set j (some b)).set l (some c)) else none
  | _ => none := rfl
theorem e_catN {ma mb : ME Opd} : mCatN ma mb η = bnd (ma η) fun p => bnd (mb p.2) fun q => match cont q.2 p.1, cont q.2 q.1 with
  | some (.lst xs), some (.lst ys) => if xs.length + ys.length ≤ 16777216 then some (.s (.lst (xs ++ ys)), q.2) else none
  | _, _ => none := rfl
theorem e_newT : mNewT η = some (.s (.dT []), η) := rfl
theorem e_name {i : Nat} : mName i η = (match η[i]? with
  | some (some (.s (.fro d))) => some (d, η)
  | _ => none) := rfl
theorem e_loc {i : Nat} : mLoc i η = (match η[i]? with
  | some (some _) => some (.loc i, η)
  | _ => none) := rfl
theorem e_take {i : Nat} : mTake i η = (match η[i]? with
  | some (some (.s o)) => some (o.fz, η.set i (some (.s (.fro o.fz))))
  | _ => none) := rfl
theorem e_move {i : Nat} : mMove i η = (match η[i]? with
  | some (some o) => some (o, η.set i none)
  | _ => none) := rfl
theorem e_gname {i : Nat} {d : D} : gmName i d η = if i < η.length then some (η.set i (some (.s (.fro d)))) else none := rfl
theorem c_d {x : D} : cont η (.d x) = some x := rfl
theorem c_loc {i : Nat} : cont η (.loc i) = (match η[i]? with
  | some (some (.s o)) => some o.fz
  | _ => none) := rfl
theorem k_loc {i : Nat} : cellAt η (.loc i) = (match η[i]? with
  | some (some (.s o)) => some o
  | _ => none) := rfl
theorem k_fld {i : Nat} {f : Str} : cellAt η (.fld i f) = (match η[i]? with
  | some (some (.ins _ fs)) => fs.lookup f
  | _ => none) := rfl
theorem cs_nil' : conts η [] = some [] := rfl
theorem cs_cons' {x : Opd} {xs : List Opd} : conts η (x :: xs) = (cont η x).bind fun d => (conts η xs).bind fun ds => some (d :: ds) := rfl
theorem fz_fro {d : D} : (O1.fro d).fz = d := rfl
theorem fz_lst {xs : List D} : (O1.lst xs).fz = .lst xs := rfl
theorem fz_dT {xs : List (List Key × D)} : (O1.dT xs).fz = .dT xs := rfl
end
section
variable {η : Env} {xs : List Opd} {outs : Env}
abbrev fr (d : D) : O := .s (.fro d)
theorem argsO_nil : argsO η [] = some [] := rfl
theorem argsO_d {x : D} : argsO η (.d x :: xs) = bnd (argsO η xs) fun os => some (.s (.fro x) :: os) := rfl
theorem argsO_loc {i : Nat} : argsO η (.loc i :: xs) = (match η[i]? with
    | some (some o) => bnd (argsO η xs) fun os => some (o :: os)
    | _ => none) := rfl
theorem locs_nil : locs [] = [] := rfl
theorem locs_d {x : D} : locs (.d x :: xs) = locs xs := rfl
theorem locs_loc {i : Nat} : locs (.loc i :: xs) = i :: locs xs := rfl
theorem nodup_nil' : ([] : List Nat).Nodup ↔ True := by simp
theorem nodup_one {i : Nat} : [i].Nodup ↔ True := by simp
theorem backE_nil : backE η [] outs = η := by cases outs <;> rfl
theorem backE_d {x : D} {o : Option O} : backE η (.d x :: xs) (o :: outs) = backE η xs outs := rfl
theorem backE_loc {i : Nat} {o : Option O} : backE η (.loc i :: xs) (o :: outs) = (backE η xs outs).set i o := by cases o <;> rfl
theorem wipeE_nil : wipeE η [] = η := rfl
theorem wipeE_cons {v : Nat} {vs : List Nat} : wipeE η (v :: vs) = (wipeE η vs).set v none := rfl
theorem calmE_nil : calmE η [] = true := rfl
theorem calmE_none {v : Nat} {vs : List Nat} : calmE η (v :: vs) = ((match η[v]? with
    | some (some (.s (.fro _))) => true
    | some (some _) => false
    | _ => true) && calmE η vs) := rfl
theorem restE_nil {η2 : Env} : restE η η2 [] = η2 := rfl
theorem restE_cons {η2 : Env} {v : Nat} {vs : List Nat} : restE η η2 (v :: vs) = (restE η η2 vs).set v (η[v]?.join) := rfl
theorem keep_0 {B : List Nat} : keepB 0 B η = [] := rfl
theorem keep_1 {B : List Nat} : keepB 1 B η = [if 0 ∈ B then η[0]?.join else none] := rfl
theorem keep_2 {B : List Nat} : keepB 2 B η = [if 0 ∈ B then η[0]?.join else none, if 1 ∈ B then η[1]?.join else none] := rfl
theorem keep_3 {B : List Nat} : keepB 3 B η = [if 0 ∈ B then η[0]?.join else none, if 1 ∈ B then η[1]?.join else none, if 2 ∈ B then η[2]?.join else none] := rfl
theorem keep_4 {B : List Nat} : keepB 4 B η = [if 0 ∈ B then η[0]?.join else none, if 1 ∈ B then η[1]?.join else none, if 2 ∈ B then η[2]?.join else none, if 3 ∈ B then η[3]?.join else none] := rfl
theorem own_lst {xs : List D} : (O1.lst xs).own = true := rfl
theorem own_dT {xs : List (List Key × D)} : (O1.dT xs).own = true := rfl
theorem own_fro {d : D} : (O1.fro d).own = false := rfl
theorem ite_true' {α : Type} {a b : α} : (if True then a else b) = a := if_pos trivial
theorem ite_false' {α : Type} {a b : α} : (if False then a else b) = b := if_neg id
theorem set_loc {i : Nat} {o : O1} : setAt η (.loc i) o = η.set i (some (.s o)) := rfl
/-- isinstance, by what the value is -/
theorem isi_of {x : D} {T a : String} (h : tyD x = some a) (hT : isiT T = true) : fIsi [x, .ty T] = some (.bl (isiB a T)) := by
  show (if isiT T = true then (tyD x).bind fun a => some (D.bl (isiB a T)) else none) = _
  rw [if_pos hT, h]; rfl
def isIntD : D → Bool
  | .int _ => true
  | .bl _ => true
  | _ => false
def isBlD' : D → Bool
  | .bl _ => true
  | _ => false
def isStrD : D → Bool
  | .str _ => true
  | _ => false
def isTupD : D → Bool
  | .tup _ => true
  | .ktup _ => true
  | _ => false
def isLstD : D → Bool
  | .lst _ => true
  | _ => false
/-- a value that isinstance can be asked of -/
def okT (x : D) : Bool := (tyD x).isSome
theorem isi_int {x : D} (h : okT x = true) : fIsi [x, .ty "int"] = some (.bl (isIntD x)) := by
  cases x <;> first | (simp [okT, tyD] at h; done) | exact (isi_of rfl (by decide +kernel)).trans (by simp [isiB, isIntD, isBlD', isStrD, isTupD, isLstD])
theorem isi_bool {x : D} (h : okT x = true) : fIsi [x, .ty "bool"] = some (.bl (isBlD' x)) := by
  cases x <;> first | (simp [okT, tyD] at h; done) | exact (isi_of rfl (by decide +kernel)).trans (by simp [isiB, isIntD, isBlD', isStrD, isTupD, isLstD])
theorem isi_str {x : D} (h : okT x = true) : fIsi [x, .ty "str"] = some (.bl (isStrD x)) := by
  cases x <;> first | (simp [okT, tyD] at h; done) | exact (isi_of rfl (by decide +kernel)).trans (by simp [isiB, isIntD, isBlD', isStrD, isTupD, isLstD])
theorem isi_tuple {x : D} (h : okT x = true) : fIsi [x, .ty "tuple"] = some (.bl (isTupD x)) := by
  cases x <;> first | (simp [okT, tyD] at h; done) | exact (isi_of rfl (by decide +kernel)).trans (by simp [isiB, isIntD, isBlD', isStrD, isTupD, isLstD])
theorem isi_list {x : D} (h : okT x = true) : fIsi [x, .ty "list"] = some (.bl (isLstD x)) := by
  cases x <;> first | (simp [okT, tyD] at h; done) | exact (isi_of rfl (by decide +kernel)).trans (by simp [isiB, isIntD, isBlD', isStrD, isTupD, isLstD])
end
end VL
end
section
set_option Elab.async false
set_option linter.all false
set_option maxRecDepth 100000
set_option maxHeartbeats 1000000
set_option autoImplicit false
namespace VL
open PySem PySem.Spec PyProof.Rows L2

/-! ### operators on known shapes -/
section
variable {i j : Int} {x y z u v w : D} {xs ys : List D} {f g : D → D → Option D}
theorem dLe_i : dLe (.int i) (.int j) = some (.bl (decide (i ≤ j))) := rfl
theorem dLt_i : dLt (.int i) (.int j) = some (.bl (decide (i < j))) := rfl
theorem dGt_i : dGt (.int i) (.int j) = some (.bl (decide (j < i))) := rfl
theorem dGe_i : dGe (.int i) (.int j) = some (.bl (decide (j ≤ i))) := rfl
theorem dAdd_i : dAdd (.int i) (.int j) = some (.int (i + j)) := rfl
theorem dSub_i : dSub (.int i) (.int j) = some (.int (i - j)) := rfl
theorem dNeg_i : dNeg (.int i) = some (.int (-i)) := rfl
theorem dMul_r (h : -18446744073709551616 < j ∧ j < 18446744073709551616) : dMul (.int i) (.int j) = some (.int (i * j)) := by
  show (if (-(2 ^ 64) < i ∧ i < 2 ^ 64) ∨ (-(2 ^ 64) < j ∧ j < 2 ^ 64) then some (D.int (i * j)) else _) = _
  rw [if_pos (.inr (by simpa using h))]
theorem dMul_l (h : -18446744073709551616 < i ∧ i < 18446744073709551616) : dMul (.int i) (.int j) = some (.int (i * j)) := by
  show (if (-(2 ^ 64) < i ∧ i < 2 ^ 64) ∨ (-(2 ^ 64) < j ∧ j < 2 ^ 64) then some (D.int (i * j)) else _) = _
  rw [if_pos (.inl (by simpa using h))]
theorem dFdiv_i (h0 : 0 < j) (h : j < 1073741824) : dFdiv (.int i) (.int j) = some (.int (i / j)) := by
  show (if 0 < j then (if j < 1073741824 then some (D.int (i / j)) else _) else none) = _
  rw [if_pos h0, if_pos h]
theorem dMod_i (h0 : 0 < j) : dMod (.int i) (.int j) = some (.int (i % j)) := by
  show (if 0 < j then some (D.int (i % j)) else none) = _
  rw [if_pos h0]
theorem dIx_l : dIx (.lst xs) (.int i) = atI xs i := rfl
theorem dIx_t : dIx (.tup xs) (.int i) = atI xs i := rfl
theorem dIx_k : dIx (.ktup xs) (.int i) = atI xs i := rfl
theorem at_0 : atI (x :: xs) 0 = some x := by
  simp [atI, ixN]
theorem at_1 : atI (x :: y :: xs) 1 = some y := by
  have h : (1 : Int) < ((x :: y :: xs).length : Int) := by simp; omega
  unfold atI ixN
  rw [if_pos (by decide), if_pos h]; rfl
theorem at_2 : atI (x :: y :: z :: xs) 2 = some z := by
  have h : (2 : Int) < ((x :: y :: z :: xs).length : Int) := by simp; omega
  unfold atI ixN
  rw [if_pos (by decide), if_pos h]; rfl
theorem at_3 : atI (x :: y :: z :: u :: xs) 3 = some u := by
  have h : (3 : Int) < ((x :: y :: z :: u :: xs).length : Int) := by simp; omega
  unfold atI ixN
  rw [if_pos (by decide), if_pos h]; rfl
theorem at_4 : atI (x :: y :: z :: u :: v :: xs) 4 = some v := by
  have h : (4 : Int) < ((x :: y :: z :: u :: v :: xs).length : Int) := by simp; omega
  unfold atI ixN
  rw [if_pos (by decide), if_pos h]; rfl
theorem at_5 : atI (x :: y :: z :: u :: v :: w :: xs) 5 = some w := by
  have h : (5 : Int) < ((x :: y :: z :: u :: v :: w :: xs).length : Int) := by simp; omega
  unfold atI ixN
  rw [if_pos (by decide), if_pos h]; rfl
theorem at_n {α : Type} {xs : List α} {n : Nat} : atI xs (n : Int) = xs[n]? := by
  unfold atI ixN
  rw [if_pos (by omega)]
  split
  · rename_i h
    show xs[(n : Int).toNat]? = _
    rw [Int.toNat_natCast]
  · rename_i h
    rw [List.getElem?_eq_none (by omega)]; rfl
theorem at_pos {α : Type} {xs : List α} {i : Int} (h : 0 ≤ i) : atI xs i = xs[i.toNat]? := by
  obtain ⟨n, rfl⟩ := Int.eq_ofNat_of_zero_le h
  rw [at_n, Int.toNat_natCast]
theorem at_last {α : Type} {xs : List α} {x : α} : atI (xs ++ [x]) (-1) = some x := atI_last xs x
theorem put_0 : dPut (.lst (x :: xs)) (.int 0) v = some (.lst (v :: xs)) := by
  show ((ixN (x :: xs).length 0).bind fun j => some (O1.lst ((x :: xs).set j v))) = _
  have h : (0 : Int) < ((x :: xs).length : Int) := by simp
  unfold ixN
  rw [if_pos (by decide), if_pos h]; rfl
theorem put_1 : dPut (.lst (x :: y :: xs)) (.int 1) v = some (.lst (x :: v :: xs)) := by
  show ((ixN (x :: y :: xs).length 1).bind fun j => some (O1.lst ((x :: y :: xs).set j v))) = _
  have h : (1 : Int) < ((x :: y :: xs).length : Int) := by simp; omega
  unfold ixN
  rw [if_pos (by decide), if_pos h]; rfl
theorem int_i : fInt [.int i] = some (.int i) := rfl
theorem int_b {b : Bool} : fInt [.bl b] = some (.int (if b then 1 else 0)) := rfl
theorem abs_i : fAbs [.int i] = some (.int (if i < 0 then -i else i)) := rfl
theorem len_t : fLen [.tup xs] = some (.int xs.length) := rfl
theorem len_k : fLen [.ktup xs] = some (.int xs.length) := rfl
theorem len_l : fLen [.lst xs] = some (.int xs.length) := rfl
theorem len_s {s : Str} (h : s.length ≤ 16777216) : fLen [.str s] = some (.int s.length) := by
  show (if s.length ≤ 16777216 then some (D.int s.length) else none) = _
  rw [if_pos h]
theorem list_l : fList [.lst xs] = some (.lst xs) := rfl
theorem list_t : fList [.tup xs] = some (.lst xs) := rfl
theorem list_k : fList [.ktup xs] = some (.lst xs) := rfl
theorem tupz_l : fTupZ [.lst xs] = some (.ktup xs) := rfl
theorem tupz_k : fTupZ [.ktup xs] = some (.ktup xs) := rfl
theorem add_ll (h : xs.length + ys.length ≤ 16777216) : dAdd (.lst xs) (.lst ys) = some (.lst (xs ++ ys)) := by
  show (if xs.length + ys.length ≤ 16777216 then some (D.lst (xs ++ ys)) else none) = _
  rw [if_pos h]
theorem add_tt (h : xs.length + ys.length ≤ 16777216) : dAdd (.tup xs) (.tup ys) = some (.tup (xs ++ ys)) := by
  show (if xs.length + ys.length ≤ 16777216 then some (D.tup (xs ++ ys)) else none) = _
  rw [if_pos h]
theorem is_non : dIs x .non = some (.bl (isNonD x)) := rfl
/-! ### loops and comprehensions, turn by turn -/
theorem loop_nil {tm : D → Env → Option Env} {body : MS} {η : Env} : mLoop tm body [] η = some (.nx, η) := rfl
theorem loop_cons {tm : D → Env → Option Env} {body : MS} {η : Env} {d : D} {ds : List D} : mLoop tm body (d :: ds) η = (tm d η).bind fun η1 => (body η1).bind fun q => match q.1 with
    | .nx => mLoop tm body ds q.2
    | .ct => mLoop tm body ds q.2
    | .bk => some (.nx, q.2)
    | .rt o => some (.rt o, q.2) := rfl
/-- a loop that keeps I: each turn goes on -/
theorem loop_inv {tm : D → Env → Option Env} {body : MS} (I : Nat → Env → Prop) : ∀ (ds : List D) (k : Nat) (η : Env), I k η → (∀ (i : Nat) (d : D) (η : Env), ds[i]? = some d → I (k + i) η → ∃ η1 η2, tm d η = some η1 ∧ (body η1 = some (.nx, η2) ∨ body η1 = some (.ct, η2)) ∧ I (k + i + 1) η2) →
    ∃ η', mLoop tm body ds η = some (.nx, η') ∧ I (k + ds.length) η'
  | [], k, η, h, _ => ⟨η, rfl, h⟩
  | d :: ds, k, η, h, st => by
    obtain ⟨η1, η2, e1, e2, h2⟩ := st 0 d η rfl h
    obtain ⟨η', e3, h3⟩ := loop_inv I ds (k + 1) η2 h2 fun i d' η hi hI => by
      obtain ⟨a, b, q1, q2, q3⟩ := st (i + 1) d' η (by simpa using hi) (by rw [show k + (i + 1) = k + 1 + i by omega]; exact hI)
      exact ⟨a, b, q1, q2, by rw [show k + 1 + i + 1 = k + (i + 1) + 1 by omega]; exact q3⟩
    refine ⟨η', ?_, by rw [List.length_cons, show k + (ds.length + 1) = k + 1 + ds.length by omega]; exact h3⟩
    rw [loop_cons, e1]
    rcases e2 with e2 | e2 <;> (simp only [Option.bind_some]; rw [e2]; exact e3)
/-- a comprehension whose turns leave the rest of the frame as it is -/
theorem lc_map {own : List Nat} {tm : D → Env → Option Env} {mt : ME Bool} {me : ME D} {η : Env} (p : D → Bool) (f : D → D) : ∀ (ds : List D), (∀ d ∈ ds, ∃ η1 η2, tm d η = some η1 ∧ mt η1 = some (p d, η2) ∧ (p d = true → ∃ η3, me η2 = some (f d, η3) ∧ wipeE η3 own = η) ∧ (p d = false → wipeE η2 own = η)) →
    lcLoop own tm mt me ds η = some ((ds.filter p).map f, η)
  | [], _ => rfl
  | d :: ds, h => by
    obtain ⟨η1, η2, e1, e2, e3, e4⟩ := h d List.mem_cons_self
    have ih := lc_map p f ds fun d' hd => h d' (List.mem_cons_of_mem _ hd)
    unfold lcLoop
    rw [e1]
    simp only [Option.bind_some]
    rw [e2]
    simp only [Option.bind_some]
    cases q : p d with
    | true =>
      obtain ⟨η3, e5, e6⟩ := e3 q
      simp only [if_true]
      rw [e5]
      simp only [Option.bind_some, e6, ih]
      rw [List.filter_cons_of_pos q]; rfl
    | false =>
      simp only [Bool.false_eq_true, if_false, e4 q, ih]
      rw [List.filter_cons_of_neg (by rw [q]; simp)]
/-- one that makes changes: I tells the frame, R what is laid -/
theorem lc_inv {own : List Nat} {tm : D → Env → Option Env} {mt : ME Bool} {me : ME D} (I : Env → Prop) (R : D → Prop) : ∀ (ds : List D) (η : Env), I η → (∀ (d : D) (η : Env), d ∈ ds → I η → ∃ η1 η2 z η3, tm d η = some η1 ∧ mt η1 = some (true, η2) ∧ me η2 = some (z, η3) ∧ R z ∧ I (wipeE η3 own)) →
    ∃ zs η', lcLoop own tm mt me ds η = some (zs, η') ∧ I η' ∧ zs.length = ds.length ∧ ∀ z ∈ zs, R z
  | [], η, h, _ => ⟨[], η, rfl, h, rfl, fun z hz => by cases hz⟩
  | d :: ds, η, h, st => by
    obtain ⟨η1, η2, z, η3, e1, e2, e3, r, h2⟩ := st d η List.mem_cons_self h
    obtain ⟨zs, η', e4, h3, l, rs⟩ := lc_inv I R ds _ h2 fun d' η hd hI => st d' η (List.mem_cons_of_mem _ hd) hI
    refine ⟨z :: zs, η', ?_, h3, by simp [l], fun y hy => ?_⟩
    · unfold lcLoop
      rw [e1]
      simp only [Option.bind_some]
      rw [e2]
      simp only [Option.bind_some, if_true]
      rw [e3]
      simp only [Option.bind_some]
      rw [e4]; rfl
    · rcases List.mem_cons.mp hy with rfl | hy
      · exact r
      · exact rs y hy
end
end VL
end
section
set_option Elab.async false
set_option linter.all false
set_option maxRecDepth 100000
set_option maxHeartbeats 1000000
set_option autoImplicit false
namespace VL
open PySem PySem.Spec PyProof.Rows L2

/-! ### dicts whose keys are pairs of numbers -/
abbrev Pt := Int × Int
def pk (p : Pt) : List Key := [.inl p.1, .inl p.2]
theorem pk_inj {p q : Pt} : pk p = pk q ↔ p = q := by
  constructor
  · intro h
    obtain ⟨a, b⟩ := p
    obtain ⟨c, d⟩ := q
    simp only [pk, List.cons.injEq, Sum.inl.injEq, and_true] at h
    rw [h.1, h.2]
  · rintro rfl; rfl
theorem tupKey_pair {p : Pt} : tupKey (pairD p) = some (pk p) := rfl
theorem tupKey_ii {x y : Int} : tupKey (.tup [.int x, .int y]) = some (pk (x, y)) := rfl
section
variable {α : Type}
def look {κ : Type} [DecidableEq κ] (T : List (κ × α)) (p : κ) : Option α := (T.find? fun kv => decide (kv.1 = p)).map (·.2)
theorem look_nil {κ : Type} [DecidableEq κ] {p : κ} : look ([] : List (κ × α)) p = none := rfl
theorem look_cons {κ : Type} [DecidableEq κ] {p q : κ} {a : α} {T : List (κ × α)} : look ((q, a) :: T) p = if q = p then some a else look T p := by
  unfold look
  by_cases h : q = p <;> simp [h]
theorem look_app {κ : Type} [DecidableEq κ] {p q : κ} {a : α} : ∀ {T : List (κ × α)}, look (T ++ [(q, a)]) p = match look T p with
    | some b => some b
    | none => if q = p then some a else none
  | [] => by rw [List.nil_append, look_cons, look_nil]
  | (k, b) :: T => by
    rw [List.cons_append, look_cons, look_cons]
    by_cases h : k = p
    · simp [h]
    · simp [h, look_app (T := T)]
theorem look_none {κ : Type} [DecidableEq κ] {p : κ} : ∀ {T : List (κ × α)}, look T p = none ↔ p ∉ T.map (·.1)
  | [] => by simp [look]
  | (k, b) :: T => by
    rw [look_cons]
    by_cases h : k = p
    · simp [h]
    · rw [if_neg h, look_none, List.map_cons, List.mem_cons, not_or]
      exact ⟨fun g => ⟨fun e => h e.symm, g⟩, fun g => g.2⟩
theorem look_some {κ : Type} [DecidableEq κ] {p : κ} {T : List (κ × α)} : (∃ a, look T p = some a) ↔ p ∈ T.map (·.1) := by
  have := look_none (p := p) (T := T)
  constructor
  · rintro ⟨a, h⟩
    refine Classical.byContradiction fun n => ?_
    rw [this.mpr n] at h; cases h
  · intro h
    cases q : look T p with
    | none => exact absurd h (this.mp q)
    | some a => exact ⟨a, rfl⟩
theorem look_mem {κ : Type} [DecidableEq κ] {p : κ} {a : α} : ∀ {T : List (κ × α)}, look T p = some a → (p, a) ∈ T
  | [], h => by cases h
  | (k, b) :: T, h => by
    rw [look_cons] at h
    by_cases e : k = p
    · rw [if_pos e] at h; cases h; subst e; exact List.mem_cons_self
    · rw [if_neg e] at h; exact List.mem_cons_of_mem _ (look_mem h)
theorem look_of_mem {κ : Type} [DecidableEq κ] {p : κ} {a : α} : ∀ {T : List (κ × α)}, (T.map (·.1)).Nodup → (p, a) ∈ T → look T p = some a
  | [], _, h => by cases h
  | (k, b) :: T, n, h => by
    rw [List.map_cons, List.nodup_cons] at n
    rw [look_cons]
    rcases List.mem_cons.mp h with h | h
    · cases h; rw [if_pos rfl]
    · have : k ≠ p := fun e => n.1 (e ▸ List.mem_map.mpr ⟨_, h, rfl⟩)
      rw [if_neg this]; exact look_of_mem n.2 h
theorem look_drop {κ : Type} [DecidableEq κ] {p q : κ} : ∀ {T : List (κ × α)}, look (dropT T q) p = if q = p then none else look T p
  | [] => by simp [look, dropT]
  | (k, b) :: T => by
    have ih := look_drop (p := p) (q := q) (T := T)
    unfold dropT at ih ⊢
    by_cases h : k = q
    · subst h
      rw [List.filter_cons_of_neg (by simp), ih, look_cons]
      by_cases g : k = p <;> simp [g]
    · rw [List.filter_cons_of_pos (by simpa using h), look_cons, look_cons, ih]
      by_cases g : q = p
      · subst g; simp [h]
      · rw [if_neg g, if_neg g]
theorem put_new {κ : Type} [DecidableEq κ] {T : List (κ × α)} {p : κ} {a : α} (h : p ∉ T.map (·.1)) : putT T p a = T ++ [(p, a)] := by
  unfold putT
  rw [if_neg]
  rw [List.any_eq_true]
  rintro ⟨x, hx, e⟩
  exact h (List.mem_map.mpr ⟨x, hx, of_decide_eq_true e⟩)
theorem keys_put {κ : Type} [DecidableEq κ] {T : List (κ × α)} {p : κ} {a : α} : (putT T p a).map (·.1) = if p ∈ T.map (·.1) then T.map (·.1) else T.map (·.1) ++ [p] := by
  by_cases h : p ∈ T.map (·.1)
  · rw [if_pos h]
    unfold putT
    obtain ⟨x, hx, e⟩ := List.mem_map.mp h
    rw [if_pos (List.any_eq_true.mpr ⟨x, hx, decide_eq_true e⟩), List.map_map]
    refine List.map_congr_left fun kv _ => ?_
    simp only [Function.comp]
    split
    · rename_i h; exact h.symm ▸ rfl
    · rfl
  · rw [if_neg h, put_new h, List.map_append]; rfl
theorem look_put {κ : Type} [DecidableEq κ] {T : List (κ × α)} {p q : κ} {a : α} : look (putT T q a) p = if q = p then some a else look T p := by
  by_cases h : q ∈ T.map (·.1)
  · have h' := h
    obtain ⟨x, hx, e⟩ := List.mem_map.mp h
    unfold putT
    rw [if_pos (List.any_eq_true.mpr ⟨x, hx, decide_eq_true e⟩)]
    clear hx e h
    induction T with
    | nil => cases h'
    | cons kv T ih =>
      obtain ⟨k, b⟩ := kv
      rw [List.map_cons]
      by_cases e : k = q
      · subst e
        simp only [if_true]
        rw [look_cons, look_cons]
        by_cases g : k = p
        · simp [g]
        · rw [if_neg g, if_neg g, if_neg g]
          by_cases m : k ∈ T.map (·.1)
          · rw [ih m, if_neg g]
          · have : T.map (fun kv => if kv.1 = k then (kv.1, a) else kv) = T := by
              conv => rhs; rw [← List.map_id T]
              refine List.map_congr_left fun kv hkv => ?_
              rw [if_neg fun e => m (List.mem_map.mpr ⟨kv, hkv, e⟩)]; rfl
            rw [this]
      · rw [if_neg e, look_cons, look_cons]
        have m : q ∈ T.map (·.1) := by
          rw [List.map_cons] at h'
          rcases List.mem_cons.mp h' with r | r
          · exact absurd r.symm e
          · exact r
        rw [ih m]
        by_cases g : k = p
        · rw [if_pos g, if_pos g, if_neg fun z => e (g.trans z.symm)]
        · rw [if_neg g, if_neg g]
  · rw [put_new h, look_app]
    have := look_none.mpr h
    by_cases g : q = p
    · subst g; rw [this]
    · rw [if_neg g, if_neg g]
      cases look T p <;> rfl
theorem nodup_put {κ : Type} [DecidableEq κ] {T : List (κ × α)} {p : κ} {a : α} (n : (T.map (·.1)).Nodup) : ((putT T p a).map (·.1)).Nodup := by
  rw [keys_put]
  split
  · exact n
  · rename_i h
    rw [List.nodup_append]
    exact ⟨n, by simp, fun x hx y hy e => h (by rw [List.mem_singleton] at hy; rw [← hy, ← e]; exact hx)⟩
theorem nodup_drop {κ : Type} [DecidableEq κ] {T : List (κ × α)} {p : κ} (n : (T.map (·.1)).Nodup) : ((dropT T p).map (·.1)).Nodup := by
  unfold dropT
  exact n.sublist (List.filter_sublist.map _)
theorem len_put {κ : Type} [DecidableEq κ] {T : List (κ × α)} {p : κ} {a : α} : (putT T p a).length ≤ T.length + 1 := by
  unfold putT; split <;> simp
theorem len_drop {κ : Type} [DecidableEq κ] {T : List (κ × α)} {p : κ} : (dropT T p).length ≤ T.length := by
  unfold dropT; exact List.length_filter_le _ _
/-- a table of pairs, as the model lays it -/
def gI {α : Type} (f : α → D) (T : List (Pt × α)) : List (List Key × D) := T.map fun kv => (pk kv.1, f kv.2)
theorem getT_gI {f : α → D} {p : Pt} : ∀ {T : List (Pt × α)}, getT (gI f T) (pk p) = (look T p).map f
  | [] => rfl
  | (k, b) :: T => by
    have ih := getT_gI (f := f) (p := p) (T := T)
    unfold getT gI at ih ⊢
    rw [look_cons, List.map_cons, List.find?_cons]
    by_cases h : k = p
    · subst h; simp
    · have : ¬ pk k = pk p := fun e => h (pk_inj.mp e)
      simp only [decide_eq_false this, if_neg h]
      exact ih
theorem dropT_gI {f : α → D} {p : Pt} {T : List (Pt × α)} : dropT (gI f T) (pk p) = gI f (dropT T p) := by
  unfold dropT gI
  rw [List.filter_map]
  refine congrArg _ (List.filter_congr fun kv _ => ?_)
  simp only [Function.comp]
  by_cases h : kv.1 = p
  · simp [h]
  · simp [h, pk_inj]
theorem putT_gI {f : α → D} {p : Pt} {a : α} {T : List (Pt × α)} : putT (gI f T) (pk p) (f a) = gI f (putT T p a) := by
  unfold putT gI
  have e : (T.map fun kv => (pk kv.1, f kv.2)).any (fun kv => decide (kv.1 = pk p)) = T.any fun kv => decide (kv.1 = p) := by
    rw [List.any_map]
    refine congrArg (T.any ·) (funext fun kv => ?_)
    simp [pk_inj]
  rw [e]
  by_cases h : (T.any fun kv => decide (kv.1 = p)) = true
  · rw [if_pos h, if_pos h, List.map_map, List.map_map]
    refine List.map_congr_left fun kv _ => ?_
    simp only [Function.comp]
    by_cases g : kv.1 = p
    · simp [g]
    · simp [g, pk_inj]
  · rw [if_neg h, if_neg h, List.map_append]; rfl
theorem keys_gI {f : α → D} {T : List (Pt × α)} : ((gI f T).map fun kv => keyD kv.1) = (T.map (·.1)).map pairD := by
  unfold gI
  rw [List.map_map, List.map_map]; rfl
theorem len_gI {f : α → D} {T : List (Pt × α)} : (gI f T).length = T.length := List.length_map _
theorem merge_gI {f : α → D} {T : List (Pt × α)} (n : (T.map (·.1)).Nodup) : mergeT (gI f T) = gI f T := by
  have key : ∀ (U S : List (Pt × α)), ((S ++ U).map (·.1)).Nodup → (gI f U).foldl (fun acc kv => putT acc kv.1 kv.2) (gI f S) = gI f (S ++ U) := by
    intro U
    induction U with
    | nil => intro S _; rw [List.append_nil]; rfl
    | cons u U ih =>
      intro S h
      have hn : u.1 ∉ S.map (·.1) := by
        intro m
        rw [List.map_append, List.nodup_append] at h
        exact h.2.2 _ m _ List.mem_cons_self rfl
      show (gI f U).foldl _ (putT (gI f S) (pk u.1) (f u.2)) = _
      rw [putT_gI, put_new hn, ih _ (by rw [List.append_assoc]; exact h), List.append_assoc]; rfl
  exact key T [] n
/-- the list of pairs that a dict is made of -/
def pairsD {α : Type} (f : α → D) (T : List (Pt × α)) : List D := T.map fun kv => .tup [pairD kv.1, f kv.2]
theorem pairsT_D {f : α → D} : ∀ {T : List (Pt × α)}, pairsT (pairsD f T) = some (gI f T)
  | [] => rfl
  | kv :: T => by
    have ih := pairsT_D (f := f) (T := T)
    show (pairT (.tup [pairD kv.1, f kv.2])).bind (fun p => (pairsT (pairsD f T)).bind fun ps => some (p :: ps)) = _
    rw [ih]; rfl
theorem dict_k {f : α → D} {T : List (Pt × α)} (n : (T.map (·.1)).Nodup) (h : T.length ≤ 16777216) : fDictT [.ktup (pairsD f T)] = some (.dT (gI f T)) := by
  show (if (pairsD f T).length ≤ 16777216 then (pairsT (pairsD f T)).bind fun kds => some (O1.dT (mergeT kds)) else none) = _
  rw [if_pos (by unfold pairsD; rw [List.length_map]; exact h), pairsT_D, Option.bind_some, merge_gI n]
theorem dict_l {f : α → D} {T : List (Pt × α)} (n : (T.map (·.1)).Nodup) (h : T.length ≤ 16777216) : fDictT [.lst (pairsD f T)] = some (.dT (gI f T)) := by
  show (if (pairsD f T).length ≤ 16777216 then (pairsT (pairsD f T)).bind fun kds => some (O1.dT (mergeT kds)) else none) = _
  rw [if_pos (by unfold pairsD; rw [List.length_map]; exact h), pairsT_D, Option.bind_some, merge_gI n]
end
/-! ### sorted keys -/
theorem enc_pair {p : Pt} : encD (pairD p) = .tuple [.int p.1, .int p.2] := rfl
theorem toP_pair {p : Pt} : toP 60 (pairD p) = some (.tuple [.int p.1, .int p.2]) := rfl
theorem toPs_pairs : ∀ ps : List Pt, toPs 60 (ps.map pairD) = some (ps.map fun p => .tuple [.int p.1, .int p.2])
  | [] => rfl
  | p :: ps => by
    rw [List.map_cons]
    unfold toPs
    rw [toP_pair, toPs_pairs ps]; rfl
theorem alike_pairs {p q : Pt} : PySem.W.alike (.tuple [.int p.1, .int p.2]) (.tuple [.int q.1, .int q.2]) = true := by
  simp [PySem.W.alike, PySem.W.alikeAll]
theorem okSort_pairs {ps : List Pt} (h : ps.length ≤ 16777216) : okSort (ps.map pairD) = true := by
  unfold okSort
  rw [toPs_pairs]
  simp only [List.all_map, Bool.and_eq_true, Bool.or_eq_true, decide_eq_true_eq, List.length_map]
  refine ⟨⟨?_, .inl ?_⟩, h⟩
  · exact List.all_eq_true.mpr fun p _ => List.all_eq_true.mpr fun q _ => alike_pairs
  · exact List.all_eq_true.mpr fun p _ => rfl
theorem leD_pair {p q : Pt} : leD (pairD p) (pairD q) = !ltP q p := by
  unfold leD
  rw [enc_pair, enc_pair, PySem.W.dataLt_ii]; rfl
theorem setSort_merge {ps : List Pt} (n : ps.Nodup) : ps.mergeSort (fun p q => !ltP q p) = setSort ps := by
  refine sorted_eq ?_ (setSort_sorted ps) fun x => ?_
  · have h1 := List.pairwise_mergeSort (le := fun p q : Pt => !ltP q p) (fun a b c h1 h2 => by
      rw [Bool.not_eq_true'] at h1 h2 ⊢
      cases q : ltP c a with
      | false => rfl
      | true =>
        exfalso
        by_cases e : a = b
        · subst e; rw [q] at h2; cases h2
        · have := ltP_trans q (ltP_tri (fun z => e z.symm) (by rw [h1]; simp))
          rw [this] at h2; cases h2) (fun a b => by
      cases q : ltP b a with
      | false => rfl
      | true =>
        cases r : ltP a b with
        | false => rfl
        | true => exact absurd (ltP_trans q r) ltP_irr) ps
    have h2 : (ps.mergeSort fun p q => !ltP q p).Nodup := (List.mergeSort_perm ps _).nodup_iff.mpr n
    refine (List.Pairwise.and h1 h2).imp fun {a b} h => ?_
    refine ltP_tri (fun z => h.2 z.symm) ?_
    have := h.1
    rw [Bool.not_eq_true'] at this
    rw [this]; simp
  · rw [mem_setSort]; exact (List.mergeSort_perm ps _).mem_iff
theorem setSort_perm {ps : List Pt} (n : ps.Nodup) : (setSort ps).Perm ps := by
  rw [← setSort_merge n]; exact List.mergeSort_perm ps _
theorem sortD_pairs {ps : List Pt} (n : ps.Nodup) : sortD (ps.map pairD) = (setSort ps).map pairD := by
  unfold sortD
  rw [← List.map_mergeSort (r := fun p q => !ltP q p) (fun a _ b _ => leD_pair.symm)]
  exact congrArg _ (setSort_merge n)
theorem sorted_dT {α : Type} {f : α → D} {T : List (Pt × α)} (n : (T.map (·.1)).Nodup) (h : T.length ≤ 16777216) : fSorted [.dT (gI f T)] = some (.lst ((setSort (T.map (·.1))).map pairD)) := by
  show (if okSort ((gI f T).map fun kv => keyD kv.1) = true then some (O1.lst (sortD ((gI f T).map fun kv => keyD kv.1))) else none) = _
  rw [keys_gI, if_pos (okSort_pairs (by rw [List.length_map]; exact h)), sortD_pairs n]
/-! ### the cells of a grid, in order -/
def cells (h w : Nat) : List Pt := (List.range h).flatMap fun (i : Nat) => (List.range w).map fun (j : Nat) => (((i : Nat) : Int), ((j : Nat) : Int))
theorem mem_cells {h w : Nat} {p : Pt} : p ∈ cells h w ↔ (0 ≤ p.1 ∧ p.1 < h) ∧ (0 ≤ p.2 ∧ p.2 < w) := by
  unfold cells
  rw [List.mem_flatMap]
  constructor
  · rintro ⟨i, hi, hp⟩
    obtain ⟨j, hj, rfl⟩ := List.mem_map.mp hp
    rw [List.mem_range] at hi hj
    simp only
    omega
  · rintro ⟨⟨a, b⟩, c, d⟩
    obtain ⟨x, y⟩ := p
    obtain ⟨i, rfl⟩ := Int.eq_ofNat_of_zero_le a
    obtain ⟨j, rfl⟩ := Int.eq_ofNat_of_zero_le c
    exact ⟨i, List.mem_range.mpr (by simp only at b; omega), List.mem_map.mpr ⟨j, List.mem_range.mpr (by simp only at d; omega), rfl⟩⟩
theorem cells_len {h w : Nat} : (cells h w).length = h * w := by
  unfold cells
  rw [List.length_flatMap]
  simp only [List.length_map, List.length_range]
  induction h with
  | zero => simp
  | succ h ih => rw [List.range_succ, List.map_append, List.sum_append, ih, Nat.succ_mul]; simp
theorem pw_range {n : Nat} : (List.range n).Pairwise (· < ·) := List.pairwise_lt_range
theorem cells_sorted {h w : Nat} : (cells h w).Pairwise fun a b => ltP a b = true := by
  unfold cells
  rw [List.pairwise_flatMap]
  refine ⟨fun i _ => ?_, pw_range.imp fun {i j} hij x hx y hy => ?_⟩
  · rw [List.pairwise_map]
    exact pw_range.imp fun {a b} hab => decide_eq_true (.inr ⟨rfl, by simp only; omega⟩)
  · obtain ⟨a, _, rfl⟩ := List.mem_map.mp hx
    obtain ⟨b, _, rfl⟩ := List.mem_map.mp hy
    simp only [ltP, decide_eq_true_eq]; omega
theorem sorted_nodup {ps : List Pt} (h : ps.Pairwise fun a b => ltP a b = true) : ps.Nodup := by
  refine List.Pairwise.imp (fun {a b} hab => ?_) h
  rintro rfl
  exact ltP_irr hab
/-- the sorted lists of cells of a grid -/
theorem sorted_grid {h w : Nat} {ps : List Pt} (hs : ps.Pairwise fun a b => ltP a b = true) (hm : ∀ p ∈ ps, p ∈ cells h w) : ps = (cells h w).filter fun p => decide (p ∈ ps) :=
  sorted_eq hs (cells_sorted.filter _) fun x => by
    rw [List.mem_filter, decide_eq_true_eq]
    exact ⟨fun hx => ⟨hm x hx, hx⟩, fun hx => hx.2⟩
theorem grid_len {h w : Nat} {ps : List Pt} (hs : ps.Pairwise fun a b => ltP a b = true) (hm : ∀ p ∈ ps, p ∈ cells h w) : ps.length ≤ h * w := by
  rw [sorted_grid hs hm, ← cells_len]
  exact List.length_filter_le _ _
theorem nodup_len {h w : Nat} {ps : List Pt} (n : ps.Nodup) (hm : ∀ p ∈ ps, p ∈ cells h w) : ps.length ≤ h * w := by
  rw [← (setSort_perm n).length_eq]
  exact grid_len (setSort_sorted ps) fun p hp => hm p (mem_setSort.mp hp)
/-- the painted cells, in order -/
def ptsOf (h w : Nat) (col : Pt → Int) : List Pt := (cells h w).filter fun p => decide (0 < col p)
theorem ptsOf_sorted {h w : Nat} {col : Pt → Int} : (ptsOf h w col).Pairwise fun a b => ltP a b = true := cells_sorted.filter _
theorem sort_keys {h w : Nat} {ks : List Pt} {col : Pt → Int} (hk : ∀ p ∈ ks, p ∈ cells h w) (hc : ∀ p, 0 < col p → p ∈ ks) : (setSort ks).filter (fun p => decide (0 < col p)) = ptsOf h w col :=
  sorted_eq ((setSort_sorted ks).filter _) ptsOf_sorted fun x => by
    unfold ptsOf
    rw [List.mem_filter, List.mem_filter, mem_setSort, decide_eq_true_eq]
    exact ⟨fun g => ⟨hk x g.1, g.2⟩, fun g => ⟨hc x g.2, g.2⟩⟩
end VL
end
section
set_option Elab.async false
set_option linter.all false
set_option maxRecDepth 100000
set_option maxHeartbeats 1000000
set_option autoImplicit false
namespace VL
open PySem PySem.Spec PyProof.Rows L2
section
variable {η η' : Env}
theorem e_fld {C : Addr} {i : Nat} {f : Str} : mFld C i f η = (match η[i]? with
  | some (some (.ins C' fs)) => if C' = C then (match fs.lookup f with
    | some (.fro d) => some (d, η)
    | _ => none) else none
  | _ => none) := rfl
theorem e_fldO {C : Addr} {i : Nat} {f : Str} : mFldO C i f η = (match η[i]? with
  | some (some (.ins C' fs)) => if C' = C then (match fs.lookup f with
    | some _ => some (.fld i f, η)
    | none => none) else none
  | _ => none) := rfl
theorem e_fldSet {C : Addr} {i : Nat} {f : Str} {m : ME O} : mFldSet C i f m η = bnd (m η) fun q => match q.1, q.2[i]? with
  | .s o, some (some (.ins C' fs)) => if C' = C ∧ fs.length < 1000 then some (.nx, q.2.set i (some (.ins C (putO f o fs)))) else none
  | _, _ => none := rfl
theorem e_gmFld {C : Addr} {i : Nat} {f : Str} {d : D} : gmFld C i f d η = (match η[i]? with
  | some (some (.ins C' fs)) => if C' = C ∧ fs.length < 1000 then some (η.set i (some (.ins C (putO f (.fro d) fs)))) else none
  | _ => none) := rfl
theorem e_gmNil : gmNil [] η = some η := rfl
theorem e_gmCons {a : D → Env → Option Env} {b : List D → Env → Option Env} {d : D} {ds : List D} : gmCons a b (d :: ds) η = bnd (a d η) fun η1 => b ds η1 := rfl
theorem e_gmTup {n : Nat} {b : List D → Env → Option Env} {ds : List D} : gmTup n b (.tup ds) η = if ds.length = n then b ds η else none := rfl
theorem e_gmKtup {n : Nat} {b : List D → Env → Option Env} {ds : List D} : gmTup n b (.ktup ds) η = if ds.length = n then b ds η else none := rfl
theorem e_meth {C : Addr} {mn : Str} {i : Nat} {run : Fn} {ms : ME (List Opd)} : mMeth C mn i run ms η = (match η[i]? with
  | some (some (.ins C' fs)) => if C' = C ∧ fs.lookup mn = none then bnd (ms η) fun a => if (locs (.loc i :: a.1)).Nodup then bnd (argsO a.2 (.loc i :: a.1)) fun os => bnd (run os) fun r => some (r.1, backE a.2 (.loc i :: a.1) r.2) else none else none
  | _ => none) := rfl
theorem e_make {C : Addr} {run : Fn} {ms : ME (List Opd)} : mMake C run ms η = bnd (ms η) fun a =>
  if (locs (.loc a.2.length :: a.1)).Nodup then bnd (argsO (a.2 ++ [some (O.ins C [])]) (.loc a.2.length :: a.1)) fun os => bnd (run os) fun r => match r.1, (backE (a.2 ++ [some (O.ins C [])]) (.loc a.2.length :: a.1) r.2)[a.2.length]? with
    | .s (.fro .non), some (some o) => some (o, (backE (a.2 ++ [some (O.ins C [])]) (.loc a.2.length :: a.1) r.2).take a.2.length)
    | _, _ => none else none := rfl
theorem e_methT {C : Addr} {mn : Str} {run : Fn} {mo : ME O} : mMethT C mn run mo η = bnd (mo η) fun q => match q.1 with
  | .ins C' fs => if C' = C ∧ fs.lookup mn = none then bnd (run [.ins C' fs]) fun r => some (r.1, q.2) else none
  | _ => none := rfl
theorem c_fld {i : Nat} {f : Str} : cont η (.fld i f) = (match η[i]? with
    | some (some (.ins _ fs)) => (fs.lookup f).map O1.fz
    | _ => none) := by
  first
    | rfl
    | (unfold cont; split <;> rfl)
theorem set_fld {i : Nat} {f : Str} {o : O1} : setAt η (.fld i f) o = (match η[i]? with
    | some (some (.ins C fs)) => η.set i (some (.ins C (putO f o fs)))
    | _ => η) := rfl
theorem e_idx {i : Nat} {a : Option O} {r : Env} : (a :: r)[i + 1]? = r[i]? := rfl
end
/-! ### strings -/
theorem dIx_s {s : Str} {i : Int} (h : s.cps.size ≤ 16777216) : dIx (.str s) (.int i) = (atI s.cps.toList i).map fun c => .str ⟨#[c]⟩ := by
  show (if s.cps.size ≤ 16777216 then (atI s.cps.toList i).map fun c => D.str ⟨#[c]⟩ else none) = _
  rw [if_pos h]
theorem eqv_ss {a b : Str} : PyData.eqv (.str a) (.str b) = decide (a = b) := by
  rw [Bool.eq_iff_iff]; simp [PyData.eqv]
theorem eqv_ii {a b : Int} : PyData.eqv (.int a) (.int b) = decide (a = b) := by
  rw [Bool.eq_iff_iff]; simp [PyData.eqv]
theorem dEq_ss {a b : Str} : dEq (.str a) (.str b) = some (.bl (decide (a = b))) := by
  show some (D.bl (PyData.eqv (.str a) (.str b))) = _
  rw [eqv_ss]
theorem dEq_ii {a b : Int} : dEq (.int a) (.int b) = some (.bl (decide (a = b))) := by
  show some (D.bl (PyData.eqv (.int a) (.int b))) = _
  rw [eqv_ii]
theorem dNe_ii {a b : Int} : dNe (.int a) (.int b) = some (.bl (!decide (a = b))) := by
  show some (D.bl (!PyData.eqv (.int a) (.int b))) = _
  rw [eqv_ii]
theorem bls_map {α : Type} {p : α → Bool} : ∀ {xs : List α}, bls (xs.map fun x => .bl (p x)) = some (xs.map p)
  | [] => rfl
  | x :: xs => by
    show (bls (xs.map fun x => .bl (p x))).bind (fun bs => some (p x :: bs)) = _
    rw [bls_map]; rfl
theorem all_bl {α : Type} {p : α → Bool} {xs : List α} : fAll [.lst (xs.map fun x => .bl (p x))] = some (.bl (xs.all p)) := by
  show (bls (xs.map fun x => .bl (p x))).bind (fun bs => some (D.bl (bs.all id))) = _
  rw [bls_map, Option.bind_some, List.all_map]; rfl
theorem strsD_map : ∀ {xs : List Str}, strsD (xs.map D.str) = some xs
  | [] => rfl
  | x :: xs => by
    show (strsD (xs.map D.str)).bind (fun bs => some (x :: bs)) = _
    rw [strsD_map]; rfl
/-- a comprehension without a test, whose turns leave the frame as it is -/
theorem lc_all {own : List Nat} {tm : D → Env → Option Env} {me : ME D} {η : Env} (f : D → D) (ds : List D) (h : ∀ d ∈ ds, ∃ η1 η3, tm d η = some η1 ∧ me η1 = some (f d, η3) ∧ wipeE η3 own = η) :
    lcLoop own tm mYes me ds η = some (ds.map f, η) := by
  have := lc_map (own := own) (tm := tm) (mt := mYes) (me := me) (η := η) (fun _ => true) f ds fun d hd => by
    obtain ⟨η1, η3, e1, e2, e3⟩ := h d hd
    exact ⟨η1, η1, e1, rfl, fun _ => ⟨η3, e2, e3⟩, fun z => by cases z⟩
  rw [this, List.filter_eq_self.mpr fun _ _ => rfl]
/-- one with a test -/
theorem lc_filter {own : List Nat} {tm : D → Env → Option Env} {mt : ME Bool} {me : ME D} {η : Env} (p : D → Bool) (f : D → D) (ds : List D) (h : ∀ d ∈ ds, ∃ η1 η2, tm d η = some η1 ∧ mt η1 = some (p d, η2) ∧ (p d = true → ∃ η3, me η2 = some (f d, η3) ∧ wipeE η3 own = η) ∧ (p d = false → wipeE η2 own = η)) :
    lcLoop own tm mt me ds η = some ((ds.filter p).map f, η) := lc_map p f ds h
/-- is the list of them empty? -/
theorem dNe_nil {xs : List D} {ps : List PyData} (h : toPs 59 xs = some ps) : dNe (.lst xs) (.lst []) = some (.bl (!xs.isEmpty)) := by
  have e : toP 60 (.lst xs) = some (.list ps) := by
    show (toPs 59 xs).map PyData.list = _
    rw [h]; rfl
  unfold dNe
  rw [e]
  show some (D.bl (!PyData.eqv (.list ps) (.list []))) = _
  cases xs with
  | nil => unfold toPs at h; cases h; simp [PyData.eqv, PyData.eqvAll]
  | cons x xs =>
    unfold toPs at h
    obtain ⟨p, h1, h2⟩ := Option.bind_eq_some_iff.mp h
    obtain ⟨qs, h3, rfl⟩ := Option.map_eq_some_iff.mp h2
    simp [PyData.eqv, PyData.eqvAll]
theorem dEq_nilL {xs : List D} {ps : List PyData} (h : toPs 59 xs = some ps) : dEq (.lst xs) (.lst []) = some (.bl xs.isEmpty) := by
  have e : toP 60 (.lst xs) = some (.list ps) := by
    show (toPs 59 xs).map PyData.list = _
    rw [h]; rfl
  unfold dEq
  rw [e]
  show some (D.bl (PyData.eqv (.list ps) (.list []))) = _
  cases xs with
  | nil => unfold toPs at h; cases h; simp [PyData.eqv, PyData.eqvAll]
  | cons x xs =>
    unfold toPs at h
    obtain ⟨p, h1, h2⟩ := Option.bind_eq_some_iff.mp h
    obtain ⟨qs, h3, rfl⟩ := Option.map_eq_some_iff.mp h2
    simp [PyData.eqv, PyData.eqvAll]
theorem toPs_rep {n : Nat} {d : D} {p : PyData} (h : toP n d = some p) : ∀ k, toPs n (List.replicate k d) = some (List.replicate k p)
  | 0 => by simp [toPs]
  | k + 1 => by
    rw [List.replicate_succ]
    unfold toPs
    rw [h, toPs_rep h k]; rfl
theorem toPs_strs {n : Nat} : ∀ xs : List Str, toPs n (xs.map D.str) = some (xs.map PyData.str)
  | [] => by simp [toPs]
  | x :: xs => by
    rw [List.map_cons]
    unfold toPs
    rw [toPs_strs xs]; simp [toP]
theorem toPs_ints {n : Nat} : ∀ xs : List Int, toPs n (xs.map D.int) = some (xs.map PyData.int)
  | [] => by simp [toPs]
  | x :: xs => by
    rw [List.map_cons]
    unfold toPs
    rw [toPs_ints xs]; simp [toP]
theorem intsL_map : ∀ xs : List Int, intsL (xs.map D.int) = some xs
  | [] => rfl
  | x :: xs => by
    show (intsL (xs.map D.int)).bind (fun bs => some (x :: bs)) = _
    rw [intsL_map]; rfl
end VL
end
section
set_option Elab.async false
set_option linter.all false
set_option maxRecDepth 100000
set_option maxHeartbeats 1000000
set_option autoImplicit false
namespace VL
open PySem PySem.Spec PyProof.Rows L2
theorem e_lc2 {η : Env} {mi : ME (List D)} {own vs1 : List Nat} {tm tm1 : D → Env → Option Env} {mt mt1 : ME Bool} {mi1 : ME (List D)} {me : ME D} : mLc2 mi own vs1 tm mt mi1 tm1 mt1 me η = bnd (mi η) fun p =>
  bif calmE p.2 own then bnd (lc2Loop own vs1 tm mt mi1 tm1 mt1 me p.1 (wipeE p.2 own)) fun q => bif small q.1.length then some (.s (.lst q.1), restE p.2 q.2 own) else none else none := by
  unfold mLc2
  refine congrArg _ (funext fun p => ?_)
  cases h : calmE p.2 own with
  | false => rw [if_neg (by simp)]; rfl
  | true =>
    rw [if_pos rfl, cond_true]
    refine congrArg _ (funext fun q => ?_)
    unfold small
    by_cases g : q.1.length ≤ 16777216
    · rw [if_pos g, decide_eq_true g]; rfl
    · rw [if_neg g, decide_eq_false g]; rfl
/-- a comprehension with two for, whose turns leave the rest of the frame as it is -/
theorem lc2_map {own vs1 : List Nat} {tm tm1 : D → Env → Option Env} {mt mt1 : ME Bool} {mi1 : ME (List D)} {me : ME D} {η : Env} (f : D → List D) : ∀ ds : List D, (∀ d ∈ ds, ∃ η1 η2 ds1 η3 η4, tm d η = some η1 ∧ mt η1 = some (true, η2) ∧ mi1 η2 = some (ds1, η3) ∧ lcLoop vs1 tm1 mt1 me ds1 (wipeE η3 vs1) = some (f d, η4) ∧ wipeE η4 own = η) →
    lc2Loop own vs1 tm mt mi1 tm1 mt1 me ds η = some (ds.flatMap f, η)
  | [], _ => rfl
  | d :: ds, h => by
    obtain ⟨η1, η2, ds1, η3, η4, e1, e2, e3, e4, e5⟩ := h d List.mem_cons_self
    have ih := lc2_map (own := own) (vs1 := vs1) (tm := tm) (mt := mt) (mi1 := mi1) (tm1 := tm1) (mt1 := mt1) (me := me) (η := η) f ds fun x hx => h x (List.mem_cons_of_mem _ hx)
    unfold lc2Loop
    rw [e1]
    simp only [Option.bind_some]
    rw [e2]
    simp only [Option.bind_some, if_true]
    rw [e3]
    simp only [Option.bind_some]
    rw [e4]
    simp only [Option.bind_some, e5, ih]
    rw [List.flatMap_cons]
/-! ### cuts -/
theorem cut_to {α : Type} {xs : List α} {n : Nat} (h : n ≤ xs.length) : cut xs none (some (n : Int)) = xs.take n := by
  unfold cut
  rw [HT.sIx_none, HT.sIx_nat, Nat.min_eq_left h, Nat.sub_zero, List.drop_zero]
theorem cut_from {α : Type} {xs : List α} {n : Nat} (h : n ≤ xs.length) : cut xs (some (n : Int)) none = xs.drop n := by
  unfold cut
  rw [HT.sIx_none, HT.sIx_nat, Nat.min_eq_left h, List.take_of_length_le (by rw [List.length_drop]; exact Nat.le_refl _)]
theorem dCut_l_to {xs : List D} {n : Nat} (h : n ≤ xs.length) : dCut (.lst xs) none (some (n : Int)) = some (.lst (xs.take n)) := by
  show some (D.lst (cut xs none (some (n : Int)))) = _
  rw [cut_to h]
theorem dCut_t_to {xs : List D} {n : Nat} (h : n ≤ xs.length) : dCut (.tup xs) none (some (n : Int)) = some (.tup (xs.take n)) := by
  show some (D.tup (cut xs none (some (n : Int)))) = _
  rw [cut_to h]
theorem dCut_k_to {xs : List D} {n : Nat} (h : n < xs.length) : dCut (.ktup xs) none (some (n : Int)) = some (.tup (xs.take n)) := by
  show (if HT.sIx xs.length 0 none = 0 ∧ HT.sIx xs.length xs.length (some (n : Int)) = xs.length then some (D.ktup xs) else some (.tup (cut xs none (some (n : Int))))) = _
  rw [HT.sIx_nat, Nat.min_eq_left (Nat.le_of_lt h), if_neg (fun g => absurd g.2 (by omega)), cut_to (Nat.le_of_lt h)]
theorem dCut_l_1 {xs : List D} : dCut (.lst xs) (some 1) none = some (.lst (xs.drop 1)) := by
  show some (D.lst (cut xs (some 1) none)) = _
  cases xs with
  | nil => rfl
  | cons x xs => rw [show (some (1 : Int)) = some ((1 : Nat) : Int) from rfl, cut_from (by simp)]
/-! ### tallies -/
structure Tly (T : List (Pt × Int)) (ps : List Pt) : Prop where
  nd : (T.map (·.1)).Nodup
  lk : ∀ p, look T p = if p ∈ ps then some ((ps.count p : Nat) : Int) else none
  ln : T.length ≤ ps.length
theorem tly_nil : Tly [] [] := ⟨List.nodup_nil, fun p => rfl, Nat.le_refl _⟩
theorem tly_get {T : List (Pt × Int)} {ps : List Pt} (t : Tly T ps) {p : Pt} : (look T p).getD 0 = ((ps.count p : Nat) : Int) := by
  rw [t.lk]
  by_cases h : p ∈ ps
  · rw [if_pos h]; rfl
  · rw [if_neg h, List.count_eq_zero_of_not_mem h]; rfl
theorem tly_add {T : List (Pt × Int)} {ps : List Pt} (t : Tly T ps) (p : Pt) : Tly (putT T p (((ps.count p : Nat) : Int) + 1)) (ps ++ [p]) := by
  refine ⟨nodup_put t.nd, fun q => ?_, Nat.le_trans len_put (by rw [List.length_append]; exact Nat.succ_le_succ t.ln)⟩
  rw [look_put, List.count_append]
  by_cases e : p = q
  · subst e
    rw [if_pos rfl, if_pos (by simp)]
    simp
  · rw [if_neg e, t.lk]
    have : ¬ q = p := fun z => e z.symm
    have c : List.count q [p] = 0 := List.count_eq_zero_of_not_mem (by simpa using this)
    rw [c, Nat.add_zero]
    by_cases h : q ∈ ps
    · rw [if_pos h, if_pos (List.mem_append_left _ h)]
    · rw [if_neg h, if_neg (by simp [h, this])]
theorem tly_keys {T : List (Pt × Int)} {ps : List Pt} (t : Tly T ps) {p : Pt} : p ∈ T.map (·.1) ↔ p ∈ ps := by
  rw [← look_some, t.lk]
  by_cases h : p ∈ ps
  · rw [if_pos h]; simp [h]
  · rw [if_neg h]; simp [h]
theorem tly_sort {T : List (Pt × Int)} {ps : List Pt} (t : Tly T ps) : setSort (T.map (·.1)) = setSort ps :=
  sorted_eq (setSort_sorted _) (setSort_sorted _) fun x => by rw [mem_setSort, mem_setSort, tly_keys t]
theorem tly_get2 {T : List (Pt × Int)} {ps : List Pt} (t : Tly T ps) {p : Pt} : (getT (gI .int T) (pk p)).getD (.int 0) = .int ((ps.count p : Nat) : Int) := by
  rw [getT_gI, ← tly_get t]
  cases look T p <;> rfl
theorem tly_ix {T : List (Pt × Int)} {ps : List Pt} (t : Tly T ps) {p : Pt} (h : p ∈ ps) : dIx (.dT (gI .int T)) (pairD p) = some (.int ((ps.count p : Nat) : Int)) := by
  show (some (getT (gI D.int T) (pk p))).bind id = _
  rw [getT_gI, t.lk, if_pos h]; rfl
theorem dLook_pair {α : Type} {f : α → D} {T : List (Pt × α)} {p : Pt} : dLook (.dT (gI f T)) (pairD p) = some (getT (gI f T) (pk p)) := rfl
theorem in_gI {α : Type} {f : α → D} {T : List (Pt × α)} {p : Pt} : dIn (pairD p) (.dT (gI f T)) = some (.bl (decide (p ∈ T.map (·.1)))) := by
  show (some (getT (gI f T) (pk p))).map (fun o => D.bl o.isSome) = _
  rw [getT_gI]
  have := look_some (p := p) (T := T)
  cases q : look T p with
  | none => rw [decide_eq_false fun h => by obtain ⟨a, e⟩ := this.mpr h; rw [q] at e; cases e]; rfl
  | some a => rw [decide_eq_true (this.mp ⟨a, q⟩)]; rfl
theorem notIn_gI {α : Type} {f : α → D} {T : List (Pt × α)} {p : Pt} : dNotIn (pairD p) (.dT (gI f T)) = some (.bl (!decide (p ∈ T.map (·.1)))) := by
  have := in_gI (f := f) (T := T) (p := p)
  have e1 : dIn (pairD p) (.dT (gI f T)) = (some (getT (gI f T) (pk p))).map (fun o => D.bl o.isSome) := rfl
  have e2 : dNotIn (pairD p) (.dT (gI f T)) = (some (getT (gI f T) (pk p))).map (fun o => D.bl (!o.isSome)) := rfl
  rw [e1] at this
  rw [e2]
  simp only [Option.map_some, Option.some.injEq, D.bl.injEq] at this ⊢
  rw [this]
theorem put_gI {T : List (Pt × Int)} {p : Pt} {v : Int} (h : T.length < 16777216) : dPut (.dT (gI .int T)) (pairD p) (.int v) = some (.dT (gI .int (putT T p v))) := by
  show (if (gI D.int T).length < 16777216 then some (O1.dT (putT (gI .int T) (pk p) (.int v))) else none) = _
  rw [len_gI, if_pos h, putT_gI (f := D.int)]
theorem take_next {α : Type} {xs : List α} {i : Nat} {x : α} (h : xs[i]? = some x) : xs.take (i + 1) = xs.take i ++ [x] := by
  obtain ⟨hi, rfl⟩ := List.getElem?_eq_some_iff.mp h
  exact List.take_succ_eq_append_getElem hi
/-- the counts of a list, summed -/
theorem sum_counts : ∀ (ks ps : List Pt), ks.Nodup → (∀ p ∈ ps, p ∈ ks) → (ks.map fun p => ps.count p).sum = ps.length
  | ks, [], _, _ => by
    have : ∀ ks : List Pt, (ks.map fun p => List.count p ([] : List Pt)).sum = 0 := fun ks => by induction ks with
      | nil => rfl
      | cons k ks ih => rw [List.map_cons, List.sum_cons, ih]; rfl
    exact this ks
  | ks, p :: ps, n, h => by
    have ih := sum_counts ks ps n fun q hq => h q (List.mem_cons_of_mem _ hq)
    have key : ∀ ks : List Pt, ks.Nodup → (ks.map fun q => List.count q (p :: ps)).sum = (ks.map fun q => List.count q ps).sum + if p ∈ ks then 1 else 0 := by
      intro ks
      induction ks with
      | nil => intro _; rfl
      | cons k ks ih2 =>
        intro n
        rw [List.nodup_cons] at n
        rw [List.map_cons, List.sum_cons, List.map_cons, List.sum_cons, ih2 n.2, List.count_cons]
        by_cases e : p = k
        · subst e
          rw [if_neg n.1, if_pos (by simp), if_pos List.mem_cons_self]; omega
        · rw [if_neg (by simpa using e)]
          by_cases m : p ∈ ks
          · rw [if_pos m, if_pos (List.mem_cons_of_mem _ m)]; omega
          · rw [if_neg m, if_neg (by simp [e, m])]; omega
    rw [key ks n, ih, if_pos (h p List.mem_cons_self), List.length_cons]
/-! ### rows of a grid -/
def rowP (i w : Nat) : List Pt := (List.range w).map fun (j : Nat) => (((i : Nat) : Int), ((j : Nat) : Int))
theorem cells_rows {h w : Nat} : cells h w = (List.range h).flatMap fun i => rowP i w := rfl
theorem cells_succ {h w : Nat} : cells (h + 1) w = cells h w ++ rowP h w := by
  rw [cells_rows, List.range_succ, List.flatMap_append, List.flatMap_cons, List.flatMap_nil, List.append_nil]; rfl
theorem ints_row {i w : Nat} (p : Pt → Bool) : ((intsD 0 w).filter fun d => match d with
    | .int j => p ((i : Int), j)
    | _ => false).map (fun d => .tup [.int i, d]) = ((rowP i w).filter p).map pairD := by
  unfold intsD rowP
  rw [List.filter_map, List.filter_map, List.map_map, List.map_map]
  have : ((fun d => match d with
    | D.int j => p ((i : Int), j)
    | _ => false) ∘ fun (k : Nat) => D.int (0 + (k : Nat))) = p ∘ fun (j : Nat) => ((i : Int), (j : Int)) := funext fun k => by
    show p ((i : Int), 0 + (k : Int)) = p ((i : Int), (k : Int))
    rw [Int.zero_add]
  rw [this]
  refine List.map_congr_left fun k _ => ?_
  show D.tup [.int i, .int (0 + (k : Nat))] = _
  rw [Int.zero_add]; rfl
theorem sum_ints {xs : List Int} : fSum [.lst (xs.map D.int)] = some (.int xs.sum) := by
  show (intsL (xs.map D.int)).bind (fun ns => some (D.int ns.sum)) = _
  rw [intsL_map]; rfl
end VL
end
section
set_option Elab.async false
set_option linter.all false
set_option maxRecDepth 100000
set_option maxHeartbeats 4000000
namespace K87
open PySem PySem.Spec PyProof.Rows L2 VL
def top (i : Nat) : Stmt := PySem.Challenge.pw_cellgrounds_k87_whole_trails_of_ants.main.body.getD i (.Pass ⟨0, 0, 0, 0⟩)
abbrev s_fits_whole : Stmt := top 6
abbrev s_is_tuple_of : Stmt := top 7
abbrev s_fits_rule : Stmt := top 13
abbrev s_fits_place : Stmt := top 14
abbrev s_fits_paint : Stmt := top 15
abbrev s_fits_ant : Stmt := top 16
abbrev s_need_ant : Stmt := top 17
abbrev s_need_many : Stmt := top 18
abbrev s_rest_of : Stmt := top 19
abbrev s_Box_init : Stmt := inClass (top 20) 0
abbrev s_Box_move : Stmt := inClass (top 20) 1
abbrev s_Box_put : Stmt := inClass (top 20) 2
abbrev s_Box_step : Stmt := inClass (top 20) 3
abbrev s_Box_back : Stmt := inClass (top 20) 4
abbrev s_Box_ant : Stmt := inClass (top 20) 5
abbrev s_moved_in : Stmt := top 21
abbrev s_ant_after : Stmt := top 22
abbrev s_trail : Stmt := top 23
abbrev s_visits : Stmt := top 24
abbrev s_turns_taken : Stmt := top 25
abbrev s_turned_round : Stmt := top 26
abbrev s_not_gone_from : Stmt := top 27
abbrev s__law_cup : Stmt := top 29
abbrev s__law_roll : Stmt := top 30
abbrev s__law_some : Stmt := top 31
abbrev s__law_same : Stmt := top 32
abbrev s__law_ant : Stmt := top 33
abbrev s__law_step : Stmt := top 34
abbrev s__law_rows_right : Stmt := top 35
abbrev s_law : Stmt := top 36
def d_AHEAD : D := .lst [.ktup [.int (-1), .int 0], .ktup [.int 0, .int 1], .ktup [.int 1, .int 0], .ktup [.int 0, .int (-1)]]
structure Txt (K : PySem.W.Frag) (mg : Str → Option Value) (C : Addr) : Prop where
  n_abs : mg "abs" = none
  n_all : mg "all" = none
  n_bool : mg "bool" = none
  n_dict : mg "dict" = none
  n_int : mg "int" = none
  n_isinstance : mg "isinstance" = none
  n_len : mg "len" = none
  n_list : mg "list" = none
  n_range : mg "range" = none
  n_sorted : mg "sorted" = none
  n_str : mg "str" = none
  n_sum : mg "sum" = none
  n_tuple : mg "tuple" = none
  n_zip : mg "zip" = none
  g_AHEAD : ∃ a, mg "AHEAD" = some (.ref a) ∧ ∀ G, Rep K G (.ref a) d_AHEAD
  g_RULES : ∃ t, mg "RULES" = some (.int 6 t)
  g_SIDE : ∃ t, mg "SIDE" = some (.int 20 t)
  g_STEPS : ∃ t, mg "STEPS" = some (.int 5000 t)
  cl_Box : Cls K C
  f_Box_cell : NoAttr K C "cell"
  f_Box_heading : NoAttr K C "heading"
  f_Box_high : NoAttr K C "high"
  f_Box_paint : NoAttr K C "paint"
  f_Box_rule : NoAttr K C "rule"
  f_Box_wide : NoAttr K C "wide"
  d_fits_whole : DefV K mg "fits_whole" s_fits_whole ["value", "low", "high"]
  d_is_tuple_of : DefV K mg "is_tuple_of" s_is_tuple_of ["value", "least", "most"]
  d_fits_rule : DefV K mg "fits_rule" s_fits_rule ["value"]
  d_fits_place : DefV K mg "fits_place" s_fits_place ["value", "high", "wide"]
  d_fits_paint : DefV K mg "fits_paint" s_fits_paint ["value", "high", "wide", "many"]
  d_fits_ant : DefV K mg "fits_ant" s_fits_ant ["value"]
  d_need_ant : DefV K mg "need_ant" s_need_ant ["ant"]
  d_need_many : DefV K mg "need_many" s_need_many ["many", "least", "most"]
  d_rest_of : DefV K mg "rest_of" s_rest_of ["number", "whole"]
  d_Box_init : IniV K mg C "Box" "Box.__init__" s_Box_init ["self", "ant"]
  d_Box_move : MetV K C "move" "Box.move" s_Box_move ["self", "many"]
  d_Box_put : MetV K C "put" "Box.put" s_Box_put ["self", "colour"]
  d_Box_step : MetV K C "step" "Box.step" s_Box_step ["self"]
  d_Box_back : MetV K C "back" "Box.back" s_Box_back ["self"]
  d_Box_ant : MetV K C "ant" "Box.ant" s_Box_ant ["self"]
  d_moved_in : DefV K mg "moved_in" s_moved_in ["ant", "many"]
  d_ant_after : DefV K mg "ant_after" s_ant_after ["ant", "many"]
  d_trail : DefV K mg "trail" s_trail ["ant", "many"]
  d_visits : DefV K mg "visits" s_visits ["ant", "many"]
  d_turns_taken : DefV K mg "turns_taken" s_turns_taken ["ant", "many"]
  d_turned_round : DefV K mg "turned_round" s_turned_round ["ant"]
  d_not_gone_from : DefV K mg "not_gone_from" s_not_gone_from ["ant", "many"]
  d__law_cup : DefV K mg "_law_cup" s__law_cup ["script"]
  d__law_roll : DefV K mg "_law_roll" s__law_roll ["cup", "many"]
  d__law_some : DefV K mg "_law_some" s__law_some ["cup", "things"]
  d__law_same : DefV K mg "_law_same" s__law_same ["told", "due"]
  d__law_ant : DefV K mg "_law_ant" s__law_ant ["cup", "most"]
  d__law_step : DefV K mg "_law_step" s__law_step ["ant"]
  d__law_rows_right : DefV K mg "_law_rows_right" s__law_rows_right []
  d_law : DefV K mg "law" s_law ["script"]
section
variable {P : Program} {w : World} {K : PySem.W.Frag} {mg : Str → Option Value} {base : Heap} {C : Addr}
def m_fits_whole : MS :=
  mSeq (mRet (mN (mAndV (mCall fIsi (mCons (mLoc 0) (mCons (mD (mC (.ty "int"))) (mNil)))) (mAndV (mNotV (mCall fIsi (mCons (mLoc 0) (mCons (mD (mC (.ty "bool"))) (mNil))))) (mChain dLe dLe (mLoc 1) (mLoc 0) (mLoc 2)))))) (mSkip)
def run_fits_whole : Fn := fnRun 3 3 [] (m_fits_whole)
theorem sc_fits_whole : FnScope ["value", "low", "high"] ["value", "low", "high"] (defScope s_fits_whole) := ⟨rfl, rfl, rfl, by decide +kernel, rfl, by decide +kernel, by decide +kernel⟩
theorem ok_fits_whole (T : Txt K mg C) : FnV P w K mg base "fits_whole" 1 ["value", "low", "high"] run_fits_whole := by
  refine T.d_fits_whole.ok sc_fits_whole rfl (by decide) fun f cdv A outer s H E hr => ?_
  have hu := hr.units
  have hN := sc_fits_whole.nd
  exact (vss_cons (vs_ret (vn_of (ve_and (callB call_isiZ cs_isi T.n_isinstance boot_isinstance (va_cons (oN 0) (va_cons (vo_d (ve_tyN T.n_int boot_int)) va_nil))) (ve_and (ve_not (callB call_isiZ cs_isi T.n_isinstance boot_isinstance (va_cons (oN 0) (va_cons (vo_d (ve_tyN T.n_bool boot_bool)) va_nil)))) (ve_one (ve_chain (op_leAll hu) (op_leAll hu) os_ord os_ord (oN 1) (oN 0) (oN 2))))))) vss_nil)
def m_is_tuple_of : MS :=
  mSeq (mRet (mN (mAndV (mCall fIsi (mCons (mLoc 0) (mCons (mD (mC (.ty "tuple"))) (mNil)))) (mChain dLe dLe (mLoc 1) (mD (mCall fLen (mCons (mLoc 0) (mNil)))) (mLoc 2))))) (mSkip)
def run_is_tuple_of : Fn := fnRun 3 3 [] (m_is_tuple_of)
theorem sc_is_tuple_of : FnScope ["value", "least", "most"] ["value", "least", "most"] (defScope s_is_tuple_of) := ⟨rfl, rfl, rfl, by decide +kernel, rfl, by decide +kernel, by decide +kernel⟩
theorem ok_is_tuple_of (T : Txt K mg C) : FnV P w K mg base "is_tuple_of" 1 ["value", "least", "most"] run_is_tuple_of := by
  refine T.d_is_tuple_of.ok sc_is_tuple_of rfl (by decide) fun f cdv A outer s H E hr => ?_
  have hu := hr.units
  have hN := sc_is_tuple_of.nd
  exact (vss_cons (vs_ret (vn_of (ve_and (callB call_isiZ cs_isi T.n_isinstance boot_isinstance (va_cons (oN 0) (va_cons (vo_d (ve_tyN T.n_tuple boot_tuple)) va_nil))) (ve_one (ve_chain (op_leAll hu) (op_leAll hu) os_ord os_ord (oN 1) (vo_d (callB call_lenAll cs_len T.n_len boot_len (va_cons (oN 0) va_nil))) (oN 2)))))) vss_nil)
def m_fits_rule : MS :=
  mSeq (mRet (mN (mAndV (mCall fIsi (mCons (mLoc 0) (mCons (mD (mC (.ty "str"))) (mNil)))) (mAndV (mChain dLe dLe (mD (mC (.int 2))) (mD (mCall fLen (mCons (mLoc 0) (mNil)))) (mD (mC (.int 6)))) (mCall fAll (mCons (mD (mFz (mLc (mIter (mName 0)) [1] (gmName 1) (mYes) (mOp2 dIn (mLoc 1) (mD (mC (.str "lr"))))))) (mNil))))))) (mSkip)
def run_fits_rule : Fn := fnRun 1 2 [] (m_fits_rule)
theorem sc_fits_rule : FnScope ["value", "sign"] ["value"] (defScope s_fits_rule) := ⟨rfl, rfl, rfl, by decide +kernel, rfl, by decide +kernel, by decide +kernel⟩
theorem ok_fits_rule (T : Txt K mg C) : FnV P w K mg base "fits_rule" 1 ["value"] run_fits_rule := by
  refine T.d_fits_rule.ok sc_fits_rule rfl (by decide) fun f cdv A outer s H E hr => ?_
  have hu := hr.units
  have hN := sc_fits_rule.nd
  exact (vss_cons (vs_ret (vn_of (ve_and (callB call_isiZ cs_isi T.n_isinstance boot_isinstance (va_cons (oN 0) (va_cons (vo_d (ve_tyN T.n_str boot_str)) va_nil))) (ve_and (ve_chain (op_leAll hu) (op_leAll hu) os_ord os_ord (vo_d ve_int) (vo_d (callB call_lenAll cs_len T.n_len boot_len (va_cons (oN 0) va_nil))) (vo_d (ve_glI T.g_RULES))) (ve_one (callB (cr_all rfl) cs_all T.n_all boot_all (va_cons (vo_d (ve_fz (lcV [("sign", 1)] (vi_seq (vN 0)) (fun _ _ _ _ _ => (gL 1)) (fun _ _ _ _ _ => vts_nil) (fun _ _ _ _ _ => (ve_cmp (op_inAll hu) os_in (oN 1) (vo_d ve_str)))))) va_nil))))))) vss_nil)
def m_fits_place : MS :=
  mSeq (mRet (mN (mAndV (mFz (mCallF run_is_tuple_of (mCons (mD (mName 0)) (mCons (mD (mC (.int 2))) (mCons (mD (mC (.int 2))) (mNil)))))) (mAndV (mFz (mCallF run_fits_whole (mCons (mD (mOp2 dIx (mLoc 0) (mD (mC (.int 0))))) (mCons (mD (mC (.int 0))) (mCons (mD (mOp2 dSub (mLoc 1) (mD (mC (.int 1))))) (mNil)))))) (mFz (mCallF run_fits_whole (mCons (mD (mOp2 dIx (mLoc 0) (mD (mC (.int 1))))) (mCons (mD (mC (.int 0))) (mCons (mD (mOp2 dSub (mLoc 2) (mD (mC (.int 1))))) (mNil)))))))))) (mSkip)
def run_fits_place : Fn := fnRun 3 3 [] (m_fits_place)
theorem sc_fits_place : FnScope ["value", "high", "wide"] ["value", "high", "wide"] (defScope s_fits_place) := ⟨rfl, rfl, rfl, by decide +kernel, rfl, by decide +kernel, by decide +kernel⟩
theorem ok_fits_place (T : Txt K mg C) : FnV P w K mg base "fits_place" 2 ["value", "high", "wide"] run_fits_place := by
  refine T.d_fits_place.ok sc_fits_place rfl (by decide) fun f cdv A outer s H E hr => ?_
  have hu := hr.units
  have hN := sc_fits_place.nd
  exact (vss_cons (vs_ret (vn_of (ve_and (ve_fz (callU (ok_is_tuple_of T) (hr.mono (by decide)) (va_cons (vo_d (vN 0)) (va_cons (vo_d ve_int) (va_cons (vo_d ve_int) va_nil))))) (ve_and (ve_fz (callU (ok_fits_whole T) (hr.mono (by decide)) (va_cons (vo_d (ve_at hu (oN 0) (vo_d ve_int))) (va_cons (vo_d ve_int) (va_cons (vo_d (ve_bin op_sub os_sub (oN 1) (vo_d ve_int))) va_nil))))) (ve_one (ve_fz (callU (ok_fits_whole T) (hr.mono (by decide)) (va_cons (vo_d (ve_at hu (oN 0) (vo_d ve_int))) (va_cons (vo_d ve_int) (va_cons (vo_d (ve_bin op_sub os_sub (oN 2) (vo_d ve_int))) va_nil)))))))))) vss_nil)
def m_fits_paint : MS :=
  mSeq (mIfS (mOr (mNot (mB (mFz (mCallF run_is_tuple_of (mCons (mD (mName 0)) (mCons (mD (mC (.int 0))) (mCons (mD (mOp2 dMul (mLoc 1) (mLoc 2))) (mNil)))))))) (mNot (mB (mCall fAll (mCons (mD (mFz (mLc (mIter (mName 0)) [4] (gmName 4) (mYes) (mFz (mCallF run_is_tuple_of (mCons (mD (mName 4)) (mCons (mD (mC (.int 2))) (mCons (mD (mC (.int 2))) (mNil))))))))) (mNil)))))) (mSeq (mRet (mN (mC (.bl false)))) (mSkip)) (mSkip)) (mSeq (mIfS (mNot (mB (mCall fAll (mCons (mD (mFz (mLc (mIter (mName 0)) [4] (gmName 4) (mYes) (mAndV (mFz (mCallF run_fits_place (mCons (mD (mOp2 dIx (mLoc 4) (mD (mC (.int 0))))) (mCons (mD (mName 1)) (mCons (mD (mName 2)) (mNil)))))) (mFz (mCallF run_fits_whole (mCons (mD (mOp2 dIx (mLoc 4) (mD (mC (.int 1))))) (mCons (mD (mC (.int 1))) (mCons (mD (mOp2 dSub (mLoc 3) (mD (mC (.int 1))))) (mNil)))))))))) (mNil))))) (mSeq (mRet (mN (mC (.bl false)))) (mSkip)) (mSkip)) (mSeq (mRet (mN (mCall fAll (mCons (mD (mFz (mLc (mOver zipI (mCons (mName 0) (mCons (mCut (mLoc 0) (mPo (mC (.int 1))) (mPno)) (mNil)))) [5, 6] (gmTup 2 (gmCons (gmName 5) (gmCons (gmName 6) (gmNil)))) (mYes) (mOp2 dLt (mD (mOp2 dIx (mLoc 5) (mD (mC (.int 0))))) (mD (mOp2 dIx (mLoc 6) (mD (mC (.int 0))))))))) (mNil))))) (mSkip)))
def run_fits_paint : Fn := fnRun 4 7 [] (m_fits_paint)
theorem sc_fits_paint : FnScope ["value", "high", "wide", "many", "pair", "one", "other"] ["value", "high", "wide", "many"] (defScope s_fits_paint) := ⟨rfl, rfl, rfl, by decide +kernel, rfl, by decide +kernel, by decide +kernel⟩
theorem ok_fits_paint (T : Txt K mg C) : FnV P w K mg base "fits_paint" 3 ["value", "high", "wide", "many"] run_fits_paint := by
  refine T.d_fits_paint.ok sc_fits_paint rfl (by decide) fun f cdv A outer s H E hr => ?_
  have hu := hr.units
  have hN := sc_fits_paint.nd
  exact (vss_cons (vs_if (vt_w (vw_or (vt_not (vt_val (ve_fz (callU (ok_is_tuple_of T) (hr.mono (by decide)) (va_cons (vo_d (vN 0)) (va_cons (vo_d ve_int) (va_cons (vo_d (ve_bin op_mulAll os_mul (oN 1) (oN 2))) va_nil))))))) (vw_or1 (vt_not (vt_val (callB (cr_all rfl) cs_all T.n_all boot_all (va_cons (vo_d (ve_fz (lcV [("pair", 4)] (vi_seq (vN 0)) (fun _ _ _ _ _ => (gL 4)) (fun _ _ _ _ _ => vts_nil) (fun _ _ _ _ _ => (ve_fz (callU (ok_is_tuple_of T) (hr.mono (by decide)) (va_cons (vo_d (vN 4)) (va_cons (vo_d ve_int) (va_cons (vo_d ve_int) va_nil))))))))) va_nil))))))) (vss_cons (vs_ret (vn_of ve_bl)) vss_nil) vss_nil) (vss_cons (vs_if (vt_not (vt_val (callB (cr_all rfl) cs_all T.n_all boot_all (va_cons (vo_d (ve_fz (lcV [("pair", 4)] (vi_seq (vN 0)) (fun _ _ _ _ _ => (gL 4)) (fun _ _ _ _ _ => vts_nil) (fun _ _ _ _ _ => (ve_and (ve_fz (callU (ok_fits_place T) (hr.mono (by decide)) (va_cons (vo_d (ve_at hu (oN 4) (vo_d ve_int))) (va_cons (vo_d (vN 1)) (va_cons (vo_d (vN 2)) va_nil))))) (ve_one (ve_fz (callU (ok_fits_whole T) (hr.mono (by decide)) (va_cons (vo_d (ve_at hu (oN 4) (vo_d ve_int))) (va_cons (vo_d ve_int) (va_cons (vo_d (ve_bin op_sub os_sub (oN 3) (vo_d ve_int))) va_nil))))))))))) va_nil)))) (vss_cons (vs_ret (vn_of ve_bl)) vss_nil) vss_nil) (vss_cons (vs_ret (vn_of (callB (cr_all rfl) cs_all T.n_all boot_all (va_cons (vo_d (ve_fz (lcV [("one", 5), ("other", 6)] (zipV T.n_zip (ves_cons (vN 0) (ves_cons (ve_cut (oN 0) (vp_of ve_int) vp_no) ves_nil))) (fun _ _ _ _ _ => (vg_tup rfl (vgs_cons (gL 5) (vgs_cons (gL 6) vgs_nil)))) (fun _ _ _ _ _ => vts_nil) (fun _ _ _ _ _ => (ve_cmp (op_ltAll hu) os_ord (vo_d (ve_at hu (oN 5) (vo_d ve_int))) (vo_d (ve_at hu (oN 6) (vo_d ve_int)))))))) va_nil)))) vss_nil)))
def m_fits_ant : MS :=
  mSeq (mIfS (mOr (mNot (mB (mFz (mCallF run_is_tuple_of (mCons (mD (mName 0)) (mCons (mD (mC (.int 6))) (mCons (mD (mC (.int 6))) (mNil)))))))) (mNot (mB (mFz (mCallF run_fits_rule (mCons (mD (mOp2 dIx (mLoc 0) (mD (mC (.int 0))))) (mNil))))))) (mSeq (mRet (mN (mC (.bl false)))) (mSkip)) (mSkip)) (mSeq (mIfS (mOr (mNot (mB (mFz (mCallF run_fits_whole (mCons (mD (mOp2 dIx (mLoc 0) (mD (mC (.int 1))))) (mCons (mD (mC (.int 1))) (mCons (mD (mC (.int 20))) (mNil)))))))) (mNot (mB (mFz (mCallF run_fits_whole (mCons (mD (mOp2 dIx (mLoc 0) (mD (mC (.int 2))))) (mCons (mD (mC (.int 1))) (mCons (mD (mC (.int 20))) (mNil))))))))) (mSeq (mRet (mN (mC (.bl false)))) (mSkip)) (mSkip)) (mSeq (mIfS (mOr (mNot (mB (mFz (mCallF run_fits_place (mCons (mD (mOp2 dIx (mLoc 0) (mD (mC (.int 3))))) (mCons (mD (mOp2 dIx (mLoc 0) (mD (mC (.int 1))))) (mCons (mD (mOp2 dIx (mLoc 0) (mD (mC (.int 2))))) (mNil)))))))) (mNot (mB (mFz (mCallF run_fits_whole (mCons (mD (mOp2 dIx (mLoc 0) (mD (mC (.int 4))))) (mCons (mD (mC (.int 0))) (mCons (mD (mC (.int 3))) (mNil))))))))) (mSeq (mRet (mN (mC (.bl false)))) (mSkip)) (mSkip)) (mSeq (mRet (mCallF run_fits_paint (mCons (mD (mOp2 dIx (mLoc 0) (mD (mC (.int 5))))) (mCons (mD (mOp2 dIx (mLoc 0) (mD (mC (.int 1))))) (mCons (mD (mOp2 dIx (mLoc 0) (mD (mC (.int 2))))) (mCons (mD (mCall fLen (mCons (mD (mOp2 dIx (mLoc 0) (mD (mC (.int 0))))) (mNil)))) (mNil))))))) (mSkip))))
def run_fits_ant : Fn := fnRun 1 1 [] (m_fits_ant)
theorem sc_fits_ant : FnScope ["value"] ["value"] (defScope s_fits_ant) := ⟨rfl, rfl, rfl, by decide +kernel, rfl, by decide +kernel, by decide +kernel⟩
theorem ok_fits_ant (T : Txt K mg C) : FnV P w K mg base "fits_ant" 4 ["value"] run_fits_ant := by
  refine T.d_fits_ant.ok sc_fits_ant rfl (by decide) fun f cdv A outer s H E hr => ?_
  have hu := hr.units
  have hN := sc_fits_ant.nd
  exact (vss_cons (vs_if (vt_w (vw_or (vt_not (vt_val (ve_fz (callU (ok_is_tuple_of T) (hr.mono (by decide)) (va_cons (vo_d (vN 0)) (va_cons (vo_d ve_int) (va_cons (vo_d ve_int) va_nil))))))) (vw_or1 (vt_not (vt_val (ve_fz (callU (ok_fits_rule T) (hr.mono (by decide)) (va_cons (vo_d (ve_at hu (oN 0) (vo_d ve_int))) va_nil)))))))) (vss_cons (vs_ret (vn_of ve_bl)) vss_nil) vss_nil) (vss_cons (vs_if (vt_w (vw_or (vt_not (vt_val (ve_fz (callU (ok_fits_whole T) (hr.mono (by decide)) (va_cons (vo_d (ve_at hu (oN 0) (vo_d ve_int))) (va_cons (vo_d ve_int) (va_cons (vo_d (ve_glI T.g_SIDE)) va_nil))))))) (vw_or1 (vt_not (vt_val (ve_fz (callU (ok_fits_whole T) (hr.mono (by decide)) (va_cons (vo_d (ve_at hu (oN 0) (vo_d ve_int))) (va_cons (vo_d ve_int) (va_cons (vo_d (ve_glI T.g_SIDE)) va_nil)))))))))) (vss_cons (vs_ret (vn_of ve_bl)) vss_nil) vss_nil) (vss_cons (vs_if (vt_w (vw_or (vt_not (vt_val (ve_fz (callU (ok_fits_place T) (hr.mono (by decide)) (va_cons (vo_d (ve_at hu (oN 0) (vo_d ve_int))) (va_cons (vo_d (ve_at hu (oN 0) (vo_d ve_int))) (va_cons (vo_d (ve_at hu (oN 0) (vo_d ve_int))) va_nil))))))) (vw_or1 (vt_not (vt_val (ve_fz (callU (ok_fits_whole T) (hr.mono (by decide)) (va_cons (vo_d (ve_at hu (oN 0) (vo_d ve_int))) (va_cons (vo_d ve_int) (va_cons (vo_d ve_int) va_nil)))))))))) (vss_cons (vs_ret (vn_of ve_bl)) vss_nil) vss_nil) (vss_cons (vs_ret (callU (ok_fits_paint T) (hr.mono (by decide)) (va_cons (vo_d (ve_at hu (oN 0) (vo_d ve_int))) (va_cons (vo_d (ve_at hu (oN 0) (vo_d ve_int))) (va_cons (vo_d (ve_at hu (oN 0) (vo_d ve_int))) (va_cons (vo_d (callB call_lenAll cs_len T.n_len boot_len (va_cons (vo_d (ve_at hu (oN 0) (vo_d ve_int))) va_nil))) va_nil)))))) vss_nil))))
def m_need_ant : MS :=
  mSeq (mIfS (mNot (mB (mFz (mCallF run_fits_ant (mCons (mD (mName 0)) (mNil)))))) (mSeq (mNever) (mSkip)) (mSkip)) (mSkip)
def run_need_ant : Fn := fnRun 1 1 [] (m_need_ant)
theorem sc_need_ant : FnScope ["ant"] ["ant"] (defScope s_need_ant) := ⟨rfl, rfl, rfl, by decide +kernel, rfl, by decide +kernel, by decide +kernel⟩
theorem ok_need_ant (T : Txt K mg C) : FnV P w K mg base "need_ant" 5 ["ant"] run_need_ant := by
  refine T.d_need_ant.ok sc_need_ant rfl (by decide) fun f cdv A outer s H E hr => ?_
  have hu := hr.units
  have hN := sc_need_ant.nd
  exact (vss_cons (vs_if (vt_not (vt_val (ve_fz (callU (ok_fits_ant T) (hr.mono (by decide)) (va_cons (vo_d (vN 0)) va_nil))))) (vss_cons vs_never vss_nil) vss_nil) vss_nil)
def m_need_many : MS :=
  mSeq (mIfS (mNot (mB (mFz (mCallF run_fits_whole (mCons (mD (mName 0)) (mCons (mD (mName 1)) (mCons (mD (mName 2)) (mNil)))))))) (mSeq (mNever) (mSkip)) (mSkip)) (mSkip)
def run_need_many : Fn := fnRun 3 3 [] (m_need_many)
theorem sc_need_many : FnScope ["many", "least", "most"] ["many", "least", "most"] (defScope s_need_many) := ⟨rfl, rfl, rfl, by decide +kernel, rfl, by decide +kernel, by decide +kernel⟩
theorem ok_need_many (T : Txt K mg C) : FnV P w K mg base "need_many" 2 ["many", "least", "most"] run_need_many := by
  refine T.d_need_many.ok sc_need_many rfl (by decide) fun f cdv A outer s H E hr => ?_
  have hu := hr.units
  have hN := sc_need_many.nd
  exact (vss_cons (vs_if (vt_not (vt_val (ve_fz (callU (ok_fits_whole T) (hr.mono (by decide)) (va_cons (vo_d (vN 0)) (va_cons (vo_d (vN 1)) (va_cons (vo_d (vN 2)) va_nil))))))) (vss_cons vs_never vss_nil) vss_nil) vss_nil)
def m_rest_of : MS :=
  mSeq (mRet (mN (mOp2 dSub (mLoc 0) (mD (mOp2 dMul (mD (mOp2 dFdiv (mLoc 0) (mLoc 1))) (mLoc 1)))))) (mSkip)
def run_rest_of : Fn := fnRun 2 2 [] (m_rest_of)
theorem sc_rest_of : FnScope ["number", "whole"] ["number", "whole"] (defScope s_rest_of) := ⟨rfl, rfl, rfl, by decide +kernel, rfl, by decide +kernel, by decide +kernel⟩
theorem ok_rest_of (T : Txt K mg C) : FnV P w K mg base "rest_of" 1 ["number", "whole"] run_rest_of := by
  refine T.d_rest_of.ok sc_rest_of rfl (by decide) fun f cdv A outer s H E hr => ?_
  have hu := hr.units
  have hN := sc_rest_of.nd
  exact (vss_cons (vs_ret (vn_of (ve_bin op_sub os_sub (oN 0) (vo_d (ve_bin op_mulAll os_mul (vo_d (ve_bin op_fdivAll os_fdiv (oN 0) (oN 1))) (oN 1)))))) vss_nil)
def m_Box_init (C : Addr) : MS :=
  mSeq (mAsg (mCut (mLoc 1) (mPno) (mPo (mC (.int 5)))) (gmTup 5 (gmCons (gmFld C 0 "rule") (gmCons (gmFld C 0 "high") (gmCons (gmFld C 0 "wide") (gmCons (gmFld C 0 "cell") (gmCons (gmFld C 0 "heading") (gmNil)))))))) (mSeq (mFldSet C 0 "paint" (mCallN fDictT (mCons (mD (mOp2 dIx (mLoc 1) (mD (mC (.int 5))))) (mNil)))) (mSkip))
def run_Box_init (C : Addr) : Fn := fnRun 2 2 [0] (m_Box_init C)
theorem sc_Box_init : FnScope ["self", "ant"] ["self", "ant"] (defScope s_Box_init) := ⟨rfl, rfl, rfl, by decide +kernel, rfl, by decide +kernel, by decide +kernel⟩
theorem ok_Box_init (T : Txt K mg C) : CoV P w K mg base C "Box" 1 ["self", "ant"] (run_Box_init C) := by
  refine T.d_Box_init.ok sc_Box_init rfl (by decide) fun f cdv A outer s H E hr => ?_
  have hu := hr.units
  have hN := sc_Box_init.nd
  exact (vss_cons (vs_asg (ve_cut (oN 1) vp_no (vp_of ve_int)) (vg_tup rfl (vgs_cons (vg_fld (pn 0) T.cl_Box T.f_Box_rule) (vgs_cons (vg_fld (pn 0) T.cl_Box T.f_Box_high) (vgs_cons (vg_fld (pn 0) T.cl_Box T.f_Box_wide) (vgs_cons (vg_fld (pn 0) T.cl_Box T.f_Box_cell) (vgs_cons (vg_fld (pn 0) T.cl_Box T.f_Box_heading) vgs_nil))))))) (vss_cons (vs_fld (pn 0) T.cl_Box T.f_Box_paint (callTG (call_dictT rfl hu) cg_dictT T.n_dict boot_dict (va_cons (vo_d (ve_at hu (oN 1) (vo_d ve_int))) va_nil))) vss_nil))
def m_Box_move (C : Addr) : MS :=
  mSeq (mAsg (mOp2 dIx (mD (mC d_AHEAD)) (mD (mFld C 0 "heading"))) (gmTup 2 (gmCons (gmName 2) (gmCons (gmName 3) (gmNil))))) (mSeq (mPar2 4 5 (mCons (mN (mOp2 dAdd (mD (mOp2 dIx (mD (mFld C 0 "cell")) (mD (mC (.int 0))))) (mD (mOp2 dMul (mLoc 1) (mLoc 2))))) (mCons (mN (mOp2 dAdd (mD (mOp2 dIx (mD (mFld C 0 "cell")) (mD (mC (.int 1))))) (mD (mOp2 dMul (mLoc 1) (mLoc 3))))) (mNil)))) (mSeq (mFldSet C 0 "cell" (mN (mTup (mCons (mFz (mCallF run_rest_of (mCons (mD (mName 4)) (mCons (mD (mFld C 0 "high")) (mNil))))) (mCons (mFz (mCallF run_rest_of (mCons (mD (mName 5)) (mCons (mD (mFld C 0 "wide")) (mNil))))) (mNil)))))) (mSkip)))
def run_Box_move (C : Addr) : Fn := fnRun 2 6 [0] (m_Box_move C)
theorem sc_Box_move : FnScope ["self", "many", "down", "right", "row", "column"] ["self", "many"] (defScope s_Box_move) := ⟨rfl, rfl, rfl, by decide +kernel, rfl, by decide +kernel, by decide +kernel⟩
theorem ok_Box_move (T : Txt K mg C) : MeV P w K mg base C "move" 2 ["self", "many"] (run_Box_move C) := by
  refine T.d_Box_move.ok sc_Box_move rfl (by decide) fun f cdv A outer s H E hr => ?_
  have hu := hr.units
  have hN := sc_Box_move.nd
  exact (vss_cons (vs_asg (ve_at hu (vo_d (ve_glR T.g_AHEAD)) (vo_d (ve_fld (pn 0) T.cl_Box T.f_Box_heading))) (vg_tup rfl (vgs_cons (gN 2) (vgs_cons (gN 3) vgs_nil)))) (vss_cons (sPar 4 5 (vns_cons (vn_of (ve_bin op_addAll os_add (vo_d (ve_at hu (vo_d (ve_fld (pn 0) T.cl_Box T.f_Box_cell)) (vo_d ve_int))) (vo_d (ve_bin op_mulAll os_mul (oN 1) (oN 2))))) (vns_cons (vn_of (ve_bin op_addAll os_add (vo_d (ve_at hu (vo_d (ve_fld (pn 0) T.cl_Box T.f_Box_cell)) (vo_d ve_int))) (vo_d (ve_bin op_mulAll os_mul (oN 1) (oN 3))))) vns_nil))) (vss_cons (vs_fld (pn 0) T.cl_Box T.f_Box_cell (vn_of (ve_tup (ves_cons (ve_fz (callU (ok_rest_of T) (hr.mono (by decide)) (va_cons (vo_d (vN 4)) (va_cons (vo_d (ve_fld (pn 0) T.cl_Box T.f_Box_high)) va_nil)))) (ves_cons (ve_fz (callU (ok_rest_of T) (hr.mono (by decide)) (va_cons (vo_d (vN 5)) (va_cons (vo_d (ve_fld (pn 0) T.cl_Box T.f_Box_wide)) va_nil)))) ves_nil))))) vss_nil)))
def m_Box_put (C : Addr) : MS :=
  mSeq (mSet 1 (mN (mFz (mCallF run_rest_of (mCons (mD (mName 1)) (mCons (mD (mCall fLen (mCons (mD (mFld C 0 "rule")) (mNil)))) (mNil))))))) (mSeq (mDo (mMut "dict" dPopT (mFldO C 0 "paint") (mCons (mFld C 0 "cell") (mCons (mC .non) (mNil))))) (mSeq (mIfS (mB (mOp2 dGt (mLoc 1) (mD (mC (.int 0))))) (mSeq (mPut (mName 1) (mFldO C 0 "paint") (mFld C 0 "cell")) (mSkip)) (mSkip)) (mSkip)))
def run_Box_put (C : Addr) : Fn := fnRun 2 2 [0] (m_Box_put C)
theorem sc_Box_put : FnScope ["self", "colour"] ["self", "colour"] (defScope s_Box_put) := ⟨rfl, rfl, rfl, by decide +kernel, rfl, by decide +kernel, by decide +kernel⟩
theorem ok_Box_put (T : Txt K mg C) : MeV P w K mg base C "put" 2 ["self", "colour"] (run_Box_put C) := by
  refine T.d_Box_put.ok sc_Box_put rfl (by decide) fun f cdv A outer s H E hr => ?_
  have hu := hr.units
  have hN := sc_Box_put.nd
  exact (vss_cons (sSet 1 (vn_of (ve_fz (callU (ok_rest_of T) (hr.mono (by decide)) (va_cons (vo_d (vN 1)) (va_cons (vo_d (callB call_lenAll cs_len T.n_len boot_len (va_cons (vo_d (ve_fld (pn 0) T.cl_Box T.f_Box_rule)) va_nil))) va_nil)))))) (vss_cons (vs_expr (ve_mut PySem.F.plainAttrs_dict PySem.F.slot_dict_pop PySem.F.type_dict_pop (DX.mt_popT (hu1 hu)) ms_popT (vo_fld (pn 0) T.cl_Box T.f_Box_paint) (ves_cons (ve_fld (pn 0) T.cl_Box T.f_Box_cell) (ves_cons ve_non ves_nil)))) (vss_cons (vs_if (vt_cmp (op_gtAll hu) os_ord (oN 1) (vo_d ve_int)) (vss_cons (vs_put hu (vN 1) (vo_fld (pn 0) T.cl_Box T.f_Box_paint) (ve_fld (pn 0) T.cl_Box T.f_Box_cell)) vss_nil) vss_nil) vss_nil)))
def m_Box_step (C : Addr) : MS :=
  mSeq (mSet 1 (mN (mGet2 (mFldO C 0 "paint") (mFld C 0 "cell") (mC (.int 0))))) (mSeq (mFldSet C 0 "heading" (mCallF run_rest_of (mCons (mD (mOp2 dAdd (mD (mFld C 0 "heading")) (mD (mIf (mB (mOp2 dEq (mD (mOp2 dIx (mD (mFld C 0 "rule")) (mLoc 1))) (mD (mC (.str "r"))))) (mC (.int 1)) (mUn dNeg (mD (mC (.int 1)))))))) (mCons (mD (mC (.int 4))) (mNil))))) (mSeq (mDo (mFz (mMeth C "put" 0 (run_Box_put C) (mCons (mD (mOp2 dAdd (mLoc 1) (mD (mC (.int 1))))) (mNil))))) (mSeq (mDo (mFz (mMeth C "move" 0 (run_Box_move C) (mCons (mD (mC (.int 1))) (mNil))))) (mSkip))))
def run_Box_step (C : Addr) : Fn := fnRun 1 2 [0] (m_Box_step C)
theorem sc_Box_step : FnScope ["self", "colour"] ["self"] (defScope s_Box_step) := ⟨rfl, rfl, rfl, by decide +kernel, rfl, by decide +kernel, by decide +kernel⟩
theorem ok_Box_step (T : Txt K mg C) : MeV P w K mg base C "step" 3 ["self"] (run_Box_step C) := by
  refine T.d_Box_step.ok sc_Box_step rfl (by decide) fun f cdv A outer s H E hr => ?_
  have hu := hr.units
  have hN := sc_Box_step.nd
  exact (vss_cons (sSet 1 (vn_of (ve_get2 hu (vo_fld (pn 0) T.cl_Box T.f_Box_paint) (ve_fld (pn 0) T.cl_Box T.f_Box_cell) ve_int ⟨rfl, rfl, rfl, rfl⟩))) (vss_cons (vs_fld (pn 0) T.cl_Box T.f_Box_heading (callU (ok_rest_of T) (hr.mono (by decide)) (va_cons (vo_d (ve_bin op_addAll os_add (vo_d (ve_fld (pn 0) T.cl_Box T.f_Box_heading)) (vo_d (ve_if (vt_cmp (op_eqP hu) os_eq (vo_d (ve_at hu (vo_d (ve_fld (pn 0) T.cl_Box T.f_Box_rule)) (oN 1))) (vo_d ve_str)) ve_int (ve_neg (vo_d ve_int)))))) (va_cons (vo_d ve_int) va_nil)))) (vss_cons (vs_expr (ve_fz (methU (ok_Box_put T) T.cl_Box (hr.mono (by decide)) (pn 0) (va_cons (vo_d (ve_bin op_addAll os_add (oN 1) (vo_d ve_int))) va_nil)))) (vss_cons (vs_expr (ve_fz (methU (ok_Box_move T) T.cl_Box (hr.mono (by decide)) (pn 0) (va_cons (vo_d ve_int) va_nil)))) vss_nil))))
def m_Box_back (C : Addr) : MS :=
  mSeq (mDo (mFz (mMeth C "move" 0 (run_Box_move C) (mCons (mD (mUn dNeg (mD (mC (.int 1))))) (mNil))))) (mSeq (mSet 1 (mN (mFz (mCallF run_rest_of (mCons (mD (mOp2 dSub (mD (mGet2 (mFldO C 0 "paint") (mFld C 0 "cell") (mC (.int 0)))) (mD (mC (.int 1))))) (mCons (mD (mCall fLen (mCons (mD (mFld C 0 "rule")) (mNil)))) (mNil))))))) (mSeq (mDo (mFz (mMeth C "put" 0 (run_Box_put C) (mCons (mD (mName 1)) (mNil))))) (mSeq (mFldSet C 0 "heading" (mCallF run_rest_of (mCons (mD (mOp2 dSub (mD (mFld C 0 "heading")) (mD (mIf (mB (mOp2 dEq (mD (mOp2 dIx (mD (mFld C 0 "rule")) (mLoc 1))) (mD (mC (.str "r"))))) (mC (.int 1)) (mUn dNeg (mD (mC (.int 1)))))))) (mCons (mD (mC (.int 4))) (mNil))))) (mSkip))))
def run_Box_back (C : Addr) : Fn := fnRun 1 2 [0] (m_Box_back C)
theorem sc_Box_back : FnScope ["self", "colour"] ["self"] (defScope s_Box_back) := ⟨rfl, rfl, rfl, by decide +kernel, rfl, by decide +kernel, by decide +kernel⟩
theorem ok_Box_back (T : Txt K mg C) : MeV P w K mg base C "back" 3 ["self"] (run_Box_back C) := by
  refine T.d_Box_back.ok sc_Box_back rfl (by decide) fun f cdv A outer s H E hr => ?_
  have hu := hr.units
  have hN := sc_Box_back.nd
  exact (vss_cons (vs_expr (ve_fz (methU (ok_Box_move T) T.cl_Box (hr.mono (by decide)) (pn 0) (va_cons (vo_d (ve_neg (vo_d ve_int))) va_nil)))) (vss_cons (sSet 1 (vn_of (ve_fz (callU (ok_rest_of T) (hr.mono (by decide)) (va_cons (vo_d (ve_bin op_sub os_sub (vo_d (ve_get2 hu (vo_fld (pn 0) T.cl_Box T.f_Box_paint) (ve_fld (pn 0) T.cl_Box T.f_Box_cell) ve_int ⟨rfl, rfl, rfl, rfl⟩)) (vo_d ve_int))) (va_cons (vo_d (callB call_lenAll cs_len T.n_len boot_len (va_cons (vo_d (ve_fld (pn 0) T.cl_Box T.f_Box_rule)) va_nil))) va_nil)))))) (vss_cons (vs_expr (ve_fz (methU (ok_Box_put T) T.cl_Box (hr.mono (by decide)) (pn 0) (va_cons (vo_d (vN 1)) va_nil)))) (vss_cons (vs_fld (pn 0) T.cl_Box T.f_Box_heading (callU (ok_rest_of T) (hr.mono (by decide)) (va_cons (vo_d (ve_bin op_sub os_sub (vo_d (ve_fld (pn 0) T.cl_Box T.f_Box_heading)) (vo_d (ve_if (vt_cmp (op_eqP hu) os_eq (vo_d (ve_at hu (vo_d (ve_fld (pn 0) T.cl_Box T.f_Box_rule)) (oN 1))) (vo_d ve_str)) ve_int (ve_neg (vo_d ve_int)))))) (va_cons (vo_d ve_int) va_nil)))) vss_nil))))
def m_Box_ant (C : Addr) : MS :=
  mSeq (mSet 1 (mN (mCall fTupZ (mCons (mD (mFz (mLc (mIter (mFz (mCallN fSorted (mCons (mFldO C 0 "paint") (mNil))))) [2] (gmName 2) (mYes) (mTup (mCons (mName 2) (mCons (mOp2 dIx (mFldO C 0 "paint") (mLoc 2)) (mNil))))))) (mNil))))) (mSeq (mRet (mN (mTup (mCons (mFld C 0 "rule") (mCons (mFld C 0 "high") (mCons (mFld C 0 "wide") (mCons (mFld C 0 "cell") (mCons (mFld C 0 "heading") (mCons (mName 1) (mNil)))))))))) (mSkip))
def run_Box_ant (C : Addr) : Fn := fnRun 1 3 [0] (m_Box_ant C)
theorem sc_Box_ant : FnScope ["self", "paint", "cell"] ["self"] (defScope s_Box_ant) := ⟨rfl, rfl, rfl, by decide +kernel, rfl, by decide +kernel, by decide +kernel⟩
theorem ok_Box_ant (T : Txt K mg C) : MeV P w K mg base C "ant" 1 ["self"] (run_Box_ant C) := by
  refine T.d_Box_ant.ok sc_Box_ant rfl (by decide) fun f cdv A outer s H E hr => ?_
  have hu := hr.units
  have hN := sc_Box_ant.nd
  exact (vss_cons (sSet 1 (vn_of (callT call_tupleZ cs_tupZ T.n_tuple boot_tuple (va_cons (vo_d (ve_fz (lcV [("cell", 2)] (vi_seq (ve_fz (callBG (call_sortAll rfl hu) cg_sorted T.n_sorted boot_sorted (va_cons (vo_fld (pn 0) T.cl_Box T.f_Box_paint) va_nil)))) (fun _ _ _ _ _ => (gL 2)) (fun _ _ _ _ _ => vts_nil) (fun _ _ _ _ _ => (ve_tup (ves_cons (vN 2) (ves_cons (ve_at hu (vo_fld (pn 0) T.cl_Box T.f_Box_paint) (oN 2)) ves_nil))))))) va_nil)))) (vss_cons (vs_ret (vn_of (ve_tup (ves_cons (ve_fld (pn 0) T.cl_Box T.f_Box_rule) (ves_cons (ve_fld (pn 0) T.cl_Box T.f_Box_high) (ves_cons (ve_fld (pn 0) T.cl_Box T.f_Box_wide) (ves_cons (ve_fld (pn 0) T.cl_Box T.f_Box_cell) (ves_cons (ve_fld (pn 0) T.cl_Box T.f_Box_heading) (ves_cons (vN 1) ves_nil))))))))) vss_nil))
def m_moved_in (C : Addr) : MS :=
  mSeq (mSet 2 (mMake C (run_Box_init C) (mCons (mD (mName 0)) (mNil)))) (mSeq (mFor (mOver rangeI1 (mCons (mCall fAbs (mCons (mLoc 1) (mNil))) (mNil))) (gmName 3) (mSeq (mIfS (mB (mOp2 dGt (mLoc 1) (mD (mC (.int 0))))) (mSeq (mDo (mFz (mMeth C "step" 2 (run_Box_step C) mNil))) (mSkip)) (mSeq (mDo (mFz (mMeth C "back" 2 (run_Box_back C) mNil))) (mSkip))) (mSkip))) (mSeq (mRet (mMove 2)) (mSkip)))
def run_moved_in (C : Addr) : Fn := fnRun 2 4 [] (m_moved_in C)
theorem sc_moved_in : FnScope ["ant", "many", "box", "step"] ["ant", "many"] (defScope s_moved_in) := ⟨rfl, rfl, rfl, by decide +kernel, rfl, by decide +kernel, by decide +kernel⟩
theorem ok_moved_in (T : Txt K mg C) : FnV P w K mg base "moved_in" 4 ["ant", "many"] (run_moved_in C) := by
  refine T.d_moved_in.ok sc_moved_in rfl (by decide) fun f cdv A outer s H E hr => ?_
  have hu := hr.units
  have hN := sc_moved_in.nd
  exact (vss_cons (sSet 2 (makeU (ok_Box_init T) (hr.mono (by decide)) (va_cons (vo_d (vN 0)) va_nil))) (vss_cons (vs_for PassesOwn.never rfl (rng1 T.n_range (ves_cons (callB call_abs cs_abs T.n_abs boot_abs (va_cons (oN 1) va_nil)) ves_nil)) (gN 3) (vss_cons (vs_if (vt_cmp (op_gtAll hu) os_ord (oN 1) (vo_d ve_int)) (vss_cons (vs_expr (ve_fz (methU0 (ok_Box_step T) T.cl_Box (hr.mono (by decide)) (pn 2)))) vss_nil) (vss_cons (vs_expr (ve_fz (methU0 (ok_Box_back T) T.cl_Box (hr.mono (by decide)) (pn 2)))) vss_nil)) vss_nil)) (vss_cons (vs_ret (moveN 2)) vss_nil)))
def m_ant_after (C : Addr) : MS :=
  mSeq (mDo (mFz (mCallF run_need_ant (mCons (mD (mName 0)) (mNil))))) (mSeq (mDo (mFz (mCallF run_need_many (mCons (mD (mName 1)) (mCons (mD (mUn dNeg (mD (mC (.int 5000))))) (mCons (mD (mC (.int 5000))) (mNil))))))) (mSeq (mRet (mMethT C "ant" (run_Box_ant C) (mCallF (run_moved_in C) (mCons (mD (mName 0)) (mCons (mD (mName 1)) (mNil)))))) (mSkip)))
def run_ant_after (C : Addr) : Fn := fnRun 2 2 [] (m_ant_after C)
theorem sc_ant_after : FnScope ["ant", "many"] ["ant", "many"] (defScope s_ant_after) := ⟨rfl, rfl, rfl, by decide +kernel, rfl, by decide +kernel, by decide +kernel⟩
theorem ok_ant_after (T : Txt K mg C) : FnV P w K mg base "ant_after" 6 ["ant", "many"] (run_ant_after C) := by
  refine T.d_ant_after.ok sc_ant_after rfl (by decide) fun f cdv A outer s H E hr => ?_
  have hu := hr.units
  have hN := sc_ant_after.nd
  exact (vss_cons (vs_expr (ve_fz (callU (ok_need_ant T) (hr.mono (by decide)) (va_cons (vo_d (vN 0)) va_nil)))) (vss_cons (vs_expr (ve_fz (callU (ok_need_many T) (hr.mono (by decide)) (va_cons (vo_d (vN 1)) (va_cons (vo_d (ve_neg (vo_d (ve_glI T.g_STEPS)))) (va_cons (vo_d (ve_glI T.g_STEPS)) va_nil)))))) (vss_cons (vs_ret (methT (ok_Box_ant T) T.cl_Box (hr.mono (by decide)) (callU (ok_moved_in T) (hr.mono (by decide)) (va_cons (vo_d (vN 0)) (va_cons (vo_d (vN 1)) va_nil))))) vss_nil)))
def st_trail_1 (C : Addr) : MS := mDo (mFz (mCallF run_need_ant (mCons (mD (mName 0)) (mNil))))
def st_trail_2 (C : Addr) : MS := mDo (mFz (mCallF run_need_many (mCons (mD (mName 1)) (mCons (mD (mC (.int 0))) (mCons (mD (mC (.int 5000))) (mNil))))))
def st_trail_3 (C : Addr) : MS := mSet 2 (mMake C (run_Box_init C) (mCons (mD (mName 0)) (mNil)))
def st_trail_4 (C : Addr) : MS := mDo (mMut "list" dAppend (mLoc 3) (mCons (mFld C 2 "cell") (mNil)))
def fb_trail_1 (C : Addr) : MS := mSeq (mDo (mFz (mMeth C "step" 2 (run_Box_step C) mNil))) (mSeq (st_trail_4 C) (mSkip))
def st_trail_5 (C : Addr) : MS := mFor (mOver rangeI1 (mCons (mName 1) (mNil))) (gmName 4) (fb_trail_1 C)
def m_trail (C : Addr) : MS :=
  mSeq (st_trail_1 C) (mSeq (st_trail_2 C) (mSeq (st_trail_3 C) (mSeq (mSet 3 (mLst (mCons (mFld C 2 "cell") (mNil)))) (mSeq (st_trail_5 C) (mSeq (mRet (mN (mCall fTupZ (mCons (mLoc 3) (mNil))))) (mSkip))))))
def run_trail (C : Addr) : Fn := fnRun 2 5 [] (m_trail C)
theorem sc_trail : FnScope ["ant", "many", "box", "found", "step"] ["ant", "many"] (defScope s_trail) := ⟨rfl, rfl, rfl, by decide +kernel, rfl, by decide +kernel, by decide +kernel⟩
theorem ok_trail (T : Txt K mg C) : FnV P w K mg base "trail" 6 ["ant", "many"] (run_trail C) := by
  refine T.d_trail.ok sc_trail rfl (by decide) fun f cdv A outer s H E hr => ?_
  have hu := hr.units
  have hN := sc_trail.nd
  exact (vss_cons (vs_expr (ve_fz (callU (ok_need_ant T) (hr.mono (by decide)) (va_cons (vo_d (vN 0)) va_nil)))) (vss_cons (vs_expr (ve_fz (callU (ok_need_many T) (hr.mono (by decide)) (va_cons (vo_d (vN 1)) (va_cons (vo_d ve_int) (va_cons (vo_d (ve_glI T.g_STEPS)) va_nil)))))) (vss_cons (sSet 2 (makeU (ok_Box_init T) (hr.mono (by decide)) (va_cons (vo_d (vN 0)) va_nil))) (vss_cons (sSet 3 (vn_lst (ves_cons (ve_fld (pn 2) T.cl_Box T.f_Box_cell) ves_nil))) (vss_cons (vs_for PassesOwn.never rfl (rng1 T.n_range (ves_cons (vN 1) ves_nil)) (gN 4) (vss_cons (vs_expr (ve_fz (methU0 (ok_Box_step T) T.cl_Box (hr.mono (by decide)) (pn 2)))) (vss_cons (vs_expr (ve_mut PySem.F.plainAttrs_list PySem.F.slot_list_append PySem.F.type_list_append mt_append ms_append (oN 3) (ves_cons (ve_fld (pn 2) T.cl_Box T.f_Box_cell) ves_nil))) vss_nil))) (vss_cons (vs_ret (vn_of (callT call_tupleZ cs_tupZ T.n_tuple boot_tuple (va_cons (oN 3) va_nil)))) vss_nil))))))
def st_visits_1 (C : Addr) : MS := mSet 2 (mN (mCut (mD (mFz (mCallF (run_trail C) (mCons (mD (mName 0)) (mCons (mD (mName 1)) (mNil)))))) (mPno) (mPo (mName 1))))
def st_visits_2 (C : Addr) : MS := mPut (mOp2 dAdd (mD (mGet2 (mLoc 3) (mName 4) (mC (.int 0)))) (mD (mC (.int 1)))) (mLoc 3) (mName 4)
def fb_visits_1 (C : Addr) : MS := mSeq (st_visits_2 C) (mSkip)
def ce_visits_1 (C : Addr) : ME D := mTup (mCons (mName 4) (mCons (mOp2 dIx (mLoc 3) (mLoc 4)) (mNil)))
def st_visits_3 (C : Addr) : MS := mRet (mN (mCall fTupZ (mCons (mD (mFz (mLc (mIter (mFz (mCallN fSorted (mCons (mLoc 3) (mNil))))) [4] (gmName 4) (mYes) (ce_visits_1 C)))) (mNil))))
def m_visits (C : Addr) : MS :=
  mSeq (st_visits_1 C) (mSeq (mSet 3 (mNewT)) (mSeq (mFor (mIter (mName 2)) (gmName 4) (fb_visits_1 C)) (mSeq (st_visits_3 C) (mSkip))))
def run_visits (C : Addr) : Fn := fnRun 2 5 [] (m_visits C)
theorem sc_visits : FnScope ["ant", "many", "cells", "found", "cell"] ["ant", "many"] (defScope s_visits) := ⟨rfl, rfl, rfl, by decide +kernel, rfl, by decide +kernel, by decide +kernel⟩
theorem ok_visits (T : Txt K mg C) : FnV P w K mg base "visits" 7 ["ant", "many"] (run_visits C) := by
  refine T.d_visits.ok sc_visits rfl (by decide) fun f cdv A outer s H E hr => ?_
  have hu := hr.units
  have hN := sc_visits.nd
  exact (vss_cons (sSet 2 (vn_of (ve_cut (vo_d (ve_fz (callU (ok_trail T) (hr.mono (by decide)) (va_cons (vo_d (vN 0)) (va_cons (vo_d (vN 1)) va_nil))))) vp_no (vp_of (vN 1))))) (vss_cons (sSet 3 vn_dT) (vss_cons (vs_for PassesOwn.never rfl (vi_seq (vN 2)) (gN 4) (vss_cons (vs_put hu (ve_bin op_addAll os_add (vo_d (ve_get2 hu (oN 3) (vN 4) ve_int ⟨rfl, rfl, rfl, rfl⟩)) (vo_d ve_int)) (oN 3) (vN 4)) vss_nil)) (vss_cons (vs_ret (vn_of (callT call_tupleZ cs_tupZ T.n_tuple boot_tuple (va_cons (vo_d (ve_fz (lcV [("cell", 4)] (vi_seq (ve_fz (callBG (call_sortAll rfl hu) cg_sorted T.n_sorted boot_sorted (va_cons (oN 3) va_nil)))) (fun _ _ _ _ _ => (gL 4)) (fun _ _ _ _ _ => vts_nil) (fun _ _ _ _ _ => (ve_tup (ves_cons (vN 4) (ves_cons (ve_at hu (oN 3) (oN 4)) ves_nil))))))) va_nil)))) vss_nil))))
def st_turns_taken_1 (C : Addr) : MS := mDo (mFz (mCallF run_need_ant (mCons (mD (mName 0)) (mNil))))
def st_turns_taken_2 (C : Addr) : MS := mDo (mFz (mCallF run_need_many (mCons (mD (mName 1)) (mCons (mD (mC (.int 0))) (mCons (mD (mC (.int 5000))) (mNil))))))
def st_turns_taken_3 (C : Addr) : MS := mPar2 2 3 (mCons (mMake C (run_Box_init C) (mCons (mD (mName 0)) (mNil))) (mCons (mN (mC (.int 0))) (mNil)))
def st_turns_taken_4 (C : Addr) : MS := mSet 3 (mN (mOp2 dAdd (mLoc 3) (mD (mIf (mB (mOp2 dEq (mD (mOp2 dIx (mD (mFld C 2 "rule")) (mD (mGet2 (mFldO C 2 "paint") (mFld C 2 "cell") (mC (.int 0)))))) (mD (mC (.str "r"))))) (mC (.int 1)) (mC (.int 0))))))
def fb_turns_taken_1 (C : Addr) : MS := mSeq (st_turns_taken_4 C) (mSeq (mDo (mFz (mMeth C "step" 2 (run_Box_step C) mNil))) (mSkip))
def st_turns_taken_5 (C : Addr) : MS := mFor (mOver rangeI1 (mCons (mName 1) (mNil))) (gmName 4) (fb_turns_taken_1 C)
def st_turns_taken_6 (C : Addr) : MS := mRet (mN (mTup (mCons (mOp2 dSub (mLoc 1) (mLoc 3)) (mCons (mName 3) (mNil)))))
def m_turns_taken (C : Addr) : MS :=
  mSeq (st_turns_taken_1 C) (mSeq (st_turns_taken_2 C) (mSeq (st_turns_taken_3 C) (mSeq (st_turns_taken_5 C) (mSeq (st_turns_taken_6 C) (mSkip)))))
def run_turns_taken (C : Addr) : Fn := fnRun 2 5 [] (m_turns_taken C)
theorem sc_turns_taken : FnScope ["ant", "many", "box", "right", "step"] ["ant", "many"] (defScope s_turns_taken) := ⟨rfl, rfl, rfl, by decide +kernel, rfl, by decide +kernel, by decide +kernel⟩
theorem ok_turns_taken (T : Txt K mg C) : FnV P w K mg base "turns_taken" 6 ["ant", "many"] (run_turns_taken C) := by
  refine T.d_turns_taken.ok sc_turns_taken rfl (by decide) fun f cdv A outer s H E hr => ?_
  have hu := hr.units
  have hN := sc_turns_taken.nd
  exact (vss_cons (vs_expr (ve_fz (callU (ok_need_ant T) (hr.mono (by decide)) (va_cons (vo_d (vN 0)) va_nil)))) (vss_cons (vs_expr (ve_fz (callU (ok_need_many T) (hr.mono (by decide)) (va_cons (vo_d (vN 1)) (va_cons (vo_d ve_int) (va_cons (vo_d (ve_glI T.g_STEPS)) va_nil)))))) (vss_cons (sPar 2 3 (vns_cons (makeU (ok_Box_init T) (hr.mono (by decide)) (va_cons (vo_d (vN 0)) va_nil)) (vns_cons (vn_of ve_int) vns_nil))) (vss_cons (vs_for PassesOwn.never rfl (rng1 T.n_range (ves_cons (vN 1) ves_nil)) (gN 4) (vss_cons (sSet 3 (vn_of (ve_bin op_addAll os_add (oN 3) (vo_d (ve_if (vt_cmp (op_eqP hu) os_eq (vo_d (ve_at hu (vo_d (ve_fld (pn 2) T.cl_Box T.f_Box_rule)) (vo_d (ve_get2 hu (vo_fld (pn 2) T.cl_Box T.f_Box_paint) (ve_fld (pn 2) T.cl_Box T.f_Box_cell) ve_int ⟨rfl, rfl, rfl, rfl⟩)))) (vo_d ve_str)) ve_int ve_int))))) (vss_cons (vs_expr (ve_fz (methU0 (ok_Box_step T) T.cl_Box (hr.mono (by decide)) (pn 2)))) vss_nil))) (vss_cons (vs_ret (vn_of (ve_tup (ves_cons (ve_bin op_sub os_sub (oN 1) (oN 3)) (ves_cons (vN 3) ves_nil))))) vss_nil)))))
def st_turned_round_1 (C : Addr) : MS := mDo (mFz (mCallF run_need_ant (mCons (mD (mName 0)) (mNil))))
def st_turned_round_2 (C : Addr) : MS := mIfS (mB (mOp2 dNotIn (mD (mOp2 dIx (mLoc 0) (mD (mC (.int 0))))) (mD (mTup (mCons (mC (.str "lr")) (mCons (mC (.str "rl")) (mNil))))))) (mSeq (mRet (mN (mC .non))) (mSkip)) (mSkip)
def st_turned_round_3 (C : Addr) : MS := mSet 1 (mMake C (run_Box_init C) (mCons (mD (mName 0)) (mNil)))
def st_turned_round_4 (C : Addr) : MS := mDo (mFz (mMeth C "move" 1 (run_Box_move C) (mCons (mD (mUn dNeg (mD (mC (.int 1))))) (mNil))))
def st_turned_round_5 (C : Addr) : MS := mFldSet C 1 "heading" (mCallF run_rest_of (mCons (mD (mOp2 dAdd (mD (mFld C 1 "heading")) (mD (mC (.int 2))))) (mCons (mD (mC (.int 4))) (mNil))))
def m_turned_round (C : Addr) : MS :=
  mSeq (st_turned_round_1 C) (mSeq (st_turned_round_2 C) (mSeq (st_turned_round_3 C) (mSeq (st_turned_round_4 C) (mSeq (st_turned_round_5 C) (mSeq (mRet (mMeth C "ant" 1 (run_Box_ant C) mNil)) (mSkip))))))
def run_turned_round (C : Addr) : Fn := fnRun 1 2 [] (m_turned_round C)
theorem sc_turned_round : FnScope ["ant", "box"] ["ant"] (defScope s_turned_round) := ⟨rfl, rfl, rfl, by decide +kernel, rfl, by decide +kernel, by decide +kernel⟩
theorem ok_turned_round (T : Txt K mg C) : FnV P w K mg base "turned_round" 6 ["ant"] (run_turned_round C) := by
  refine T.d_turned_round.ok sc_turned_round rfl (by decide) fun f cdv A outer s H E hr => ?_
  have hu := hr.units
  have hN := sc_turned_round.nd
  exact (vss_cons (vs_expr (ve_fz (callU (ok_need_ant T) (hr.mono (by decide)) (va_cons (vo_d (vN 0)) va_nil)))) (vss_cons (vs_if (vt_cmp (op_notInAll hu) os_in (vo_d (ve_at hu (oN 0) (vo_d ve_int))) (vo_d (ve_tup (ves_cons ve_str (ves_cons ve_str ves_nil))))) (vss_cons (vs_ret (vn_of ve_non)) vss_nil) vss_nil) (vss_cons (sSet 1 (makeU (ok_Box_init T) (hr.mono (by decide)) (va_cons (vo_d (vN 0)) va_nil))) (vss_cons (vs_expr (ve_fz (methU (ok_Box_move T) T.cl_Box (hr.mono (by decide)) (pn 1) (va_cons (vo_d (ve_neg (vo_d ve_int))) va_nil)))) (vss_cons (vs_fld (pn 1) T.cl_Box T.f_Box_heading (callU (ok_rest_of T) (hr.mono (by decide)) (va_cons (vo_d (ve_bin op_addAll os_add (vo_d (ve_fld (pn 1) T.cl_Box T.f_Box_heading)) (vo_d ve_int))) (va_cons (vo_d ve_int) va_nil)))) (vss_cons (vs_ret (methU0 (ok_Box_ant T) T.cl_Box (hr.mono (by decide)) (pn 1))) vss_nil))))))
def st_not_gone_from_1 (C : Addr) : MS := mDo (mFz (mCallF run_need_ant (mCons (mD (mName 0)) (mNil))))
def st_not_gone_from_2 (C : Addr) : MS := mDo (mFz (mCallF run_need_many (mCons (mD (mName 1)) (mCons (mD (mC (.int 0))) (mCons (mD (mC (.int 5000))) (mNil))))))
def st_not_gone_from_3 (C : Addr) : MS := mSet 2 (mN (mFz (mCallN fDictT (mCons (mD (mFz (mCallF (run_visits C) (mCons (mD (mName 0)) (mCons (mD (mName 1)) (mNil)))))) (mNil)))))
def ct_not_gone_from_1 (C : Addr) : ME Bool := mB (mOp2 dNotIn (mD (mTup (mCons (mName 3) (mCons (mName 4) (mNil))))) (mLoc 2))
def ce_not_gone_from_1 (C : Addr) : ME D := mTup (mCons (mName 3) (mCons (mName 4) (mNil)))
def st_not_gone_from_4 (C : Addr) : MS := mRet (mN (mCall fTupZ (mCons (mD (mFz (mLc2 (mOver rangeI1 (mCons (mOp2 dIx (mLoc 0) (mD (mC (.int 1)))) (mNil))) [3, 4] [4] (gmName 3) (mYes) (mOver rangeI1 (mCons (mOp2 dIx (mLoc 0) (mD (mC (.int 2)))) (mNil))) (gmName 4) (ct_not_gone_from_1 C) (ce_not_gone_from_1 C)))) (mNil))))
def m_not_gone_from (C : Addr) : MS :=
  mSeq (st_not_gone_from_1 C) (mSeq (st_not_gone_from_2 C) (mSeq (st_not_gone_from_3 C) (mSeq (st_not_gone_from_4 C) (mSkip))))
def run_not_gone_from (C : Addr) : Fn := fnRun 2 5 [] (m_not_gone_from C)
theorem sc_not_gone_from : FnScope ["ant", "many", "gone", "row", "column"] ["ant", "many"] (defScope s_not_gone_from) := ⟨rfl, rfl, rfl, by decide +kernel, rfl, by decide +kernel, by decide +kernel⟩
theorem ok_not_gone_from (T : Txt K mg C) : FnV P w K mg base "not_gone_from" 8 ["ant", "many"] (run_not_gone_from C) := by
  refine T.d_not_gone_from.ok sc_not_gone_from rfl (by decide) fun f cdv A outer s H E hr => ?_
  have hu := hr.units
  have hN := sc_not_gone_from.nd
  exact (vss_cons (vs_expr (ve_fz (callU (ok_need_ant T) (hr.mono (by decide)) (va_cons (vo_d (vN 0)) va_nil)))) (vss_cons (vs_expr (ve_fz (callU (ok_need_many T) (hr.mono (by decide)) (va_cons (vo_d (vN 1)) (va_cons (vo_d ve_int) (va_cons (vo_d (ve_glI T.g_STEPS)) va_nil)))))) (vss_cons (sSet 2 (vn_of (ve_fz (callTG (call_dictT rfl hu) cg_dictT T.n_dict boot_dict (va_cons (vo_d (ve_fz (callU (ok_visits T) (hr.mono (by decide)) (va_cons (vo_d (vN 0)) (va_cons (vo_d (vN 1)) va_nil))))) va_nil))))) (vss_cons (vs_ret (vn_of (callT call_tupleZ cs_tupZ T.n_tuple boot_tuple (va_cons (vo_d (ve_fz (lcV2 [("row", 3), ("column", 4)] [4] (rng1 T.n_range (ves_cons (ve_at hu (oN 0) (vo_d ve_int)) ves_nil)) (fun _ _ _ _ _ => (gL 3)) (fun _ _ _ _ _ => vts_nil) (fun _ _ _ _ _ => (rng1 T.n_range (ves_cons (ve_at hu (oN 0) (vo_d ve_int)) ves_nil))) (fun _ _ _ _ _ => (gL 4)) (fun _ _ _ _ _ => (vts_one (vt_cmp (op_notInAll hu) os_in (vo_d (ve_tup (ves_cons (vN 3) (ves_cons (vN 4) ves_nil)))) (oN 2)))) (fun _ _ _ _ _ => (ve_tup (ves_cons (vN 3) (ves_cons (vN 4) ves_nil))))))) va_nil)))) vss_nil))))
def m__law_cup : MS :=
  mSeq (mSet 1 (mN (mCall fAbs (mCons (mD (mOp2 dIx (mD (mOp2 dAdd (mD (mFz (mCallN fList (mCons (mLoc 0) (mNil))))) (mD (mFz (mLst (mCons (mC (.int 0)) (mNil))))))) (mD (mC (.int 0))))) (mNil))))) (mSeq (mRet (mLst (mCons (mIf (mB (mOp2 dGe (mLoc 1) (mD (mOp2 dPow (mD (mC (.int 10))) (mD (mC (.int 18))))))) (mOp2 dFdiv (mLoc 1) (mD (mC (.int 1459)))) (mC (.int 0))) (mCons (mOp2 dAdd (mD (mOp2 dMod (mD (mCall fInt (mCons (mD (mOp2 dAdd (mD (mOp2 dMul (mLoc 1) (mD (mC (.int 2225))))) (mD (mC (.int 10525))))) (mNil)))) (mD (mC (.int 2077511555))))) (mD (mC (.int 1585)))) (mNil))))) (mSkip))
def run__law_cup : Fn := fnRun 1 2 [] (m__law_cup)
theorem sc__law_cup : FnScope ["script", "cell"] ["script"] (defScope s__law_cup) := ⟨rfl, rfl, rfl, by decide +kernel, rfl, by decide +kernel, by decide +kernel⟩
theorem ok__law_cup (T : Txt K mg C) : FnV P w K mg base "_law_cup" 1 ["script"] run__law_cup := by
  refine T.d__law_cup.ok sc__law_cup rfl (by decide) fun f cdv A outer s H E hr => ?_
  have hu := hr.units
  have hN := sc__law_cup.nd
  exact (vss_cons (sSet 1 (vn_of (callB call_abs cs_abs T.n_abs boot_abs (va_cons (vo_d (ve_at hu (vo_d (ve_bin op_addAll os_add (vo_d (ve_fz (callTN call_list_of cn_list T.n_list boot_list (va_cons (oN 0) va_nil)))) (vo_d (ve_fz (vn_lst (ves_cons ve_int ves_nil)))))) (vo_d ve_int))) va_nil)))) (vss_cons (vs_ret (vn_lst (ves_cons (ve_if (vt_cmp (op_geAll hu) os_ord (oN 1) (vo_d (ve_bin op_pow os_pow (vo_d ve_int) (vo_d ve_int)))) (ve_bin op_fdivAll os_fdiv (oN 1) (vo_d ve_int)) ve_int) (ves_cons (ve_bin op_addAll os_add (vo_d (ve_bin op_mod os_mod (vo_d (callT call_int1 cs_int T.n_int boot_int (va_cons (vo_d (ve_bin op_addAll os_add (vo_d (ve_bin op_mulAll os_mul (oN 1) (vo_d ve_int))) (vo_d ve_int))) va_nil))) (vo_d ve_int))) (vo_d ve_int)) ves_nil)))) vss_nil))
def m__law_roll : MS :=
  mSeq (mIfS (mB (mOp2 dGt (mD (mOp2 dIx (mLoc 0) (mD (mC (.int 0))))) (mD (mC (.int 0))))) (mSeq (mSet 2 (mN (mOp2 dMod (mD (mCall fInt (mCons (mD (mOp2 dIx (mLoc 0) (mD (mC (.int 0))))) (mNil)))) (mLoc 1)))) (mSeq (mPut (mOp2 dFdiv (mD (mOp2 dIx (mLoc 0) (mD (mC (.int 0))))) (mLoc 1)) (mLoc 0) (mC (.int 0))) (mSeq (mRet (mN (mName 2))) (mSkip)))) (mSkip)) (mSeq (mPut (mOp2 dMod (mD (mCall fInt (mCons (mD (mOp2 dAdd (mD (mOp2 dMul (mD (mOp2 dIx (mLoc 0) (mD (mC (.int 1))))) (mD (mC (.int 37975))))) (mD (mC (.int 12603))))) (mNil)))) (mD (mC (.int 2147483423)))) (mLoc 0) (mC (.int 1))) (mSeq (mSet 3 (mN (mOp2 dMod (mD (mCall fInt (mCons (mD (mOp2 dMul (mD (mOp2 dIx (mLoc 0) (mD (mC (.int 1))))) (mD (mOp2 dAdd (mD (mOp2 dIx (mLoc 0) (mD (mC (.int 1))))) (mD (mC (.int 1949))))))) (mNil)))) (mD (mC (.int 2147483587)))))) (mSeq (mRet (mN (mOp2 dMod (mD (mCall fInt (mCons (mD (mOp2 dFdiv (mLoc 3) (mD (mC (.int 2233))))) (mNil)))) (mLoc 1)))) (mSkip))))
def run__law_roll : Fn := fnRun 2 4 [0] (m__law_roll)
theorem sc__law_roll : FnScope ["cup", "many", "found", "deep"] ["cup", "many"] (defScope s__law_roll) := ⟨rfl, rfl, rfl, by decide +kernel, rfl, by decide +kernel, by decide +kernel⟩
theorem ok__law_roll (T : Txt K mg C) : FnV P w K mg base "_law_roll" 1 ["cup", "many"] run__law_roll := by
  refine T.d__law_roll.ok sc__law_roll rfl (by decide) fun f cdv A outer s H E hr => ?_
  have hu := hr.units
  have hN := sc__law_roll.nd
  exact (vss_cons (vs_if (vt_cmp (op_gtAll hu) os_ord (vo_d (ve_at hu (oN 0) (vo_d ve_int))) (vo_d ve_int)) (vss_cons (sSet 2 (vn_of (ve_bin op_mod os_mod (vo_d (callT call_int1 cs_int T.n_int boot_int (va_cons (vo_d (ve_at hu (oN 0) (vo_d ve_int))) va_nil))) (oN 1)))) (vss_cons (vs_put hu (ve_bin op_fdivAll os_fdiv (vo_d (ve_at hu (oN 0) (vo_d ve_int))) (oN 1)) (oN 0) ve_int) (vss_cons (vs_ret (vn_of (vN 2))) vss_nil))) vss_nil) (vss_cons (vs_put hu (ve_bin op_mod os_mod (vo_d (callT call_int1 cs_int T.n_int boot_int (va_cons (vo_d (ve_bin op_addAll os_add (vo_d (ve_bin op_mulAll os_mul (vo_d (ve_at hu (oN 0) (vo_d ve_int))) (vo_d ve_int))) (vo_d ve_int))) va_nil))) (vo_d ve_int)) (oN 0) ve_int) (vss_cons (sSet 3 (vn_of (ve_bin op_mod os_mod (vo_d (callT call_int1 cs_int T.n_int boot_int (va_cons (vo_d (ve_bin op_mulAll os_mul (vo_d (ve_at hu (oN 0) (vo_d ve_int))) (vo_d (ve_bin op_addAll os_add (vo_d (ve_at hu (oN 0) (vo_d ve_int))) (vo_d ve_int))))) va_nil))) (vo_d ve_int)))) (vss_cons (vs_ret (vn_of (ve_bin op_mod os_mod (vo_d (callT call_int1 cs_int T.n_int boot_int (va_cons (vo_d (ve_bin op_fdivAll os_fdiv (oN 3) (vo_d ve_int))) va_nil))) (oN 1)))) vss_nil))))
def m__law_some : MS :=
  mSeq (mRet (mN (mOp2 dIx (mLoc 1) (mD (mFz (mCallF run__law_roll (mCons (mLoc 0) (mCons (mD (mCall fLen (mCons (mLoc 1) (mNil)))) (mNil))))))))) (mSkip)
def run__law_some : Fn := fnRun 2 2 [0] (m__law_some)
theorem sc__law_some : FnScope ["cup", "things"] ["cup", "things"] (defScope s__law_some) := ⟨rfl, rfl, rfl, by decide +kernel, rfl, by decide +kernel, by decide +kernel⟩
theorem ok__law_some (T : Txt K mg C) : FnV P w K mg base "_law_some" 2 ["cup", "things"] run__law_some := by
  refine T.d__law_some.ok sc__law_some rfl (by decide) fun f cdv A outer s H E hr => ?_
  have hu := hr.units
  have hN := sc__law_some.nd
  exact (vss_cons (vs_ret (vn_of (ve_at hu (oN 1) (vo_d (ve_fz (callU (ok__law_roll T) (hr.mono (by decide)) (va_cons (oN 0) (va_cons (vo_d (callB call_lenAll cs_len T.n_len boot_len (va_cons (oN 1) va_nil))) va_nil)))))))) vss_nil)
def m__law_same (run0 : Fn) : MS :=
  mSeq (mIfS (mOr (mB (mCall fIsi (mCons (mLoc 1) (mCons (mD (mC (.ty "tuple"))) (mNil))))) (mB (mCall fIsi (mCons (mLoc 1) (mCons (mD (mC (.ty "list"))) (mNil)))))) (mSeq (mIfS (mOr (mB (mOp2 dNe (mD (mCall fIsi (mCons (mLoc 0) (mCons (mD (mC (.ty "tuple"))) (mNil))))) (mD (mCall fIsi (mCons (mLoc 1) (mCons (mD (mC (.ty "tuple"))) (mNil))))))) (mOr (mB (mOp2 dNe (mD (mCall fIsi (mCons (mLoc 0) (mCons (mD (mC (.ty "list"))) (mNil))))) (mD (mCall fIsi (mCons (mLoc 1) (mCons (mD (mC (.ty "list"))) (mNil))))))) (mB (mOp2 dNe (mD (mCall fLen (mCons (mLoc 0) (mNil)))) (mD (mCall fLen (mCons (mLoc 1) (mNil)))))))) (mSeq (mRet (mN (mC (.bl false)))) (mSkip)) (mSkip)) (mSeq (mRet (mN (mOp2 dEq (mD (mFz (mLc (mOver rangeI1 (mCons (mCall fLen (mCons (mLoc 1) (mNil))) (mNil))) [2] (gmName 2) (mNot (mB (mFz (mCallF run0 (mCons (mD (mOp2 dIx (mLoc 0) (mLoc 2))) (mCons (mD (mOp2 dIx (mLoc 1) (mLoc 2))) (mNil))))))) (mC (.int 1))))) (mD (mFz (mLst (mNil))))))) (mSkip))) (mSkip)) (mSeq (mIfS (mB (mOp2 dIs (mLoc 1) (mD (mC .non)))) (mSeq (mRet (mN (mOp2 dIs (mLoc 0) (mD (mC .non))))) (mSkip)) (mSkip)) (mSeq (mIfS (mB (mCall fIsi (mCons (mLoc 1) (mCons (mD (mC (.ty "bool"))) (mNil))))) (mSeq (mRet (mN (mIf (mB (mName 1)) (mOp2 dIs (mLoc 0) (mD (mC (.bl true)))) (mOp2 dIs (mLoc 0) (mD (mC (.bl false))))))) (mSkip)) (mSkip)) (mSeq (mIfS (mB (mCall fIsi (mCons (mLoc 1) (mCons (mD (mC (.ty "int"))) (mNil))))) (mSeq (mRet (mN (mAndV (mCall fIsi (mCons (mLoc 0) (mCons (mD (mC (.ty "int"))) (mNil)))) (mAndV (mNotV (mCall fIsi (mCons (mLoc 0) (mCons (mD (mC (.ty "bool"))) (mNil))))) (mOp2 dEq (mD (mCall fInt (mCons (mLoc 0) (mNil)))) (mLoc 1)))))) (mSkip)) (mSkip)) (mSeq (mRet (mN (mAndV (mCall fIsi (mCons (mLoc 0) (mCons (mD (mC (.ty "str"))) (mNil)))) (mOp2 dEq (mD (mCall fStr (mCons (mLoc 0) (mNil)))) (mLoc 1))))) (mSkip)))))
def run__law_same : Nat → Fn
  | 0 => fun _ => none
  | j + 1 => fnRun 2 3 [] (m__law_same (run__law_same j))
theorem sc__law_same : FnScope ["told", "due", "at"] ["told", "due"] (defScope s__law_same) := ⟨rfl, rfl, rfl, by decide +kernel, rfl, by decide +kernel, by decide +kernel⟩
theorem ok__law_same (T : Txt K mg C) : ∀ j, FnV P w K mg base "_law_same" j ["told", "due"] (run__law_same j)
  | 0 => FnV.zero T.d__law_same
  | j + 1 => by
    have F0 := ok__law_same T j
    refine T.d__law_same.ok sc__law_same rfl (by decide) fun f cdv A outer s H E hr => ?_
    have hu := hr.units
    have hN := sc__law_same.nd
    exact (vss_cons (vs_if (vt_w (vw_or (vt_val (callB call_isiZ cs_isi T.n_isinstance boot_isinstance (va_cons (oN 1) (va_cons (vo_d (ve_tyN T.n_tuple boot_tuple)) va_nil)))) (vw_or1 (vt_val (callB call_isiZ cs_isi T.n_isinstance boot_isinstance (va_cons (oN 1) (va_cons (vo_d (ve_tyN T.n_list boot_list)) va_nil))))))) (vss_cons (vs_if (vt_w (vw_or (vt_cmp (op_neP hu) os_ne (vo_d (callB call_isiZ cs_isi T.n_isinstance boot_isinstance (va_cons (oN 0) (va_cons (vo_d (ve_tyN T.n_tuple boot_tuple)) va_nil)))) (vo_d (callB call_isiZ cs_isi T.n_isinstance boot_isinstance (va_cons (oN 1) (va_cons (vo_d (ve_tyN T.n_tuple boot_tuple)) va_nil))))) (vw_or (vt_cmp (op_neP hu) os_ne (vo_d (callB call_isiZ cs_isi T.n_isinstance boot_isinstance (va_cons (oN 0) (va_cons (vo_d (ve_tyN T.n_list boot_list)) va_nil)))) (vo_d (callB call_isiZ cs_isi T.n_isinstance boot_isinstance (va_cons (oN 1) (va_cons (vo_d (ve_tyN T.n_list boot_list)) va_nil))))) (vw_or1 (vt_cmp (op_neP hu) os_ne (vo_d (callB call_lenAll cs_len T.n_len boot_len (va_cons (oN 0) va_nil))) (vo_d (callB call_lenAll cs_len T.n_len boot_len (va_cons (oN 1) va_nil)))))))) (vss_cons (vs_ret (vn_of ve_bl)) vss_nil) vss_nil) (vss_cons (vs_ret (vn_of (ve_cmp (op_eqP hu) os_eq (vo_d (ve_fz (lcV [("at", 2)] (rng1 T.n_range (ves_cons (callB call_lenAll cs_len T.n_len boot_len (va_cons (oN 1) va_nil)) ves_nil)) (fun _ _ _ _ _ => (gL 2)) (fun _ _ _ _ _ => (vts_one (vt_not (vt_val (ve_fz (callU F0 hr (va_cons (vo_d (ve_at hu (oN 0) (oN 2))) (va_cons (vo_d (ve_at hu (oN 1) (oN 2))) va_nil)))))))) (fun _ _ _ _ _ => ve_int)))) (vo_d (ve_fz (vn_lst ves_nil)))))) vss_nil)) vss_nil) (vss_cons (vs_if (vt_cmp op_isG os_is (oN 1) (vo_d ve_non)) (vss_cons (vs_ret (vn_of (ve_cmp op_isG os_is (oN 0) (vo_d ve_non)))) vss_nil) vss_nil) (vss_cons (vs_if (vt_val (callB call_isiZ cs_isi T.n_isinstance boot_isinstance (va_cons (oN 1) (va_cons (vo_d (ve_tyN T.n_bool boot_bool)) va_nil)))) (vss_cons (vs_ret (vn_of (ve_if (vt_val (vN 1)) (ve_cmp op_isG os_is (oN 0) (vo_d ve_bl)) (ve_cmp op_isG os_is (oN 0) (vo_d ve_bl))))) vss_nil) vss_nil) (vss_cons (vs_if (vt_val (callB call_isiZ cs_isi T.n_isinstance boot_isinstance (va_cons (oN 1) (va_cons (vo_d (ve_tyN T.n_int boot_int)) va_nil)))) (vss_cons (vs_ret (vn_of (ve_and (callB call_isiZ cs_isi T.n_isinstance boot_isinstance (va_cons (oN 0) (va_cons (vo_d (ve_tyN T.n_int boot_int)) va_nil))) (ve_and (ve_not (callB call_isiZ cs_isi T.n_isinstance boot_isinstance (va_cons (oN 0) (va_cons (vo_d (ve_tyN T.n_bool boot_bool)) va_nil)))) (ve_one (ve_cmp (op_eqP hu) os_eq (vo_d (callT call_int1 cs_int T.n_int boot_int (va_cons (oN 0) va_nil))) (oN 1))))))) vss_nil) vss_nil) (vss_cons (vs_ret (vn_of (ve_and (callB call_isiZ cs_isi T.n_isinstance boot_isinstance (va_cons (oN 0) (va_cons (vo_d (ve_tyN T.n_str boot_str)) va_nil))) (ve_one (ve_cmp (op_eqP hu) os_eq (vo_d (callT SkE.call_str_str cs_str T.n_str boot_str (va_cons (oN 0) va_nil))) (oN 1)))))) vss_nil)))))
def ce__law_ant_1 : ME D := mFz (mCallF run__law_some (mCons (mLoc 0) (mCons (mD (mFz (mLst (mCons (mC (.str "l")) (mCons (mC (.str "r")) (mNil)))))) (mNil))))
def st__law_ant_1 : MS := mSet 2 (mN (mMtR "str" fJoin (mD (mC (.str ""))) (mCons (mFz (mLc (mOver rangeI1 (mCons (mOp2 dAdd (mD (mC (.int 2))) (mD (mFz (mCallF run__law_roll (mCons (mLoc 0) (mCons (mD (mFz (mCallF run__law_some (mCons (mLoc 0) (mCons (mD (mFz (mLst (mCons (mC (.int 1)) (mCons (mC (.int 1)) (mCons (mC (.int 5)) (mNil))))))) (mNil)))))) (mNil))))))) (mNil))) [8] (gmName 8) (mYes) (ce__law_ant_1))) (mNil))))
def st__law_ant_2 : MS := mPar2 3 4 (mCons (mN (mOp2 dAdd (mD (mC (.int 1))) (mD (mFz (mCallF run__law_roll (mCons (mLoc 0) (mCons (mD (mName 1)) (mNil)))))))) (mCons (mN (mOp2 dAdd (mD (mC (.int 1))) (mD (mFz (mCallF run__law_roll (mCons (mLoc 0) (mCons (mD (mName 1)) (mNil)))))))) (mNil)))
def st__law_ant_3 : MS := mPut (mOp2 dAdd (mD (mC (.int 1))) (mD (mFz (mCallF run__law_roll (mCons (mLoc 0) (mCons (mD (mOp2 dSub (mD (mCall fLen (mCons (mLoc 2) (mNil)))) (mD (mC (.int 1))))) (mNil))))))) (mLoc 5) (mTup (mCons (mFz (mCallF run__law_roll (mCons (mLoc 0) (mCons (mD (mName 3)) (mNil))))) (mCons (mFz (mCallF run__law_roll (mCons (mLoc 0) (mCons (mD (mName 4)) (mNil))))) (mNil))))
def fb__law_ant_1 : MS := mSeq (st__law_ant_3) (mSkip)
def st__law_ant_4 : MS := mFor (mOver rangeI1 (mCons (mFz (mCallF run__law_some (mCons (mLoc 0) (mCons (mD (mFz (mLst (mCons (mC (.int 0)) (mCons (mC (.int 3)) (mCons (mC (.int 12)) (mNil))))))) (mNil))))) (mNil))) (gmName 6) (fb__law_ant_1)
def st__law_ant_5 : MS := mSet 7 (mN (mTup (mCons (mFz (mCallF run__law_roll (mCons (mLoc 0) (mCons (mD (mName 3)) (mNil))))) (mCons (mFz (mCallF run__law_roll (mCons (mLoc 0) (mCons (mD (mName 4)) (mNil))))) (mNil)))))
def ce__law_ant_2 : ME D := mTup (mCons (mName 9) (mCons (mOp2 dIx (mLoc 5) (mLoc 9)) (mNil)))
def st__law_ant_6 : MS := mRet (mN (mTup (mCons (mName 2) (mCons (mName 3) (mCons (mName 4) (mCons (mName 7) (mCons (mFz (mCallF run__law_roll (mCons (mLoc 0) (mCons (mD (mC (.int 4))) (mNil))))) (mCons (mCall fTupZ (mCons (mD (mFz (mLc (mIter (mFz (mCallN fSorted (mCons (mLoc 5) (mNil))))) [9] (gmName 9) (mYes) (ce__law_ant_2)))) (mNil))) (mNil)))))))))
def m__law_ant : MS :=
  mSeq (st__law_ant_1) (mSeq (st__law_ant_2) (mSeq (mSet 5 (mNewT)) (mSeq (st__law_ant_4) (mSeq (st__law_ant_5) (mSeq (st__law_ant_6) (mSkip))))))
def run__law_ant : Fn := fnRun 2 10 [0] (m__law_ant)
theorem sc__law_ant : FnScope ["cup", "most", "rule", "high", "wide", "paint", "turn", "cell", "colour", "one"] ["cup", "most"] (defScope s__law_ant) := ⟨rfl, rfl, rfl, by decide +kernel, rfl, by decide +kernel, by decide +kernel⟩
theorem ok__law_ant (T : Txt K mg C) : FnV P w K mg base "_law_ant" 3 ["cup", "most"] run__law_ant := by
  refine T.d__law_ant.ok sc__law_ant rfl (by decide) fun f cdv A outer s H E hr => ?_
  have hu := hr.units
  have hN := sc__law_ant.nd
  exact (vss_cons (sSet 2 (vn_of (ve_mtr PySem.F.plainAttrs_str PySem.F.slot_str_join PySem.F.type_str_join mt_join mt_joinS (vo_d ve_str) (ves_cons (ve_fz (lcV [("colour", 8)] (rng1 T.n_range (ves_cons (ve_bin op_addAll os_add (vo_d ve_int) (vo_d (ve_fz (callU (ok__law_roll T) (hr.mono (by decide)) (va_cons (oN 0) (va_cons (vo_d (ve_fz (callU (ok__law_some T) (hr.mono (by decide)) (va_cons (oN 0) (va_cons (vo_d (ve_fz (vn_lst (ves_cons ve_int (ves_cons ve_int (ves_cons ve_int ves_nil)))))) va_nil))))) va_nil)))))) ves_nil)) (fun _ _ _ _ _ => (gL 8)) (fun _ _ _ _ _ => vts_nil) (fun _ _ _ _ _ => (ve_fz (callU (ok__law_some T) (hr.mono (by decide)) (va_cons (oN 0) (va_cons (vo_d (ve_fz (vn_lst (ves_cons ve_str (ves_cons ve_str ves_nil))))) va_nil))))))) ves_nil)))) (vss_cons (sPar 3 4 (vns_cons (vn_of (ve_bin op_addAll os_add (vo_d ve_int) (vo_d (ve_fz (callU (ok__law_roll T) (hr.mono (by decide)) (va_cons (oN 0) (va_cons (vo_d (vN 1)) va_nil))))))) (vns_cons (vn_of (ve_bin op_addAll os_add (vo_d ve_int) (vo_d (ve_fz (callU (ok__law_roll T) (hr.mono (by decide)) (va_cons (oN 0) (va_cons (vo_d (vN 1)) va_nil))))))) vns_nil))) (vss_cons (sSet 5 vn_dT) (vss_cons (vs_for PassesOwn.never rfl (rng1 T.n_range (ves_cons (ve_fz (callU (ok__law_some T) (hr.mono (by decide)) (va_cons (oN 0) (va_cons (vo_d (ve_fz (vn_lst (ves_cons ve_int (ves_cons ve_int (ves_cons ve_int ves_nil)))))) va_nil)))) ves_nil)) (gN 6) (vss_cons (vs_put hu (ve_bin op_addAll os_add (vo_d ve_int) (vo_d (ve_fz (callU (ok__law_roll T) (hr.mono (by decide)) (va_cons (oN 0) (va_cons (vo_d (ve_bin op_sub os_sub (vo_d (callB call_lenAll cs_len T.n_len boot_len (va_cons (oN 2) va_nil))) (vo_d ve_int))) va_nil)))))) (oN 5) (ve_tup (ves_cons (ve_fz (callU (ok__law_roll T) (hr.mono (by decide)) (va_cons (oN 0) (va_cons (vo_d (vN 3)) va_nil)))) (ves_cons (ve_fz (callU (ok__law_roll T) (hr.mono (by decide)) (va_cons (oN 0) (va_cons (vo_d (vN 4)) va_nil)))) ves_nil)))) vss_nil)) (vss_cons (sSet 7 (vn_of (ve_tup (ves_cons (ve_fz (callU (ok__law_roll T) (hr.mono (by decide)) (va_cons (oN 0) (va_cons (vo_d (vN 3)) va_nil)))) (ves_cons (ve_fz (callU (ok__law_roll T) (hr.mono (by decide)) (va_cons (oN 0) (va_cons (vo_d (vN 4)) va_nil)))) ves_nil))))) (vss_cons (vs_ret (vn_of (ve_tup (ves_cons (vN 2) (ves_cons (vN 3) (ves_cons (vN 4) (ves_cons (vN 7) (ves_cons (ve_fz (callU (ok__law_roll T) (hr.mono (by decide)) (va_cons (oN 0) (va_cons (vo_d ve_int) va_nil)))) (ves_cons (callT call_tupleZ cs_tupZ T.n_tuple boot_tuple (va_cons (vo_d (ve_fz (lcV [("one", 9)] (vi_seq (ve_fz (callBG (call_sortAll rfl hu) cg_sorted T.n_sorted boot_sorted (va_cons (oN 5) va_nil)))) (fun _ _ _ _ _ => (gL 9)) (fun _ _ _ _ _ => vts_nil) (fun _ _ _ _ _ => (ve_tup (ves_cons (vN 9) (ves_cons (ve_at hu (oN 5) (oN 9)) ves_nil))))))) va_nil)) ves_nil))))))))) vss_nil))))))
def m__law_step : MS :=
  mSeq (mAsg (mName 0) (gmTup 6 (gmCons (gmName 1) (gmCons (gmName 2) (gmCons (gmName 3) (gmCons (gmName 4) (gmCons (gmName 5) (gmCons (gmName 6) (gmNil))))))))) (mSeq (mSet 7 (mCallN fDictT (mCons (mD (mFz (mCallN fList (mCons (mLoc 6) (mNil))))) (mNil)))) (mSeq (mSet 8 (mN (mGet2 (mLoc 7) (mName 4) (mC (.int 0))))) (mSeq (mSet 5 (mN (mOp2 dMod (mD (mCall fInt (mCons (mD (mOp2 dAdd (mLoc 5) (mD (mIf (mB (mOp2 dEq (mD (mOp2 dIx (mLoc 1) (mLoc 8))) (mD (mC (.str "r"))))) (mC (.int 1)) (mC (.int 3)))))) (mNil)))) (mD (mC (.int 4)))))) (mSeq (mPut (mOp2 dMod (mD (mCall fInt (mCons (mD (mOp2 dAdd (mLoc 8) (mD (mC (.int 1))))) (mNil)))) (mD (mCall fLen (mCons (mLoc 1) (mNil))))) (mLoc 7) (mName 4)) (mSeq (mAsg (mName 4) (gmTup 2 (gmCons (gmName 9) (gmCons (gmName 10) (gmNil))))) (mSeq (mIfS (mB (mOp2 dIn (mLoc 5) (mD (mTup (mCons (mC (.int 0)) (mCons (mC (.int 2)) (mNil))))))) (mSeq (mSet 9 (mN (mOp2 dMod (mD (mCall fInt (mCons (mD (mOp2 dAdd (mLoc 9) (mD (mIf (mB (mOp2 dEq (mLoc 5) (mD (mC (.int 2))))) (mC (.int 1)) (mUn dNeg (mD (mC (.int 1)))))))) (mNil)))) (mLoc 2)))) (mSkip)) (mSeq (mSet 10 (mN (mOp2 dMod (mD (mCall fInt (mCons (mD (mOp2 dAdd (mLoc 10) (mD (mIf (mB (mOp2 dEq (mLoc 5) (mD (mC (.int 1))))) (mC (.int 1)) (mUn dNeg (mD (mC (.int 1)))))))) (mNil)))) (mLoc 3)))) (mSkip))) (mSeq (mRet (mN (mTup (mCons (mName 1) (mCons (mName 2) (mCons (mName 3) (mCons (mTup (mCons (mName 9) (mCons (mName 10) (mNil)))) (mCons (mName 5) (mCons (mCall fTupZ (mCons (mD (mFz (mLc (mIter (mFz (mCallN fSorted (mCons (mLoc 7) (mNil))))) [11] (gmName 11) (mB (mOp2 dGt (mD (mOp2 dIx (mLoc 7) (mLoc 11))) (mD (mC (.int 0))))) (mTup (mCons (mName 11) (mCons (mOp2 dIx (mLoc 7) (mLoc 11)) (mNil))))))) (mNil))) (mNil)))))))))) (mSkip))))))))
def run__law_step : Fn := fnRun 1 12 [] (m__law_step)
theorem sc__law_step : FnScope ["ant", "rule", "high", "wide", "cell", "heading", "pairs", "paint", "colour", "row", "column", "one"] ["ant"] (defScope s__law_step) := ⟨rfl, rfl, rfl, by decide +kernel, rfl, by decide +kernel, by decide +kernel⟩
theorem ok__law_step (T : Txt K mg C) : FnV P w K mg base "_law_step" 1 ["ant"] run__law_step := by
  refine T.d__law_step.ok sc__law_step rfl (by decide) fun f cdv A outer s H E hr => ?_
  have hu := hr.units
  have hN := sc__law_step.nd
  exact (vss_cons (vs_asg (vN 0) (vg_tup rfl (vgs_cons (gN 1) (vgs_cons (gN 2) (vgs_cons (gN 3) (vgs_cons (gN 4) (vgs_cons (gN 5) (vgs_cons (gN 6) vgs_nil)))))))) (vss_cons (sSet 7 (callTG (call_dictT rfl hu) cg_dictT T.n_dict boot_dict (va_cons (vo_d (ve_fz (callTN call_list_of cn_list T.n_list boot_list (va_cons (oN 6) va_nil)))) va_nil))) (vss_cons (sSet 8 (vn_of (ve_get2 hu (oN 7) (vN 4) ve_int ⟨rfl, rfl, rfl, rfl⟩))) (vss_cons (sSet 5 (vn_of (ve_bin op_mod os_mod (vo_d (callT call_int1 cs_int T.n_int boot_int (va_cons (vo_d (ve_bin op_addAll os_add (oN 5) (vo_d (ve_if (vt_cmp (op_eqP hu) os_eq (vo_d (ve_at hu (oN 1) (oN 8))) (vo_d ve_str)) ve_int ve_int)))) va_nil))) (vo_d ve_int)))) (vss_cons (vs_put hu (ve_bin op_mod os_mod (vo_d (callT call_int1 cs_int T.n_int boot_int (va_cons (vo_d (ve_bin op_addAll os_add (oN 8) (vo_d ve_int))) va_nil))) (vo_d (callB call_lenAll cs_len T.n_len boot_len (va_cons (oN 1) va_nil)))) (oN 7) (vN 4)) (vss_cons (vs_asg (vN 4) (vg_tup rfl (vgs_cons (gN 9) (vgs_cons (gN 10) vgs_nil)))) (vss_cons (vs_if (vt_cmp (op_inAll hu) os_in (oN 5) (vo_d (ve_tup (ves_cons ve_int (ves_cons ve_int ves_nil))))) (vss_cons (sSet 9 (vn_of (ve_bin op_mod os_mod (vo_d (callT call_int1 cs_int T.n_int boot_int (va_cons (vo_d (ve_bin op_addAll os_add (oN 9) (vo_d (ve_if (vt_cmp (op_eqP hu) os_eq (oN 5) (vo_d ve_int)) ve_int (ve_neg (vo_d ve_int)))))) va_nil))) (oN 2)))) vss_nil) (vss_cons (sSet 10 (vn_of (ve_bin op_mod os_mod (vo_d (callT call_int1 cs_int T.n_int boot_int (va_cons (vo_d (ve_bin op_addAll os_add (oN 10) (vo_d (ve_if (vt_cmp (op_eqP hu) os_eq (oN 5) (vo_d ve_int)) ve_int (ve_neg (vo_d ve_int)))))) va_nil))) (oN 3)))) vss_nil)) (vss_cons (vs_ret (vn_of (ve_tup (ves_cons (vN 1) (ves_cons (vN 2) (ves_cons (vN 3) (ves_cons (ve_tup (ves_cons (vN 9) (ves_cons (vN 10) ves_nil))) (ves_cons (vN 5) (ves_cons (callT call_tupleZ cs_tupZ T.n_tuple boot_tuple (va_cons (vo_d (ve_fz (lcV [("one", 11)] (vi_seq (ve_fz (callBG (call_sortAll rfl hu) cg_sorted T.n_sorted boot_sorted (va_cons (oN 7) va_nil)))) (fun _ _ _ _ _ => (gL 11)) (fun _ _ _ _ _ => (vts_one (vt_cmp (op_gtAll hu) os_ord (vo_d (ve_at hu (oN 7) (oN 11))) (vo_d ve_int)))) (fun _ _ _ _ _ => (ve_tup (ves_cons (vN 11) (ves_cons (ve_at hu (oN 7) (oN 11)) ves_nil))))))) va_nil)) ves_nil))))))))) vss_nil))))))))
def st__law_rows_right_1 (C : Addr) : MS := mSet 0 (mN (mTup (mCons (mC (.str "rl")) (mCons (mC (.int 3)) (mCons (mC (.int 3)) (mCons (mTup (mCons (mC (.int 1)) (mCons (mC (.int 1)) (mNil)))) (mCons (mC (.int 0)) (mCons (mTupZ (mNil)) (mNil)))))))))
def st__law_rows_right_2 (C : Addr) : MS := mSet 1 (mN (mTup (mCons (mFz (mCallF (run_visits C) (mCons (mD (mName 0)) (mCons (mD (mC (.int 2))) (mNil))))) (mCons (mFz (mCallF (run_turned_round C) (mCons (mD (mTup (mCons (mC (.str "rl")) (mCons (mC (.int 3)) (mCons (mC (.int 3)) (mCons (mTup (mCons (mC (.int 1)) (mCons (mC (.int 2)) (mNil)))) (mCons (mC (.int 1)) (mCons (mTupZ (mCons (mTup (mCons (mTup (mCons (mC (.int 1)) (mCons (mC (.int 1)) (mNil)))) (mCons (mC (.int 1)) (mNil)))) (mNil))) (mNil))))))))) (mNil)))) (mNil)))))
def st__law_rows_right_3 (C : Addr) : MS := mRet (mCallF (run__law_same 12) (mCons (mD (mName 1)) (mCons (mD (mTup (mCons (mTup (mCons (mTup (mCons (mTup (mCons (mC (.int 1)) (mCons (mC (.int 1)) (mNil)))) (mCons (mC (.int 1)) (mNil)))) (mCons (mTup (mCons (mTup (mCons (mC (.int 1)) (mCons (mC (.int 2)) (mNil)))) (mCons (mC (.int 1)) (mNil)))) (mNil)))) (mCons (mTup (mCons (mC (.str "rl")) (mCons (mC (.int 3)) (mCons (mC (.int 3)) (mCons (mTup (mCons (mC (.int 1)) (mCons (mC (.int 1)) (mNil)))) (mCons (mC (.int 3)) (mCons (mTup (mCons (mTup (mCons (mTup (mCons (mC (.int 1)) (mCons (mC (.int 1)) (mNil)))) (mCons (mC (.int 1)) (mNil)))) (mNil))) (mNil)))))))) (mNil))))) (mNil))))
def m__law_rows_right (C : Addr) : MS :=
  mSeq (st__law_rows_right_1 C) (mSeq (st__law_rows_right_2 C) (mSeq (st__law_rows_right_3 C) (mSkip)))
def run__law_rows_right (C : Addr) : Fn := fnRun 0 2 [] (m__law_rows_right C)
theorem sc__law_rows_right : FnScope ["ant", "told"] [] (defScope s__law_rows_right) := ⟨rfl, rfl, rfl, by decide +kernel, rfl, by decide +kernel, by decide +kernel⟩
theorem ok__law_rows_right (T : Txt K mg C) : FnV P w K mg base "_law_rows_right" 13 [] (run__law_rows_right C) := by
  refine T.d__law_rows_right.ok sc__law_rows_right rfl (by decide) fun f cdv A outer s H E hr => ?_
  have hu := hr.units
  have hN := sc__law_rows_right.nd
  exact (vss_cons (sSet 0 (vn_of (ve_tup (ves_cons ve_str (ves_cons ve_int (ves_cons ve_int (ves_cons (ve_tup (ves_cons ve_int (ves_cons ve_int ves_nil))) (ves_cons ve_int (ves_cons (ve_tupZ ves_nil) ves_nil))))))))) (vss_cons (sSet 1 (vn_of (ve_tup (ves_cons (ve_fz (callU (ok_visits T) (hr.mono (by decide)) (va_cons (vo_d (vN 0)) (va_cons (vo_d ve_int) va_nil)))) (ves_cons (ve_fz (callU (ok_turned_round T) (hr.mono (by decide)) (va_cons (vo_d (ve_tup (ves_cons ve_str (ves_cons ve_int (ves_cons ve_int (ves_cons (ve_tup (ves_cons ve_int (ves_cons ve_int ves_nil))) (ves_cons ve_int (ves_cons (ve_tupZ (ves_cons (ve_tup (ves_cons (ve_tup (ves_cons ve_int (ves_cons ve_int ves_nil))) (ves_cons ve_int ves_nil))) ves_nil)) ves_nil)))))))) va_nil))) ves_nil))))) (vss_cons (vs_ret (callU (ok__law_same T 12) (hr.mono (by decide)) (va_cons (vo_d (vN 1)) (va_cons (vo_d (ve_tup (ves_cons (ve_tup (ves_cons (ve_tup (ves_cons (ve_tup (ves_cons ve_int (ves_cons ve_int ves_nil))) (ves_cons ve_int ves_nil))) (ves_cons (ve_tup (ves_cons (ve_tup (ves_cons ve_int (ves_cons ve_int ves_nil))) (ves_cons ve_int ves_nil))) ves_nil))) (ves_cons (ve_tup (ves_cons ve_str (ves_cons ve_int (ves_cons ve_int (ves_cons (ve_tup (ves_cons ve_int (ves_cons ve_int ves_nil))) (ves_cons ve_int (ves_cons (ve_tup (ves_cons (ve_tup (ves_cons (ve_tup (ves_cons ve_int (ves_cons ve_int ves_nil))) (ves_cons ve_int ves_nil))) ves_nil)) ves_nil))))))) ves_nil)))) va_nil)))) vss_nil)))
def st_law_1 (C : Addr) : MS := mIfS (mNot (mB (mFz (mCallF (run__law_rows_right C) mNil)))) (mSeq (mRet (mN (mC (.bl false)))) (mSkip)) (mSkip)
def st_law_2 (C : Addr) : MS := mPar2 3 4 (mCons (mN (mFz (mCallF run__law_ant (mCons (mLoc 1) (mCons (mD (mFz (mCallF run__law_some (mCons (mLoc 1) (mCons (mD (mFz (mLst (mCons (mC (.int 2)) (mCons (mC (.int 5)) (mCons (mC (.int 12)) (mNil))))))) (mNil)))))) (mNil)))))) (mCons (mN (mFz (mCallF run__law_some (mCons (mLoc 1) (mCons (mD (mFz (mLst (mCons (mC (.int 0)) (mCons (mC (.int 1)) (mCons (mFz (mCallF run__law_roll (mCons (mLoc 1) (mCons (mD (mC (.int 60))) (mNil))))) (mNil))))))) (mNil)))))) (mNil)))
def st_law_3 (C : Addr) : MS := mDo (mMut "list" dAppend (mLoc 5) (mCons (mFz (mCallF run__law_step (mCons (mD (mOp2 dIx (mLoc 5) (mD (mUn dNeg (mD (mC (.int 1))))))) (mNil)))) (mNil)))
def fb_law_1 (C : Addr) : MS := mSeq (st_law_3 C) (mSkip)
def st_law_4 (C : Addr) : MS := mFor (mOver rangeI1 (mCons (mName 4) (mNil))) (gmName 6) (fb_law_1 C)
def ce_law_1 (C : Addr) : ME D := mOp2 dIx (mLoc 17) (mD (mC (.int 3)))
def st_law_5 (C : Addr) : MS := mSet 7 (mLc (mIter (mTake 5)) [17] (gmName 17) (mYes) (ce_law_1 C))
def st_law_6 (C : Addr) : MS := mPut (mOp2 dAdd (mD (mGet2 (mLoc 8) (mName 9) (mC (.int 0)))) (mD (mC (.int 1)))) (mLoc 8) (mName 9)
def fb_law_2 (C : Addr) : MS := mSeq (st_law_6 C) (mSkip)
def st_law_7 (C : Addr) : MS := mFor (mIter (mCut (mLoc 7) (mPno) (mPo (mName 4)))) (gmName 9) (fb_law_2 C)
def ct_law_1 (C : Addr) : ME Bool := mB (mOp2 dNotIn (mD (mTup (mCons (mName 11) (mCons (mName 18) (mNil))))) (mLoc 8))
def ce_law_2 (C : Addr) : ME D := mTup (mCons (mName 11) (mCons (mName 18) (mNil)))
def st_law_8 (C : Addr) : MS := mSet 10 (mN (mOp2 dAdd (mLoc 10) (mD (mFz (mLc (mOver rangeI1 (mCons (mOp2 dIx (mLoc 3) (mD (mC (.int 2)))) (mNil))) [18] (gmName 18) (ct_law_1 C) (ce_law_2 C))))))
def fb_law_3 (C : Addr) : MS := mSeq (st_law_8 C) (mSkip)
def st_law_9 (C : Addr) : MS := mFor (mOver rangeI1 (mCons (mOp2 dIx (mLoc 3) (mD (mC (.int 1)))) (mNil))) (gmName 11) (fb_law_3 C)
def ct_law_2 (C : Addr) : ME Bool := mB (mOp2 dEq (mD (mOp2 dMod (mD (mCall fInt (mCons (mD (mOp2 dSub (mD (mOp2 dIx (mLoc 19) (mD (mC (.int 4))))) (mD (mOp2 dIx (mLoc 17) (mD (mC (.int 4))))))) (mNil)))) (mD (mC (.int 4))))) (mD (mC (.int 1))))
def st_law_10 (C : Addr) : MS := mSet 12 (mN (mCall fLen (mCons (mD (mFz (mLc (mOver zipI (mCons (mTake 5) (mCons (mCut (mLoc 5) (mPo (mC (.int 1))) (mPno)) (mNil)))) [17, 19] (gmTup 2 (gmCons (gmName 17) (gmCons (gmName 19) (gmNil)))) (ct_law_2 C) (mC (.int 1))))) (mNil))))
def st_law_11 (C : Addr) : MS := mSet 13 (mN (mTup (mCons (mFz (mCallF (run_trail C) (mCons (mD (mName 3)) (mCons (mD (mName 4)) (mNil))))) (mCons (mFz (mCallF (run_visits C) (mCons (mD (mName 3)) (mCons (mD (mName 4)) (mNil))))) (mCons (mFz (mCallF (run_not_gone_from C) (mCons (mD (mName 3)) (mCons (mD (mName 4)) (mNil))))) (mCons (mFz (mCallF (run_turns_taken C) (mCons (mD (mName 3)) (mCons (mD (mName 4)) (mNil))))) (mNil)))))))
def ce_law_3 (C : Addr) : ME D := mTup (mCons (mName 9) (mCons (mOp2 dIx (mLoc 8) (mLoc 9)) (mNil)))
def st_law_12 (C : Addr) : MS := mSet 14 (mN (mTup (mCons (mCall fTupZ (mCons (mLoc 7) (mNil))) (mCons (mCall fTupZ (mCons (mD (mFz (mLc (mIter (mFz (mCallN fSorted (mCons (mLoc 8) (mNil))))) [9] (gmName 9) (mYes) (ce_law_3 C)))) (mNil))) (mCons (mCall fTupZ (mCons (mLoc 10) (mNil))) (mCons (mTup (mCons (mOp2 dSub (mLoc 4) (mLoc 12)) (mCons (mName 12) (mNil)))) (mNil)))))))
def st_law_13 (C : Addr) : MS := mIfS (mNot (mB (mFz (mCallF (run__law_same 12) (mCons (mD (mName 13)) (mCons (mD (mName 14)) (mNil))))))) (mSeq (mRet (mN (mC (.bl false)))) (mSkip)) (mSkip)
def st_law_14 (C : Addr) : MS := mSet 15 (mN (mFz (mCallF (run_turned_round C) (mCons (mD (mOp2 dIx (mLoc 5) (mD (mUn dNeg (mD (mC (.int 1))))))) (mNil)))))
def st_law_15 (C : Addr) : MS := mIfS (mB (mOp2 dNe (mD (mOp2 dIs (mLoc 15) (mD (mC .non)))) (mD (mOp2 dNotIn (mD (mOp2 dIx (mLoc 3) (mD (mC (.int 0))))) (mD (mTup (mCons (mC (.str "lr")) (mCons (mC (.str "rl")) (mNil))))))))) (mSeq (mRet (mN (mC (.bl false)))) (mSkip)) (mSkip)
def st_law_16 (C : Addr) : MS := mIfS (mOr (mNot (mB (mFz (mCallF (run__law_same 12) (mCons (mD (mFz (mCallF (run_ant_after C) (mCons (mD (mName 15)) (mCons (mD (mName 4)) (mNil)))))) (mCons (mD (mFz (mCallF (run_turned_round C) (mCons (mD (mName 3)) (mNil))))) (mNil))))))) (mB (mOp2 dNe (mD (mFz (mCallF (run_turned_round C) (mCons (mD (mName 15)) (mNil))))) (mD (mOp2 dIx (mLoc 5) (mD (mUn dNeg (mD (mC (.int 1)))))))))) (mSeq (mRet (mN (mC (.bl false)))) (mSkip)) (mSkip)
def st_law_17 (C : Addr) : MS := mIfS (mAnd (mB (mOp2 dGt (mLoc 4) (mD (mC (.int 0))))) (mB (mOp2 dNe (mD (mFz (mCallF (run_trail C) (mCons (mD (mName 15)) (mCons (mD (mOp2 dSub (mLoc 4) (mD (mC (.int 1))))) (mNil)))))) (mD (mCall fTupZ (mCons (mD (mUn dRev (mD (mCut (mLoc 7) (mPno) (mPo (mName 4)))))) (mNil))))))) (mSeq (mRet (mN (mC (.bl false)))) (mSkip)) (mSkip)
def st_law_18 (C : Addr) : MS := mIfS (mB (mOp2 dIsNot (mLoc 15) (mD (mC .non)))) (mSeq (st_law_16 C) (mSeq (st_law_17 C) (mSkip))) (mSkip)
def fb_law_4 (C : Addr) : MS := mSeq (st_law_2 C) (mSeq (mSet 5 (mLst (mCons (mName 3) (mNil)))) (mSeq (st_law_4 C) (mSeq (st_law_5 C) (mSeq (mSet 8 (mNewT)) (mSeq (st_law_7 C) (mSeq (mSet 10 (mN (mFz (mLst (mNil))))) (mSeq (st_law_9 C) (mSeq (st_law_10 C) (mSeq (st_law_11 C) (mSeq (st_law_12 C) (mSeq (st_law_13 C) (mSeq (st_law_14 C) (mSeq (st_law_15 C) (mSeq (st_law_18 C) (mSkip)))))))))))))))
def st_law_19 (C : Addr) : MS := mFor (mOver rangeI1 (mCons (mC (.int 5)) (mNil))) (gmName 2) (fb_law_4 C)
def st_law_20 (C : Addr) : MS := mSet 3 (mN (mTup (mCons (mC (.str "rl")) (mCons (mC (.int 20)) (mCons (mC (.int 20)) (mCons (mTup (mCons (mC (.int 9)) (mCons (mC (.int 9)) (mNil)))) (mCons (mC (.int 0)) (mCons (mTupZ (mNil)) (mNil)))))))))
def st_law_21 (C : Addr) : MS := mSet 16 (mN (mFz (mCallF (run_ant_after C) (mCons (mD (mName 3)) (mCons (mD (mC (.int 5000))) (mNil))))))
def st_law_22 (C : Addr) : MS := mSet 13 (mN (mTup (mCons (mCall fLen (mCons (mD (mFz (mCallF (run_trail C) (mCons (mD (mName 3)) (mCons (mD (mC (.int 5000))) (mNil)))))) (mNil))) (mCons (mCall fSum (mCons (mD (mFz (mLc (mIter (mFz (mCallF (run_visits C) (mCons (mD (mName 3)) (mCons (mD (mC (.int 5000))) (mNil)))))) [9, 20] (gmTup 2 (gmCons (gmName 9) (gmCons (gmName 20) (gmNil)))) (mYes) (mName 20)))) (mNil))) (mCons (mOp2 dEq (mD (mFz (mCallF (run_ant_after C) (mCons (mD (mName 16)) (mCons (mD (mUn dNeg (mD (mC (.int 5000))))) (mNil)))))) (mLoc 3)) (mCons (mOp2 dEq (mD (mOp2 dIx (mD (mFz (mCallF (run_trail C) (mCons (mD (mName 3)) (mCons (mD (mC (.int 5000))) (mNil)))))) (mD (mUn dNeg (mD (mC (.int 1))))))) (mD (mOp2 dIx (mLoc 16) (mD (mC (.int 3)))))) (mNil)))))))
def st_law_23 (C : Addr) : MS := mRet (mCallF (run__law_same 12) (mCons (mD (mName 13)) (mCons (mD (mTup (mCons (mC (.int 5001)) (mCons (mC (.int 5000)) (mCons (mC (.bl true)) (mCons (mC (.bl true)) (mNil))))))) (mNil))))
def m_law (C : Addr) : MS :=
  mSeq (mSet 1 (mCallF run__law_cup (mCons (mD (mName 0)) (mNil)))) (mSeq (st_law_1 C) (mSeq (st_law_19 C) (mSeq (st_law_20 C) (mSeq (st_law_21 C) (mSeq (st_law_22 C) (mSeq (st_law_23 C) (mSkip)))))))
def run_law (C : Addr) : Fn := fnRun 1 21 [] (m_law C)
theorem sc_law : FnScope ["script", "cup", "turn", "ant", "many", "line", "step", "cells", "counts", "cell", "rest", "row", "right", "told", "due", "back", "far", "one", "column", "other", "times"] ["script"] (defScope s_law) := ⟨rfl, rfl, rfl, by decide +kernel, rfl, by decide +kernel, by decide +kernel⟩
theorem ok_law (T : Txt K mg C) {f : Addr} {fd : FuncData} (F : Fun K "law" "law" s_law f fd) : FnOk P w K mg base CX0 14 f fd ["script"] (spF K (run_law C)) :=
  okV F sc_law rfl (by decide) fun cdv A outer s H E hr => by
    have hu := hr.units
    have hN := sc_law.nd
    exact (vss_cons (sSet 1 (callU (ok__law_cup T) (hr.mono (by decide)) (va_cons (vo_d (vN 0)) va_nil))) (vss_cons (vs_if (vt_not (vt_val (ve_fz (callU0 (ok__law_rows_right T) (hr.mono (by decide)))))) (vss_cons (vs_ret (vn_of ve_bl)) vss_nil) vss_nil) (vss_cons (vs_for PassesOwn.never rfl (rng1 T.n_range (ves_cons ve_int ves_nil)) (gN 2) (vss_cons (sPar 3 4 (vns_cons (vn_of (ve_fz (callU (ok__law_ant T) (hr.mono (by decide)) (va_cons (oN 1) (va_cons (vo_d (ve_fz (callU (ok__law_some T) (hr.mono (by decide)) (va_cons (oN 1) (va_cons (vo_d (ve_fz (vn_lst (ves_cons ve_int (ves_cons ve_int (ves_cons ve_int ves_nil)))))) va_nil))))) va_nil))))) (vns_cons (vn_of (ve_fz (callU (ok__law_some T) (hr.mono (by decide)) (va_cons (oN 1) (va_cons (vo_d (ve_fz (vn_lst (ves_cons ve_int (ves_cons ve_int (ves_cons (ve_fz (callU (ok__law_roll T) (hr.mono (by decide)) (va_cons (oN 1) (va_cons (vo_d ve_int) va_nil)))) ves_nil)))))) va_nil))))) vns_nil))) (vss_cons (sSet 5 (vn_lst (ves_cons (vN 3) ves_nil))) (vss_cons (vs_for PassesOwn.never rfl (rng1 T.n_range (ves_cons (vN 4) ves_nil)) (gN 6) (vss_cons (vs_expr (ve_mut PySem.F.plainAttrs_list PySem.F.slot_list_append PySem.F.type_list_append mt_append ms_append (oN 5) (ves_cons (ve_fz (callU (ok__law_step T) (hr.mono (by decide)) (va_cons (vo_d (ve_at hu (oN 5) (vo_d (ve_neg (vo_d ve_int))))) va_nil))) ves_nil))) vss_nil)) (vss_cons (sLc 7 [("one", 17)] (vi_seq (takeN 5)) (fun _ _ _ _ _ => (gL 17)) (fun _ _ _ _ _ => vts_nil) (fun _ _ _ _ _ => (ve_at hu (oN 17) (vo_d ve_int)))) (vss_cons (sSet 8 vn_dT) (vss_cons (vs_for PassesOwn.never rfl (vi_seq (ve_cut (oN 7) vp_no (vp_of (vN 4)))) (gN 9) (vss_cons (vs_put hu (ve_bin op_addAll os_add (vo_d (ve_get2 hu (oN 8) (vN 9) ve_int ⟨rfl, rfl, rfl, rfl⟩)) (vo_d ve_int)) (oN 8) (vN 9)) vss_nil)) (vss_cons (sSet 10 (vn_of (ve_fz (vn_lst ves_nil)))) (vss_cons (vs_for PassesOwn.never rfl (rng1 T.n_range (ves_cons (ve_at hu (oN 3) (vo_d ve_int)) ves_nil)) (gN 11) (vss_cons (sSet 10 (vn_of (ve_bin op_addAll os_add (oN 10) (vo_d (ve_fz (lcV [("column", 18)] (rng1 T.n_range (ves_cons (ve_at hu (oN 3) (vo_d ve_int)) ves_nil)) (fun _ _ _ _ _ => (gL 18)) (fun _ _ _ _ _ => (vts_one (vt_cmp (op_notInAll hu) os_in (vo_d (ve_tup (ves_cons (vN 11) (ves_cons (vN 18) ves_nil)))) (oN 8)))) (fun _ _ _ _ _ => (ve_tup (ves_cons (vN 11) (ves_cons (vN 18) ves_nil)))))))))) vss_nil)) (vss_cons (sSet 12 (vn_of (callB call_lenAll cs_len T.n_len boot_len (va_cons (vo_d (ve_fz (lcV [("one", 17), ("other", 19)] (zipV T.n_zip (ves_cons (takeN 5) (ves_cons (ve_cut (oN 5) (vp_of ve_int) vp_no) ves_nil))) (fun _ _ _ _ _ => (vg_tup rfl (vgs_cons (gL 17) (vgs_cons (gL 19) vgs_nil)))) (fun _ _ _ _ _ => (vts_one (vt_cmp (op_eqP hu) os_eq (vo_d (ve_bin op_mod os_mod (vo_d (callT call_int1 cs_int T.n_int boot_int (va_cons (vo_d (ve_bin op_sub os_sub (vo_d (ve_at hu (oN 19) (vo_d ve_int))) (vo_d (ve_at hu (oN 17) (vo_d ve_int))))) va_nil))) (vo_d ve_int))) (vo_d ve_int)))) (fun _ _ _ _ _ => ve_int)))) va_nil)))) (vss_cons (sSet 13 (vn_of (ve_tup (ves_cons (ve_fz (callU (ok_trail T) (hr.mono (by decide)) (va_cons (vo_d (vN 3)) (va_cons (vo_d (vN 4)) va_nil)))) (ves_cons (ve_fz (callU (ok_visits T) (hr.mono (by decide)) (va_cons (vo_d (vN 3)) (va_cons (vo_d (vN 4)) va_nil)))) (ves_cons (ve_fz (callU (ok_not_gone_from T) (hr.mono (by decide)) (va_cons (vo_d (vN 3)) (va_cons (vo_d (vN 4)) va_nil)))) (ves_cons (ve_fz (callU (ok_turns_taken T) (hr.mono (by decide)) (va_cons (vo_d (vN 3)) (va_cons (vo_d (vN 4)) va_nil)))) ves_nil))))))) (vss_cons (sSet 14 (vn_of (ve_tup (ves_cons (callT call_tupleZ cs_tupZ T.n_tuple boot_tuple (va_cons (oN 7) va_nil)) (ves_cons (callT call_tupleZ cs_tupZ T.n_tuple boot_tuple (va_cons (vo_d (ve_fz (lcV [("cell", 9)] (vi_seq (ve_fz (callBG (call_sortAll rfl hu) cg_sorted T.n_sorted boot_sorted (va_cons (oN 8) va_nil)))) (fun _ _ _ _ _ => (gL 9)) (fun _ _ _ _ _ => vts_nil) (fun _ _ _ _ _ => (ve_tup (ves_cons (vN 9) (ves_cons (ve_at hu (oN 8) (oN 9)) ves_nil))))))) va_nil)) (ves_cons (callT call_tupleZ cs_tupZ T.n_tuple boot_tuple (va_cons (oN 10) va_nil)) (ves_cons (ve_tup (ves_cons (ve_bin op_sub os_sub (oN 4) (oN 12)) (ves_cons (vN 12) ves_nil))) ves_nil))))))) (vss_cons (vs_if (vt_not (vt_val (ve_fz (callU (ok__law_same T 12) (hr.mono (by decide)) (va_cons (vo_d (vN 13)) (va_cons (vo_d (vN 14)) va_nil)))))) (vss_cons (vs_ret (vn_of ve_bl)) vss_nil) vss_nil) (vss_cons (sSet 15 (vn_of (ve_fz (callU (ok_turned_round T) (hr.mono (by decide)) (va_cons (vo_d (ve_at hu (oN 5) (vo_d (ve_neg (vo_d ve_int))))) va_nil))))) (vss_cons (vs_if (vt_cmp (op_neP hu) os_ne (vo_d (ve_cmp op_isG os_is (oN 15) (vo_d ve_non))) (vo_d (ve_cmp (op_notInAll hu) os_in (vo_d (ve_at hu (oN 3) (vo_d ve_int))) (vo_d (ve_tup (ves_cons ve_str (ves_cons ve_str ves_nil))))))) (vss_cons (vs_ret (vn_of ve_bl)) vss_nil) vss_nil) (vss_cons (vs_if (vt_cmp op_isNotG os_isNot (oN 15) (vo_d ve_non)) (vss_cons (vs_if (vt_w (vw_or (vt_not (vt_val (ve_fz (callU (ok__law_same T 12) (hr.mono (by decide)) (va_cons (vo_d (ve_fz (callU (ok_ant_after T) (hr.mono (by decide)) (va_cons (vo_d (vN 15)) (va_cons (vo_d (vN 4)) va_nil))))) (va_cons (vo_d (ve_fz (callU (ok_turned_round T) (hr.mono (by decide)) (va_cons (vo_d (vN 3)) va_nil)))) va_nil)))))) (vw_or1 (vt_cmp (op_neP hu) os_ne (vo_d (ve_fz (callU (ok_turned_round T) (hr.mono (by decide)) (va_cons (vo_d (vN 15)) va_nil)))) (vo_d (ve_at hu (oN 5) (vo_d (ve_neg (vo_d ve_int))))))))) (vss_cons (vs_ret (vn_of ve_bl)) vss_nil) vss_nil) (vss_cons (vs_if (vt_w (vw_and (vt_cmp (op_gtAll hu) os_ord (oN 4) (vo_d ve_int)) (vw_and1 (vt_cmp (op_neP hu) os_ne (vo_d (ve_fz (callU (ok_trail T) (hr.mono (by decide)) (va_cons (vo_d (vN 15)) (va_cons (vo_d (ve_bin op_sub os_sub (oN 4) (vo_d ve_int))) va_nil))))) (vo_d (callT call_tupleZ cs_tupZ T.n_tuple boot_tuple (va_cons (vo_d (ve_rev (vo_d (ve_cut (oN 7) vp_no (vp_of (vN 4)))))) va_nil))))))) (vss_cons (vs_ret (vn_of ve_bl)) vss_nil) vss_nil) vss_nil)) vss_nil) vss_nil)))))))))))))))) (vss_cons (sSet 3 (vn_of (ve_tup (ves_cons ve_str (ves_cons ve_int (ves_cons ve_int (ves_cons (ve_tup (ves_cons ve_int (ves_cons ve_int ves_nil))) (ves_cons ve_int (ves_cons (ve_tupZ ves_nil) ves_nil))))))))) (vss_cons (sSet 16 (vn_of (ve_fz (callU (ok_ant_after T) (hr.mono (by decide)) (va_cons (vo_d (vN 3)) (va_cons (vo_d ve_int) va_nil)))))) (vss_cons (sSet 13 (vn_of (ve_tup (ves_cons (callB call_lenAll cs_len T.n_len boot_len (va_cons (vo_d (ve_fz (callU (ok_trail T) (hr.mono (by decide)) (va_cons (vo_d (vN 3)) (va_cons (vo_d ve_int) va_nil))))) va_nil)) (ves_cons (callB (cr_sum rfl) cs_sum T.n_sum boot_sum (va_cons (vo_d (ve_fz (lcV [("cell", 9), ("times", 20)] (vi_seq (ve_fz (callU (ok_visits T) (hr.mono (by decide)) (va_cons (vo_d (vN 3)) (va_cons (vo_d ve_int) va_nil))))) (fun _ _ _ _ _ => (vg_tup rfl (vgs_cons (gL 9) (vgs_cons (gL 20) vgs_nil)))) (fun _ _ _ _ _ => vts_nil) (fun _ _ _ _ _ => (vN 20))))) va_nil)) (ves_cons (ve_cmp (op_eqP hu) os_eq (vo_d (ve_fz (callU (ok_ant_after T) (hr.mono (by decide)) (va_cons (vo_d (vN 16)) (va_cons (vo_d (ve_neg (vo_d ve_int))) va_nil))))) (oN 3)) (ves_cons (ve_cmp (op_eqP hu) os_eq (vo_d (ve_at hu (vo_d (ve_fz (callU (ok_trail T) (hr.mono (by decide)) (va_cons (vo_d (vN 3)) (va_cons (vo_d ve_int) va_nil))))) (vo_d (ve_neg (vo_d ve_int))))) (vo_d (ve_at hu (oN 16) (vo_d ve_int)))) ves_nil))))))) (vss_cons (vs_ret (callU (ok__law_same T 12) (hr.mono (by decide)) (va_cons (vo_d (vN 13)) (va_cons (vo_d (ve_tup (ves_cons ve_int (ves_cons ve_int (ves_cons ve_bl (ves_cons ve_bl ves_nil)))))) va_nil)))) vss_nil)))))))
end
end K87
end
section
set_option Elab.async false
set_option linter.all false
set_option maxRecDepth 100000
namespace K87
open PySem PySem.Spec PyProof.Rows L2 VL
set_option maxHeartbeats 4000000
theorem txt_mk {K : PySem.W.Frag} {h : Heap} {mg : Str → Option Value} {C : Addr} (X : K.In h) (G : h.Ns mainGlobals mg) {k3 : Tok} {k4 : Tok} {b2 n2 : Nat} {l2 : Array (Option Value)} {k6 : Tok} {k7 : Tok} {b5 n5 : Nat} {l5 : Array (Option Value)} {k9 : Tok} {k10 : Tok} {b8 n8 : Nat} {l8 : Array (Option Value)} {k12 : Tok} {k13 : Tok} {b11 n11 : Nat} {l11 : Array (Option Value)} {b1 n1 : Nat} {l1 : Array (Option Value)} {t_RULES : Tok} {t_SIDE : Tok} {t_STEPS : Tok} {f0 : Addr} {od0 an0 : Option Addr} {sl0 : Array (Option Value)} {oc0 kV0 dc0 pm0 cd0 ct0 : Value} {f1 : Addr} {od1 an1 : Option Addr} {sl1 : Array (Option Value)} {oc1 kV1 dc1 pm1 cd1 ct1 : Value} {f2 : Addr} {od2 an2 : Option Addr} {sl2 : Array (Option Value)} {oc2 kV2 dc2 pm2 cd2 ct2 : Value} {f3 : Addr} {od3 an3 : Option Addr} {sl3 : Array (Option Value)} {oc3 kV3 dc3 pm3 cd3 ct3 : Value} {f4 : Addr} {od4 an4 : Option Addr} {sl4 : Array (Option Value)} {oc4 kV4 dc4 pm4 cd4 ct4 : Value} {f5 : Addr} {od5 an5 : Option Addr} {sl5 : Array (Option Value)} {oc5 kV5 dc5 pm5 cd5 ct5 : Value} {f6 : Addr} {od6 an6 : Option Addr} {sl6 : Array (Option Value)} {oc6 kV6 dc6 pm6 cd6 ct6 : Value} {f7 : Addr} {od7 an7 : Option Addr} {sl7 : Array (Option Value)} {oc7 kV7 dc7 pm7 cd7 ct7 : Value} {f8 : Addr} {od8 an8 : Option Addr} {sl8 : Array (Option Value)} {oc8 kV8 dc8 pm8 cd8 ct8 : Value} {f9 : Addr} {od9 an9 : Option Addr} {sl9 : Array (Option Value)} {oc9 kV9 dc9 pm9 cd9 ct9 : Value} {f10 : Addr} {od10 an10 : Option Addr} {sl10 : Array (Option Value)} {oc10 kV10 dc10 pm10 cd10 ct10 : Value} {f11 : Addr} {od11 an11 : Option Addr} {sl11 : Array (Option Value)} {oc11 kV11 dc11 pm11 cd11 ct11 : Value} {f12 : Addr} {od12 an12 : Option Addr} {sl12 : Array (Option Value)} {oc12 kV12 dc12 pm12 cd12 ct12 : Value} {f13 : Addr} {od13 an13 : Option Addr} {sl13 : Array (Option Value)} {oc13 kV13 dc13 pm13 cd13 ct13 : Value} {f14 : Addr} {od14 an14 : Option Addr} {sl14 : Array (Option Value)} {oc14 kV14 dc14 pm14 cd14 ct14 : Value} {f15 : Addr} {od15 an15 : Option Addr} {sl15 : Array (Option Value)} {oc15 kV15 dc15 pm15 cd15 ct15 : Value} {f16 : Addr} {od16 an16 : Option Addr} {sl16 : Array (Option Value)} {oc16 kV16 dc16 pm16 cd16 ct16 : Value} {f17 : Addr} {od17 an17 : Option Addr} {sl17 : Array (Option Value)} {oc17 kV17 dc17 pm17 cd17 ct17 : Value} {f18 : Addr} {od18 an18 : Option Addr} {sl18 : Array (Option Value)} {oc18 kV18 dc18 pm18 cd18 ct18 : Value} {f19 : Addr} {od19 an19 : Option Addr} {sl19 : Array (Option Value)} {oc19 kV19 dc19 pm19 cd19 ct19 : Value} {f20 : Addr} {od20 an20 : Option Addr} {sl20 : Array (Option Value)} {oc20 kV20 dc20 pm20 cd20 ct20 : Value} {f21 : Addr} {od21 an21 : Option Addr} {sl21 : Array (Option Value)} {oc21 kV21 dc21 pm21 cd21 ct21 : Value} {f22 : Addr} {od22 an22 : Option Addr} {sl22 : Array (Option Value)} {oc22 kV22 dc22 pm22 cd22 ct22 : Value} {f23 : Addr} {od23 an23 : Option Addr} {sl23 : Array (Option Value)} {oc23 kV23 dc23 pm23 cd23 ct23 : Value} {f24 : Addr} {od24 an24 : Option Addr} {sl24 : Array (Option Value)} {oc24 kV24 dc24 pm24 cd24 ct24 : Value} {f25 : Addr} {od25 an25 : Option Addr} {sl25 : Array (Option Value)} {oc25 kV25 dc25 pm25 cd25 ct25 : Value} {f26 : Addr} {od26 an26 : Option Addr} {sl26 : Array (Option Value)} {oc26 kV26 dc26 pm26 cd26 ct26 : Value} {f27 : Addr} {od27 an27 : Option Addr} {sl27 : Array (Option Value)} {oc27 kV27 dc27 pm27 cd27 ct27 : Value} {f28 : Addr} {od28 an28 : Option Addr} {sl28 : Array (Option Value)} {oc28 kV28 dc28 pm28 cd28 ct28 : Value} {f29 : Addr} {od29 an29 : Option Addr} {sl29 : Array (Option Value)} {oc29 kV29 dc29 pm29 cd29 ct29 : Value}
    (z_abs : PySem.W.nsIn K mainGlobals "abs" = some none)
    (z_all : PySem.W.nsIn K mainGlobals "all" = some none)
    (z_bool : PySem.W.nsIn K mainGlobals "bool" = some none)
    (z_dict : PySem.W.nsIn K mainGlobals "dict" = some none)
    (z_int : PySem.W.nsIn K mainGlobals "int" = some none)
    (z_isinstance : PySem.W.nsIn K mainGlobals "isinstance" = some none)
    (z_len : PySem.W.nsIn K mainGlobals "len" = some none)
    (z_list : PySem.W.nsIn K mainGlobals "list" = some none)
    (z_range : PySem.W.nsIn K mainGlobals "range" = some none)
    (z_sorted : PySem.W.nsIn K mainGlobals "sorted" = some none)
    (z_str : PySem.W.nsIn K mainGlobals "str" = some none)
    (z_sum : PySem.W.nsIn K mainGlobals "sum" = some none)
    (z_tuple : PySem.W.nsIn K mainGlobals "tuple" = some none)
    (z_zip : PySem.W.nsIn K mainGlobals "zip" = some none)
    (g_AHEAD : PySem.W.nsIn K mainGlobals "AHEAD" = some (some (.ref b1)))
    (b1_ : K.lookup b1 = some ⟨.type "list", none, .seq [(.ref b2 : Value), (.ref b5 : Value), (.ref b8 : Value), (.ref b11 : Value)].toArray n1, l1⟩)
    (b2_ : K.lookup b2 = some ⟨.type "tuple", none, .seq [(.int (-1) k3 : Value), (.int (0) k4 : Value)].toArray n2, l2⟩)
    (b5_ : K.lookup b5 = some ⟨.type "tuple", none, .seq [(.int (0) k6 : Value), (.int (1) k7 : Value)].toArray n5, l5⟩)
    (b8_ : K.lookup b8 = some ⟨.type "tuple", none, .seq [(.int (1) k9 : Value), (.int (0) k10 : Value)].toArray n8, l8⟩)
    (b11_ : K.lookup b11 = some ⟨.type "tuple", none, .seq [(.int (0) k12 : Value), (.int (-1) k13 : Value)].toArray n11, l11⟩)
    (g_RULES : PySem.W.nsIn K mainGlobals "RULES" = some (some (.int 6 t_RULES)))
    (g_SIDE : PySem.W.nsIn K mainGlobals "SIDE" = some (some (.int 20 t_SIDE)))
    (g_STEPS : PySem.W.nsIn K mainGlobals "STEPS" = some (some (.int 5000 t_STEPS)))
    (aC : PySem.W.nsIn K mainGlobals "Box" = some (some (.ref C)))
    (pg : PySem.W.plainGet K C Str.empty = true)
    (hd : PySem.W.hasDictIn K C = true)
    (po : PySem.W.plainOver K C = true)
    (sa : PySem.W.findIn K (.ref C) "__setattr__" = some (some (.builtin "object.__setattr__")))
    (mk : PySem.W.makesIn K C = true)
    (kc : PySem.W.keepIn K (.ref C) = true)
    (f_cell : PySem.W.findIn K (.ref C) "cell" = some none)
    (f_heading : PySem.W.findIn K (.ref C) "heading" = some none)
    (f_high : PySem.W.findIn K (.ref C) "high" = some none)
    (f_paint : PySem.W.findIn K (.ref C) "paint" = some none)
    (f_rule : PySem.W.findIn K (.ref C) "rule" = some none)
    (f_wide : PySem.W.findIn K (.ref C) "wide" = some none)
    (a0 : PySem.W.nsIn K mainGlobals "fits_whole" = some (some (.ref f0)))
    (l0 : K.lookup f0 = some ⟨oc0, od0, .func (PySem.W.fnOf "fits_whole" "fits_whole" (defArgs s_fits_whole) (defBody s_fits_whole) (defScope s_fits_whole) .none kV0 dc0 pm0 an0 cd0 ct0), sl0⟩)
    (c0 : PySem.W.codeIn K cd0 "fits_whole" = true)
    (k0_ : PySem.W.keepIn K (.ref f0) = true)
    (a1 : PySem.W.nsIn K mainGlobals "is_tuple_of" = some (some (.ref f1)))
    (l1 : K.lookup f1 = some ⟨oc1, od1, .func (PySem.W.fnOf "is_tuple_of" "is_tuple_of" (defArgs s_is_tuple_of) (defBody s_is_tuple_of) (defScope s_is_tuple_of) .none kV1 dc1 pm1 an1 cd1 ct1), sl1⟩)
    (c1 : PySem.W.codeIn K cd1 "is_tuple_of" = true)
    (k1_ : PySem.W.keepIn K (.ref f1) = true)
    (a2 : PySem.W.nsIn K mainGlobals "fits_rule" = some (some (.ref f2)))
    (l2 : K.lookup f2 = some ⟨oc2, od2, .func (PySem.W.fnOf "fits_rule" "fits_rule" (defArgs s_fits_rule) (defBody s_fits_rule) (defScope s_fits_rule) .none kV2 dc2 pm2 an2 cd2 ct2), sl2⟩)
    (c2 : PySem.W.codeIn K cd2 "fits_rule" = true)
    (k2_ : PySem.W.keepIn K (.ref f2) = true)
    (a3 : PySem.W.nsIn K mainGlobals "fits_place" = some (some (.ref f3)))
    (l3 : K.lookup f3 = some ⟨oc3, od3, .func (PySem.W.fnOf "fits_place" "fits_place" (defArgs s_fits_place) (defBody s_fits_place) (defScope s_fits_place) .none kV3 dc3 pm3 an3 cd3 ct3), sl3⟩)
    (c3 : PySem.W.codeIn K cd3 "fits_place" = true)
    (k3_ : PySem.W.keepIn K (.ref f3) = true)
    (a4 : PySem.W.nsIn K mainGlobals "fits_paint" = some (some (.ref f4)))
    (l4 : K.lookup f4 = some ⟨oc4, od4, .func (PySem.W.fnOf "fits_paint" "fits_paint" (defArgs s_fits_paint) (defBody s_fits_paint) (defScope s_fits_paint) .none kV4 dc4 pm4 an4 cd4 ct4), sl4⟩)
    (c4 : PySem.W.codeIn K cd4 "fits_paint" = true)
    (k4_ : PySem.W.keepIn K (.ref f4) = true)
    (a5 : PySem.W.nsIn K mainGlobals "fits_ant" = some (some (.ref f5)))
    (l5 : K.lookup f5 = some ⟨oc5, od5, .func (PySem.W.fnOf "fits_ant" "fits_ant" (defArgs s_fits_ant) (defBody s_fits_ant) (defScope s_fits_ant) .none kV5 dc5 pm5 an5 cd5 ct5), sl5⟩)
    (c5 : PySem.W.codeIn K cd5 "fits_ant" = true)
    (k5_ : PySem.W.keepIn K (.ref f5) = true)
    (a6 : PySem.W.nsIn K mainGlobals "need_ant" = some (some (.ref f6)))
    (l6 : K.lookup f6 = some ⟨oc6, od6, .func (PySem.W.fnOf "need_ant" "need_ant" (defArgs s_need_ant) (defBody s_need_ant) (defScope s_need_ant) .none kV6 dc6 pm6 an6 cd6 ct6), sl6⟩)
    (c6 : PySem.W.codeIn K cd6 "need_ant" = true)
    (k6_ : PySem.W.keepIn K (.ref f6) = true)
    (a7 : PySem.W.nsIn K mainGlobals "need_many" = some (some (.ref f7)))
    (l7 : K.lookup f7 = some ⟨oc7, od7, .func (PySem.W.fnOf "need_many" "need_many" (defArgs s_need_many) (defBody s_need_many) (defScope s_need_many) .none kV7 dc7 pm7 an7 cd7 ct7), sl7⟩)
    (c7 : PySem.W.codeIn K cd7 "need_many" = true)
    (k7_ : PySem.W.keepIn K (.ref f7) = true)
    (a8 : PySem.W.nsIn K mainGlobals "rest_of" = some (some (.ref f8)))
    (l8 : K.lookup f8 = some ⟨oc8, od8, .func (PySem.W.fnOf "rest_of" "rest_of" (defArgs s_rest_of) (defBody s_rest_of) (defScope s_rest_of) .none kV8 dc8 pm8 an8 cd8 ct8), sl8⟩)
    (c8 : PySem.W.codeIn K cd8 "rest_of" = true)
    (k8_ : PySem.W.keepIn K (.ref f8) = true)
    (a9 : PySem.W.findIn K (.ref C) "__init__" = some (some (.ref f9)))
    (i9 : PySem.W.isFn K (.ref f9) = true)
    (l9 : K.lookup f9 = some ⟨oc9, od9, .func (PySem.W.fnOf "__init__" "Box.__init__" (defArgs s_Box_init) (defBody s_Box_init) (defScope s_Box_init) .none kV9 dc9 pm9 an9 cd9 ct9), sl9⟩)
    (c9 : PySem.W.codeIn K cd9 "Box.__init__" = true)
    (k9_ : PySem.W.keepIn K (.ref f9) = true)
    (a10 : PySem.W.findIn K (.ref C) "move" = some (some (.ref f10)))
    (i10 : PySem.W.isFn K (.ref f10) = true)
    (l10 : K.lookup f10 = some ⟨oc10, od10, .func (PySem.W.fnOf "move" "Box.move" (defArgs s_Box_move) (defBody s_Box_move) (defScope s_Box_move) .none kV10 dc10 pm10 an10 cd10 ct10), sl10⟩)
    (c10 : PySem.W.codeIn K cd10 "Box.move" = true)
    (k10_ : PySem.W.keepIn K (.ref f10) = true)
    (a11 : PySem.W.findIn K (.ref C) "put" = some (some (.ref f11)))
    (i11 : PySem.W.isFn K (.ref f11) = true)
    (l11 : K.lookup f11 = some ⟨oc11, od11, .func (PySem.W.fnOf "put" "Box.put" (defArgs s_Box_put) (defBody s_Box_put) (defScope s_Box_put) .none kV11 dc11 pm11 an11 cd11 ct11), sl11⟩)
    (c11 : PySem.W.codeIn K cd11 "Box.put" = true)
    (k11_ : PySem.W.keepIn K (.ref f11) = true)
    (a12 : PySem.W.findIn K (.ref C) "step" = some (some (.ref f12)))
    (i12 : PySem.W.isFn K (.ref f12) = true)
    (l12 : K.lookup f12 = some ⟨oc12, od12, .func (PySem.W.fnOf "step" "Box.step" (defArgs s_Box_step) (defBody s_Box_step) (defScope s_Box_step) .none kV12 dc12 pm12 an12 cd12 ct12), sl12⟩)
    (c12 : PySem.W.codeIn K cd12 "Box.step" = true)
    (k12_ : PySem.W.keepIn K (.ref f12) = true)
    (a13 : PySem.W.findIn K (.ref C) "back" = some (some (.ref f13)))
    (i13 : PySem.W.isFn K (.ref f13) = true)
    (l13 : K.lookup f13 = some ⟨oc13, od13, .func (PySem.W.fnOf "back" "Box.back" (defArgs s_Box_back) (defBody s_Box_back) (defScope s_Box_back) .none kV13 dc13 pm13 an13 cd13 ct13), sl13⟩)
    (c13 : PySem.W.codeIn K cd13 "Box.back" = true)
    (k13_ : PySem.W.keepIn K (.ref f13) = true)
    (a14 : PySem.W.findIn K (.ref C) "ant" = some (some (.ref f14)))
    (i14 : PySem.W.isFn K (.ref f14) = true)
    (l14 : K.lookup f14 = some ⟨oc14, od14, .func (PySem.W.fnOf "ant" "Box.ant" (defArgs s_Box_ant) (defBody s_Box_ant) (defScope s_Box_ant) .none kV14 dc14 pm14 an14 cd14 ct14), sl14⟩)
    (c14 : PySem.W.codeIn K cd14 "Box.ant" = true)
    (k14_ : PySem.W.keepIn K (.ref f14) = true)
    (a15 : PySem.W.nsIn K mainGlobals "moved_in" = some (some (.ref f15)))
    (l15 : K.lookup f15 = some ⟨oc15, od15, .func (PySem.W.fnOf "moved_in" "moved_in" (defArgs s_moved_in) (defBody s_moved_in) (defScope s_moved_in) .none kV15 dc15 pm15 an15 cd15 ct15), sl15⟩)
    (c15 : PySem.W.codeIn K cd15 "moved_in" = true)
    (k15_ : PySem.W.keepIn K (.ref f15) = true)
    (a16 : PySem.W.nsIn K mainGlobals "ant_after" = some (some (.ref f16)))
    (l16 : K.lookup f16 = some ⟨oc16, od16, .func (PySem.W.fnOf "ant_after" "ant_after" (defArgs s_ant_after) (defBody s_ant_after) (defScope s_ant_after) .none kV16 dc16 pm16 an16 cd16 ct16), sl16⟩)
    (c16 : PySem.W.codeIn K cd16 "ant_after" = true)
    (k16_ : PySem.W.keepIn K (.ref f16) = true)
    (a17 : PySem.W.nsIn K mainGlobals "trail" = some (some (.ref f17)))
    (l17 : K.lookup f17 = some ⟨oc17, od17, .func (PySem.W.fnOf "trail" "trail" (defArgs s_trail) (defBody s_trail) (defScope s_trail) .none kV17 dc17 pm17 an17 cd17 ct17), sl17⟩)
    (c17 : PySem.W.codeIn K cd17 "trail" = true)
    (k17_ : PySem.W.keepIn K (.ref f17) = true)
    (a18 : PySem.W.nsIn K mainGlobals "visits" = some (some (.ref f18)))
    (l18 : K.lookup f18 = some ⟨oc18, od18, .func (PySem.W.fnOf "visits" "visits" (defArgs s_visits) (defBody s_visits) (defScope s_visits) .none kV18 dc18 pm18 an18 cd18 ct18), sl18⟩)
    (c18 : PySem.W.codeIn K cd18 "visits" = true)
    (k18_ : PySem.W.keepIn K (.ref f18) = true)
    (a19 : PySem.W.nsIn K mainGlobals "turns_taken" = some (some (.ref f19)))
    (l19 : K.lookup f19 = some ⟨oc19, od19, .func (PySem.W.fnOf "turns_taken" "turns_taken" (defArgs s_turns_taken) (defBody s_turns_taken) (defScope s_turns_taken) .none kV19 dc19 pm19 an19 cd19 ct19), sl19⟩)
    (c19 : PySem.W.codeIn K cd19 "turns_taken" = true)
    (k19_ : PySem.W.keepIn K (.ref f19) = true)
    (a20 : PySem.W.nsIn K mainGlobals "turned_round" = some (some (.ref f20)))
    (l20 : K.lookup f20 = some ⟨oc20, od20, .func (PySem.W.fnOf "turned_round" "turned_round" (defArgs s_turned_round) (defBody s_turned_round) (defScope s_turned_round) .none kV20 dc20 pm20 an20 cd20 ct20), sl20⟩)
    (c20 : PySem.W.codeIn K cd20 "turned_round" = true)
    (k20_ : PySem.W.keepIn K (.ref f20) = true)
    (a21 : PySem.W.nsIn K mainGlobals "not_gone_from" = some (some (.ref f21)))
    (l21 : K.lookup f21 = some ⟨oc21, od21, .func (PySem.W.fnOf "not_gone_from" "not_gone_from" (defArgs s_not_gone_from) (defBody s_not_gone_from) (defScope s_not_gone_from) .none kV21 dc21 pm21 an21 cd21 ct21), sl21⟩)
    (c21 : PySem.W.codeIn K cd21 "not_gone_from" = true)
    (k21_ : PySem.W.keepIn K (.ref f21) = true)
    (a22 : PySem.W.nsIn K mainGlobals "_law_cup" = some (some (.ref f22)))
    (l22 : K.lookup f22 = some ⟨oc22, od22, .func (PySem.W.fnOf "_law_cup" "_law_cup" (defArgs s__law_cup) (defBody s__law_cup) (defScope s__law_cup) .none kV22 dc22 pm22 an22 cd22 ct22), sl22⟩)
    (c22 : PySem.W.codeIn K cd22 "_law_cup" = true)
    (k22_ : PySem.W.keepIn K (.ref f22) = true)
    (a23 : PySem.W.nsIn K mainGlobals "_law_roll" = some (some (.ref f23)))
    (l23 : K.lookup f23 = some ⟨oc23, od23, .func (PySem.W.fnOf "_law_roll" "_law_roll" (defArgs s__law_roll) (defBody s__law_roll) (defScope s__law_roll) .none kV23 dc23 pm23 an23 cd23 ct23), sl23⟩)
    (c23 : PySem.W.codeIn K cd23 "_law_roll" = true)
    (k23_ : PySem.W.keepIn K (.ref f23) = true)
    (a24 : PySem.W.nsIn K mainGlobals "_law_some" = some (some (.ref f24)))
    (l24 : K.lookup f24 = some ⟨oc24, od24, .func (PySem.W.fnOf "_law_some" "_law_some" (defArgs s__law_some) (defBody s__law_some) (defScope s__law_some) .none kV24 dc24 pm24 an24 cd24 ct24), sl24⟩)
    (c24 : PySem.W.codeIn K cd24 "_law_some" = true)
    (k24_ : PySem.W.keepIn K (.ref f24) = true)
    (a25 : PySem.W.nsIn K mainGlobals "_law_same" = some (some (.ref f25)))
    (l25 : K.lookup f25 = some ⟨oc25, od25, .func (PySem.W.fnOf "_law_same" "_law_same" (defArgs s__law_same) (defBody s__law_same) (defScope s__law_same) .none kV25 dc25 pm25 an25 cd25 ct25), sl25⟩)
    (c25 : PySem.W.codeIn K cd25 "_law_same" = true)
    (k25_ : PySem.W.keepIn K (.ref f25) = true)
    (a26 : PySem.W.nsIn K mainGlobals "_law_ant" = some (some (.ref f26)))
    (l26 : K.lookup f26 = some ⟨oc26, od26, .func (PySem.W.fnOf "_law_ant" "_law_ant" (defArgs s__law_ant) (defBody s__law_ant) (defScope s__law_ant) .none kV26 dc26 pm26 an26 cd26 ct26), sl26⟩)
    (c26 : PySem.W.codeIn K cd26 "_law_ant" = true)
    (k26_ : PySem.W.keepIn K (.ref f26) = true)
    (a27 : PySem.W.nsIn K mainGlobals "_law_step" = some (some (.ref f27)))
    (l27 : K.lookup f27 = some ⟨oc27, od27, .func (PySem.W.fnOf "_law_step" "_law_step" (defArgs s__law_step) (defBody s__law_step) (defScope s__law_step) .none kV27 dc27 pm27 an27 cd27 ct27), sl27⟩)
    (c27 : PySem.W.codeIn K cd27 "_law_step" = true)
    (k27_ : PySem.W.keepIn K (.ref f27) = true)
    (a28 : PySem.W.nsIn K mainGlobals "_law_rows_right" = some (some (.ref f28)))
    (l28 : K.lookup f28 = some ⟨oc28, od28, .func (PySem.W.fnOf "_law_rows_right" "_law_rows_right" (defArgs s__law_rows_right) (defBody s__law_rows_right) (defScope s__law_rows_right) .none kV28 dc28 pm28 an28 cd28 ct28), sl28⟩)
    (c28 : PySem.W.codeIn K cd28 "_law_rows_right" = true)
    (k28_ : PySem.W.keepIn K (.ref f28) = true)
    (a29 : PySem.W.nsIn K mainGlobals "law" = some (some (.ref f29)))
    (l29 : K.lookup f29 = some ⟨oc29, od29, .func (PySem.W.fnOf "law" "law" (defArgs s_law) (defBody s_law) (defScope s_law) .none kV29 dc29 pm29 an29 cd29 ct29), sl29⟩)
    (c29 : PySem.W.codeIn K cd29 "law" = true)
    (k29_ : PySem.W.keepIn K (.ref f29) = true) : Txt K mg C where
  n_abs := PySem.W.mg_none_of X G z_abs
  n_all := PySem.W.mg_none_of X G z_all
  n_bool := PySem.W.mg_none_of X G z_bool
  n_dict := PySem.W.mg_none_of X G z_dict
  n_int := PySem.W.mg_none_of X G z_int
  n_isinstance := PySem.W.mg_none_of X G z_isinstance
  n_len := PySem.W.mg_none_of X G z_len
  n_list := PySem.W.mg_none_of X G z_list
  n_range := PySem.W.mg_none_of X G z_range
  n_sorted := PySem.W.mg_none_of X G z_sorted
  n_str := PySem.W.mg_none_of X G z_str
  n_sum := PySem.W.mg_none_of X G z_sum
  n_tuple := PySem.W.mg_none_of X G z_tuple
  n_zip := PySem.W.mg_none_of X G z_zip
  g_AHEAD := ⟨_, PySem.W.mg_of X G g_AHEAD, fun _ => klst_of b1_ (of_decide_eq_true rfl) (vk_ref (vk_ref (vk_ref (vk_ref .nil)))) (.cons (ktup_of b2_ (of_decide_eq_true rfl) (vk_int (vk_int .nil)) (.cons (.int _) (.cons (.int _) .nil))) (.cons (ktup_of b5_ (of_decide_eq_true rfl) (vk_int (vk_int .nil)) (.cons (.int _) (.cons (.int _) .nil))) (.cons (ktup_of b8_ (of_decide_eq_true rfl) (vk_int (vk_int .nil)) (.cons (.int _) (.cons (.int _) .nil))) (.cons (ktup_of b11_ (of_decide_eq_true rfl) (vk_int (vk_int .nil)) (.cons (.int _) (.cons (.int _) .nil))) .nil))))⟩
  g_RULES := ⟨_, PySem.W.mg_of X G g_RULES⟩
  g_SIDE := ⟨_, PySem.W.mg_of X G g_SIDE⟩
  g_STEPS := ⟨_, PySem.W.mg_of X G g_STEPS⟩
  cl_Box := ⟨pg, hd, po, sa⟩
  f_Box_cell := f_cell
  f_Box_heading := f_heading
  f_Box_high := f_high
  f_Box_paint := f_paint
  f_Box_rule := f_rule
  f_Box_wide := f_wide
  d_fits_whole := ⟨_, _, (fun_mk (st := s_fits_whole) l0 c0 k0_), PySem.W.mg_of X G a0, ((fun_mk (st := s_fits_whole) l0 c0 k0_).binds (ps := ["value", "low", "high"]) fun _ _ _ _ _ _ us hl => match us, hl with | [_, _, _], _ => rfl)⟩
  d_is_tuple_of := ⟨_, _, (fun_mk (st := s_is_tuple_of) l1 c1 k1_), PySem.W.mg_of X G a1, ((fun_mk (st := s_is_tuple_of) l1 c1 k1_).binds (ps := ["value", "least", "most"]) fun _ _ _ _ _ _ us hl => match us, hl with | [_, _, _], _ => rfl)⟩
  d_fits_rule := ⟨_, _, (fun_mk (st := s_fits_rule) l2 c2 k2_), PySem.W.mg_of X G a2, ((fun_mk (st := s_fits_rule) l2 c2 k2_).binds (ps := ["value"]) fun _ _ _ _ _ _ us hl => match us, hl with | [_], _ => rfl)⟩
  d_fits_place := ⟨_, _, (fun_mk (st := s_fits_place) l3 c3 k3_), PySem.W.mg_of X G a3, ((fun_mk (st := s_fits_place) l3 c3 k3_).binds (ps := ["value", "high", "wide"]) fun _ _ _ _ _ _ us hl => match us, hl with | [_, _, _], _ => rfl)⟩
  d_fits_paint := ⟨_, _, (fun_mk (st := s_fits_paint) l4 c4 k4_), PySem.W.mg_of X G a4, ((fun_mk (st := s_fits_paint) l4 c4 k4_).binds (ps := ["value", "high", "wide", "many"]) fun _ _ _ _ _ _ us hl => match us, hl with | [_, _, _, _], _ => rfl)⟩
  d_fits_ant := ⟨_, _, (fun_mk (st := s_fits_ant) l5 c5 k5_), PySem.W.mg_of X G a5, ((fun_mk (st := s_fits_ant) l5 c5 k5_).binds (ps := ["value"]) fun _ _ _ _ _ _ us hl => match us, hl with | [_], _ => rfl)⟩
  d_need_ant := ⟨_, _, (fun_mk (st := s_need_ant) l6 c6 k6_), PySem.W.mg_of X G a6, ((fun_mk (st := s_need_ant) l6 c6 k6_).binds (ps := ["ant"]) fun _ _ _ _ _ _ us hl => match us, hl with | [_], _ => rfl)⟩
  d_need_many := ⟨_, _, (fun_mk (st := s_need_many) l7 c7 k7_), PySem.W.mg_of X G a7, ((fun_mk (st := s_need_many) l7 c7 k7_).binds (ps := ["many", "least", "most"]) fun _ _ _ _ _ _ us hl => match us, hl with | [_, _, _], _ => rfl)⟩
  d_rest_of := ⟨_, _, (fun_mk (st := s_rest_of) l8 c8 k8_), PySem.W.mg_of X G a8, ((fun_mk (st := s_rest_of) l8 c8 k8_).binds (ps := ["number", "whole"]) fun _ _ _ _ _ _ us hl => match us, hl with | [_, _], _ => rfl)⟩
  d_Box_init := ⟨_, _, (fun_mk (st := s_Box_init) l9 c9 k9_), ⟨mk, a9, i9, kc⟩, PySem.W.mg_of X G aC, ((fun_mk (st := s_Box_init) l9 c9 k9_).binds (ps := ["self", "ant"]) fun _ _ _ _ _ _ us hl => match us, hl with | [_, _], _ => rfl)⟩
  d_Box_move := ⟨_, _, (fun_mk (st := s_Box_move) l10 c10 k10_), ⟨a10, i10, k10_⟩, ((fun_mk (st := s_Box_move) l10 c10 k10_).binds (ps := ["self", "many"]) fun _ _ _ _ _ _ us hl => match us, hl with | [_, _], _ => rfl)⟩
  d_Box_put := ⟨_, _, (fun_mk (st := s_Box_put) l11 c11 k11_), ⟨a11, i11, k11_⟩, ((fun_mk (st := s_Box_put) l11 c11 k11_).binds (ps := ["self", "colour"]) fun _ _ _ _ _ _ us hl => match us, hl with | [_, _], _ => rfl)⟩
  d_Box_step := ⟨_, _, (fun_mk (st := s_Box_step) l12 c12 k12_), ⟨a12, i12, k12_⟩, ((fun_mk (st := s_Box_step) l12 c12 k12_).binds (ps := ["self"]) fun _ _ _ _ _ _ us hl => match us, hl with | [_], _ => rfl)⟩
  d_Box_back := ⟨_, _, (fun_mk (st := s_Box_back) l13 c13 k13_), ⟨a13, i13, k13_⟩, ((fun_mk (st := s_Box_back) l13 c13 k13_).binds (ps := ["self"]) fun _ _ _ _ _ _ us hl => match us, hl with | [_], _ => rfl)⟩
  d_Box_ant := ⟨_, _, (fun_mk (st := s_Box_ant) l14 c14 k14_), ⟨a14, i14, k14_⟩, ((fun_mk (st := s_Box_ant) l14 c14 k14_).binds (ps := ["self"]) fun _ _ _ _ _ _ us hl => match us, hl with | [_], _ => rfl)⟩
  d_moved_in := ⟨_, _, (fun_mk (st := s_moved_in) l15 c15 k15_), PySem.W.mg_of X G a15, ((fun_mk (st := s_moved_in) l15 c15 k15_).binds (ps := ["ant", "many"]) fun _ _ _ _ _ _ us hl => match us, hl with | [_, _], _ => rfl)⟩
  d_ant_after := ⟨_, _, (fun_mk (st := s_ant_after) l16 c16 k16_), PySem.W.mg_of X G a16, ((fun_mk (st := s_ant_after) l16 c16 k16_).binds (ps := ["ant", "many"]) fun _ _ _ _ _ _ us hl => match us, hl with | [_, _], _ => rfl)⟩
  d_trail := ⟨_, _, (fun_mk (st := s_trail) l17 c17 k17_), PySem.W.mg_of X G a17, ((fun_mk (st := s_trail) l17 c17 k17_).binds (ps := ["ant", "many"]) fun _ _ _ _ _ _ us hl => match us, hl with | [_, _], _ => rfl)⟩
  d_visits := ⟨_, _, (fun_mk (st := s_visits) l18 c18 k18_), PySem.W.mg_of X G a18, ((fun_mk (st := s_visits) l18 c18 k18_).binds (ps := ["ant", "many"]) fun _ _ _ _ _ _ us hl => match us, hl with | [_, _], _ => rfl)⟩
  d_turns_taken := ⟨_, _, (fun_mk (st := s_turns_taken) l19 c19 k19_), PySem.W.mg_of X G a19, ((fun_mk (st := s_turns_taken) l19 c19 k19_).binds (ps := ["ant", "many"]) fun _ _ _ _ _ _ us hl => match us, hl with | [_, _], _ => rfl)⟩
  d_turned_round := ⟨_, _, (fun_mk (st := s_turned_round) l20 c20 k20_), PySem.W.mg_of X G a20, ((fun_mk (st := s_turned_round) l20 c20 k20_).binds (ps := ["ant"]) fun _ _ _ _ _ _ us hl => match us, hl with | [_], _ => rfl)⟩
  d_not_gone_from := ⟨_, _, (fun_mk (st := s_not_gone_from) l21 c21 k21_), PySem.W.mg_of X G a21, ((fun_mk (st := s_not_gone_from) l21 c21 k21_).binds (ps := ["ant", "many"]) fun _ _ _ _ _ _ us hl => match us, hl with | [_, _], _ => rfl)⟩
  d__law_cup := ⟨_, _, (fun_mk (st := s__law_cup) l22 c22 k22_), PySem.W.mg_of X G a22, ((fun_mk (st := s__law_cup) l22 c22 k22_).binds (ps := ["script"]) fun _ _ _ _ _ _ us hl => match us, hl with | [_], _ => rfl)⟩
  d__law_roll := ⟨_, _, (fun_mk (st := s__law_roll) l23 c23 k23_), PySem.W.mg_of X G a23, ((fun_mk (st := s__law_roll) l23 c23 k23_).binds (ps := ["cup", "many"]) fun _ _ _ _ _ _ us hl => match us, hl with | [_, _], _ => rfl)⟩
  d__law_some := ⟨_, _, (fun_mk (st := s__law_some) l24 c24 k24_), PySem.W.mg_of X G a24, ((fun_mk (st := s__law_some) l24 c24 k24_).binds (ps := ["cup", "things"]) fun _ _ _ _ _ _ us hl => match us, hl with | [_, _], _ => rfl)⟩
  d__law_same := ⟨_, _, (fun_mk (st := s__law_same) l25 c25 k25_), PySem.W.mg_of X G a25, ((fun_mk (st := s__law_same) l25 c25 k25_).binds (ps := ["told", "due"]) fun _ _ _ _ _ _ us hl => match us, hl with | [_, _], _ => rfl)⟩
  d__law_ant := ⟨_, _, (fun_mk (st := s__law_ant) l26 c26 k26_), PySem.W.mg_of X G a26, ((fun_mk (st := s__law_ant) l26 c26 k26_).binds (ps := ["cup", "most"]) fun _ _ _ _ _ _ us hl => match us, hl with | [_, _], _ => rfl)⟩
  d__law_step := ⟨_, _, (fun_mk (st := s__law_step) l27 c27 k27_), PySem.W.mg_of X G a27, ((fun_mk (st := s__law_step) l27 c27 k27_).binds (ps := ["ant"]) fun _ _ _ _ _ _ us hl => match us, hl with | [_], _ => rfl)⟩
  d__law_rows_right := ⟨_, _, (fun_mk (st := s__law_rows_right) l28 c28 k28_), PySem.W.mg_of X G a28, ((fun_mk (st := s__law_rows_right) l28 c28 k28_).binds (ps := []) fun _ _ _ _ _ _ us hl => match us, hl with | [], _ => rfl)⟩
  d_law := ⟨_, _, (fun_mk (st := s_law) l29 c29 k29_), PySem.W.mg_of X G a29, ((fun_mk (st := s_law) l29 c29 k29_).binds (ps := ["script"]) fun _ _ _ _ _ _ us hl => match us, hl with | [_], _ => rfl)⟩
theorem law_mk {l : PySem.W.OpenLaw} {w : World} {K : PySem.W.Frag} {h : Heap} {mg : Str → Option Value} {fa C : Addr} (pl : Plain (run_law C)) (X : K.In h) (G : h.Ns mainGlobals mg) (hfa : mg "law" = some (.ref fa)) (T : Txt K mg C)
    {f : Addr} {od an : Option Addr} {sl : Array (Option Value)} {oc kV dc pm cd ct : Value} (a : PySem.W.nsIn K mainGlobals "law" = some (some (.ref f)))
    (l1 : K.lookup f = some ⟨oc, od, .func (PySem.W.fnOf "law" "law" (defArgs s_law) (defBody s_law) (defScope s_law) .none kV dc pm an cd ct), sl⟩) (c : PySem.W.codeIn K cd "law" = true) (k1 : PySem.W.keepIn K (.ref f) = true) :
    ∃ fd : FuncData, (∀ (s : Shared) (v : Value), BindsTo s fd ⟨[v], []⟩ [("script", v)]) ∧ ∀ base : Heap, K.In base → base.Ns mainGlobals mg → FnOk l.prog w K mg base CX0 14 fa fd ["script"] (spLaw K) := by
  have e := hfa.symm.trans (PySem.W.mg_of X G a)
  cases e
  exact ⟨PySem.W.fnOf "law" "law" (defArgs s_law) (defBody s_law) (defScope s_law) .none kV dc pm an cd ct, fun s v => .of_eq rfl, fun base _ _ => (ok_law T (fun_mk (st := s_law) l1 c k1)).imp (law_imp pl)⟩
end K87
end
section
set_option Elab.async false
set_option linter.all false
set_option maxRecDepth 100000
set_option maxHeartbeats 1000000
set_option autoImplicit false
namespace K87
open PySem PySem.Spec PyProof.Rows L2 VL
def isWhole (d : D) (lo hi : Int) : Bool := match d with
  | .int i => decide (lo ≤ i) && decide (i ≤ hi)
  | _ => false
theorem r_fits_whole {d : D} (h : okT d = true) (lo hi : Int) : run_fits_whole [fr d, fr (.int lo), fr (.int hi)] = some (fr (.bl (isWhole d lo hi)), [none, none, none]) := by
  unfold run_fits_whole fnRun m_fits_whole
  simp -implicitDefEqProofs -dsimp only [e_seq, e_skip, e_never, e_ret, e_n, e_c, e_d, e_do, e_nil, e_cons, e_op2, e_un, e_chain, e_b, e_not, e_and, e_or, e_andV, e_orV, e_notV, e_if, e_ifS, e_call, e_callN, e_callF, e_fz, e_tup, e_tupZ, e_lst, e_set, e_asg, e_put, e_get2, e_mut, e_mtr, e_for, e_iter, e_over, e_lc, e_yes, e_pno, e_po, e_cut, e_par2, e_par3, e_catN, e_newT, e_name, e_loc, e_take, e_move, e_gname, c_d, c_loc, k_loc, cs_nil', cs_cons', fz_fro, fz_lst, fz_dT, bnd_some, bnd_none, Option.bind_some, Option.bind_none, Option.map_some, Option.map_none, List.getElem?_cons_zero, List.getElem?_cons_succ, List.length_cons, List.length_nil, if_true, List.map_cons, List.map_nil, Nat.reduceSub, List.replicate_zero, List.replicate_succ, List.append_nil, List.cons_append, List.nil_append, List.set_cons_zero, List.set_cons_succ, Nat.reduceAdd, Nat.reduceLT, Nat.reduceLeDiff, argsO_nil, argsO_d, argsO_loc, locs_nil, locs_d, locs_loc, nodup_nil', nodup_one, backE_nil, backE_d, backE_loc, wipeE_nil, wipeE_cons, calmE_nil, calmE_none, restE_nil, restE_cons, keep_0, keep_1, keep_2, keep_3, keep_4, own_lst, own_dT, own_fro, ite_true', ite_false', reduceIte, Bool.not_true, Bool.not_false, Bool.false_eq_true, Option.join_some, List.head?_cons, List.tail_cons, set_loc, Option.getD_some, Option.getD_none, and_self, and_true, true_and, List.lookup, fr, Bool.true_and, Bool.false_and, Bool.and_true, Bool.and_false, Bool.and_self, Bool.true_or, Bool.false_or, Bool.or_true, Bool.or_false, e_fld, e_fldO, e_fldSet, e_gmFld, e_gmNil, e_gmCons, e_gmTup, e_gmKtup, e_meth, e_make, e_methT, c_fld, k_fld, set_fld, eq_self, cond_true, cond_false, true_or, or_true, false_or, or_false, isi_int h, isi_bool h]
  cases d <;> simp -implicitDefEqProofs -dsimp only [e_seq, e_skip, e_never, e_ret, e_n, e_c, e_d, e_do, e_nil, e_cons, e_op2, e_un, e_chain, e_b, e_not, e_and, e_or, e_andV, e_orV, e_notV, e_if, e_ifS, e_call, e_callN, e_callF, e_fz, e_tup, e_tupZ, e_lst, e_set, e_asg, e_put, e_get2, e_mut, e_mtr, e_for, e_iter, e_over, e_lc, e_yes, e_pno, e_po, e_cut, e_par2, e_par3, e_catN, e_newT, e_name, e_loc, e_take, e_move, e_gname, c_d, c_loc, k_loc, cs_nil', cs_cons', fz_fro, fz_lst, fz_dT, bnd_some, bnd_none, Option.bind_some, Option.bind_none, Option.map_some, Option.map_none, List.getElem?_cons_zero, List.getElem?_cons_succ, List.length_cons, List.length_nil, if_true, List.map_cons, List.map_nil, Nat.reduceSub, List.replicate_zero, List.replicate_succ, List.append_nil, List.cons_append, List.nil_append, List.set_cons_zero, List.set_cons_succ, Nat.reduceAdd, Nat.reduceLT, Nat.reduceLeDiff, argsO_nil, argsO_d, argsO_loc, locs_nil, locs_d, locs_loc, nodup_nil', nodup_one, backE_nil, backE_d, backE_loc, wipeE_nil, wipeE_cons, calmE_nil, calmE_none, restE_nil, restE_cons, keep_0, keep_1, keep_2, keep_3, keep_4, own_lst, own_dT, own_fro, ite_true', ite_false', reduceIte, Bool.not_true, Bool.not_false, Bool.false_eq_true, Option.join_some, List.head?_cons, List.tail_cons, set_loc, Option.getD_some, Option.getD_none, and_self, and_true, true_and, List.lookup, fr, Bool.true_and, Bool.false_and, Bool.and_true, Bool.and_false, Bool.and_self, Bool.true_or, Bool.false_or, Bool.or_true, Bool.or_false, e_fld, e_fldO, e_fldSet, e_gmFld, e_gmNil, e_gmCons, e_gmTup, e_gmKtup, e_meth, e_make, e_methT, c_fld, k_fld, set_fld, eq_self, cond_true, cond_false, true_or, or_true, false_or, or_false, isIntD, isBlD', isWhole, List.mem_nil_iff, dLe_i]
  rename_i i
  by_cases h1 : lo ≤ i <;> simp -implicitDefEqProofs -dsimp only [e_seq, e_skip, e_never, e_ret, e_n, e_c, e_d, e_do, e_nil, e_cons, e_op2, e_un, e_chain, e_b, e_not, e_and, e_or, e_andV, e_orV, e_notV, e_if, e_ifS, e_call, e_callN, e_callF, e_fz, e_tup, e_tupZ, e_lst, e_set, e_asg, e_put, e_get2, e_mut, e_mtr, e_for, e_iter, e_over, e_lc, e_yes, e_pno, e_po, e_cut, e_par2, e_par3, e_catN, e_newT, e_name, e_loc, e_take, e_move, e_gname, c_d, c_loc, k_loc, cs_nil', cs_cons', fz_fro, fz_lst, fz_dT, bnd_some, bnd_none, Option.bind_some, Option.bind_none, Option.map_some, Option.map_none, List.getElem?_cons_zero, List.getElem?_cons_succ, List.length_cons, List.length_nil, if_true, List.map_cons, List.map_nil, Nat.reduceSub, List.replicate_zero, List.replicate_succ, List.append_nil, List.cons_append, List.nil_append, List.set_cons_zero, List.set_cons_succ, Nat.reduceAdd, Nat.reduceLT, Nat.reduceLeDiff, argsO_nil, argsO_d, argsO_loc, locs_nil, locs_d, locs_loc, nodup_nil', nodup_one, backE_nil, backE_d, backE_loc, wipeE_nil, wipeE_cons, calmE_nil, calmE_none, restE_nil, restE_cons, keep_0, keep_1, keep_2, keep_3, keep_4, own_lst, own_dT, own_fro, ite_true', ite_false', reduceIte, Bool.not_true, Bool.not_false, Bool.false_eq_true, Option.join_some, List.head?_cons, List.tail_cons, set_loc, Option.getD_some, Option.getD_none, and_self, and_true, true_and, List.lookup, fr, Bool.true_and, Bool.false_and, Bool.and_true, Bool.and_false, Bool.and_self, Bool.true_or, Bool.false_or, Bool.or_true, Bool.or_false, e_fld, e_fldO, e_fldSet, e_gmFld, e_gmNil, e_gmCons, e_gmTup, e_gmKtup, e_meth, e_make, e_methT, c_fld, k_fld, set_fld, eq_self, cond_true, cond_false, true_or, or_true, false_or, or_false, h1, decide_true, decide_false, dLe_i]
def isTupOf (d : D) (lo hi : Int) : Bool := match VL.tupItems d with
  | some xs => decide (lo ≤ xs.length) && decide ((xs.length : Int) ≤ hi)
  | none => false
theorem r_is_tuple_of {d : D} (h : okT d = true) (lo hi : Int) : run_is_tuple_of [fr d, fr (.int lo), fr (.int hi)] = some (fr (.bl (isTupOf d lo hi)), [none, none, none]) := by
  unfold run_is_tuple_of fnRun m_is_tuple_of
  simp -implicitDefEqProofs -dsimp only [e_seq, e_skip, e_never, e_ret, e_n, e_c, e_d, e_do, e_nil, e_cons, e_op2, e_un, e_chain, e_b, e_not, e_and, e_or, e_andV, e_orV, e_notV, e_if, e_ifS, e_call, e_callN, e_callF, e_fz, e_tup, e_tupZ, e_lst, e_set, e_asg, e_put, e_get2, e_mut, e_mtr, e_for, e_iter, e_over, e_lc, e_yes, e_pno, e_po, e_cut, e_par2, e_par3, e_catN, e_newT, e_name, e_loc, e_take, e_move, e_gname, c_d, c_loc, k_loc, cs_nil', cs_cons', fz_fro, fz_lst, fz_dT, bnd_some, bnd_none, Option.bind_some, Option.bind_none, Option.map_some, Option.map_none, List.getElem?_cons_zero, List.getElem?_cons_succ, List.length_cons, List.length_nil, if_true, List.map_cons, List.map_nil, Nat.reduceSub, List.replicate_zero, List.replicate_succ, List.append_nil, List.cons_append, List.nil_append, List.set_cons_zero, List.set_cons_succ, Nat.reduceAdd, Nat.reduceLT, Nat.reduceLeDiff, argsO_nil, argsO_d, argsO_loc, locs_nil, locs_d, locs_loc, nodup_nil', nodup_one, backE_nil, backE_d, backE_loc, wipeE_nil, wipeE_cons, calmE_nil, calmE_none, restE_nil, restE_cons, keep_0, keep_1, keep_2, keep_3, keep_4, own_lst, own_dT, own_fro, ite_true', ite_false', reduceIte, Bool.not_true, Bool.not_false, Bool.false_eq_true, Option.join_some, List.head?_cons, List.tail_cons, set_loc, Option.getD_some, Option.getD_none, and_self, and_true, true_and, List.lookup, fr, Bool.true_and, Bool.false_and, Bool.and_true, Bool.and_false, Bool.and_self, Bool.true_or, Bool.false_or, Bool.or_true, Bool.or_false, e_fld, e_fldO, e_fldSet, e_gmFld, e_gmNil, e_gmCons, e_gmTup, e_gmKtup, e_meth, e_make, e_methT, c_fld, k_fld, set_fld, eq_self, cond_true, cond_false, true_or, or_true, false_or, or_false, isi_tuple h]
  cases d <;> simp -implicitDefEqProofs -dsimp only [e_seq, e_skip, e_never, e_ret, e_n, e_c, e_d, e_do, e_nil, e_cons, e_op2, e_un, e_chain, e_b, e_not, e_and, e_or, e_andV, e_orV, e_notV, e_if, e_ifS, e_call, e_callN, e_callF, e_fz, e_tup, e_tupZ, e_lst, e_set, e_asg, e_put, e_get2, e_mut, e_mtr, e_for, e_iter, e_over, e_lc, e_yes, e_pno, e_po, e_cut, e_par2, e_par3, e_catN, e_newT, e_name, e_loc, e_take, e_move, e_gname, c_d, c_loc, k_loc, cs_nil', cs_cons', fz_fro, fz_lst, fz_dT, bnd_some, bnd_none, Option.bind_some, Option.bind_none, Option.map_some, Option.map_none, List.getElem?_cons_zero, List.getElem?_cons_succ, List.length_cons, List.length_nil, if_true, List.map_cons, List.map_nil, Nat.reduceSub, List.replicate_zero, List.replicate_succ, List.append_nil, List.cons_append, List.nil_append, List.set_cons_zero, List.set_cons_succ, Nat.reduceAdd, Nat.reduceLT, Nat.reduceLeDiff, argsO_nil, argsO_d, argsO_loc, locs_nil, locs_d, locs_loc, nodup_nil', nodup_one, backE_nil, backE_d, backE_loc, wipeE_nil, wipeE_cons, calmE_nil, calmE_none, restE_nil, restE_cons, keep_0, keep_1, keep_2, keep_3, keep_4, own_lst, own_dT, own_fro, ite_true', ite_false', reduceIte, Bool.not_true, Bool.not_false, Bool.false_eq_true, Option.join_some, List.head?_cons, List.tail_cons, set_loc, Option.getD_some, Option.getD_none, and_self, and_true, true_and, List.lookup, fr, Bool.true_and, Bool.false_and, Bool.and_true, Bool.and_false, Bool.and_self, Bool.true_or, Bool.false_or, Bool.or_true, Bool.or_false, e_fld, e_fldO, e_fldSet, e_gmFld, e_gmNil, e_gmCons, e_gmTup, e_gmKtup, e_meth, e_make, e_methT, c_fld, k_fld, set_fld, eq_self, cond_true, cond_false, true_or, or_true, false_or, or_false, isTupD, isTupOf, VL.tupItems, List.mem_nil_iff, fLen, dLe_i]
  all_goals
    rename_i xs
    by_cases h1 : lo ≤ (xs.length : Int) <;> simp -implicitDefEqProofs -dsimp only [e_seq, e_skip, e_never, e_ret, e_n, e_c, e_d, e_do, e_nil, e_cons, e_op2, e_un, e_chain, e_b, e_not, e_and, e_or, e_andV, e_orV, e_notV, e_if, e_ifS, e_call, e_callN, e_callF, e_fz, e_tup, e_tupZ, e_lst, e_set, e_asg, e_put, e_get2, e_mut, e_mtr, e_for, e_iter, e_over, e_lc, e_yes, e_pno, e_po, e_cut, e_par2, e_par3, e_catN, e_newT, e_name, e_loc, e_take, e_move, e_gname, c_d, c_loc, k_loc, cs_nil', cs_cons', fz_fro, fz_lst, fz_dT, bnd_some, bnd_none, Option.bind_some, Option.bind_none, Option.map_some, Option.map_none, List.getElem?_cons_zero, List.getElem?_cons_succ, List.length_cons, List.length_nil, if_true, List.map_cons, List.map_nil, Nat.reduceSub, List.replicate_zero, List.replicate_succ, List.append_nil, List.cons_append, List.nil_append, List.set_cons_zero, List.set_cons_succ, Nat.reduceAdd, Nat.reduceLT, Nat.reduceLeDiff, argsO_nil, argsO_d, argsO_loc, locs_nil, locs_d, locs_loc, nodup_nil', nodup_one, backE_nil, backE_d, backE_loc, wipeE_nil, wipeE_cons, calmE_nil, calmE_none, restE_nil, restE_cons, keep_0, keep_1, keep_2, keep_3, keep_4, own_lst, own_dT, own_fro, ite_true', ite_false', reduceIte, Bool.not_true, Bool.not_false, Bool.false_eq_true, Option.join_some, List.head?_cons, List.tail_cons, set_loc, Option.getD_some, Option.getD_none, and_self, and_true, true_and, List.lookup, fr, Bool.true_and, Bool.false_and, Bool.and_true, Bool.and_false, Bool.and_self, Bool.true_or, Bool.false_or, Bool.or_true, Bool.or_false, e_fld, e_fldO, e_fldSet, e_gmFld, e_gmNil, e_gmCons, e_gmTup, e_gmKtup, e_meth, e_make, e_methT, c_fld, k_fld, set_fld, eq_self, cond_true, cond_false, true_or, or_true, false_or, or_false, h1, decide_true, decide_false, dLe_i]
/-! ### rolls -/
abbrev cupO (a b : Int) : O := .s (.lst [.int a, .int b])
theorem r_roll {a b m : Int} (ha : 0 ≤ a) (hm : 0 < m) (hm2 : m < 1073741824) : ∃ v a' b', 0 ≤ v ∧ v < m ∧ 0 ≤ a' ∧ run__law_roll [cupO a b, fr (.int m)] = some (fr (.int v), [some (cupO a' b'), none]) := by
  by_cases h : 0 < a
  · refine ⟨a % m, a / m, b, Int.emod_nonneg _ (by omega), Int.emod_lt_of_pos _ hm, Int.ediv_nonneg ha (by omega), ?_⟩
    unfold run__law_roll fnRun m__law_roll
    simp -implicitDefEqProofs -dsimp only [e_seq, e_skip, e_never, e_ret, e_n, e_c, e_d, e_do, e_nil, e_cons, e_op2, e_un, e_chain, e_b, e_not, e_and, e_or, e_andV, e_orV, e_notV, e_if, e_ifS, e_call, e_callN, e_callF, e_fz, e_tup, e_tupZ, e_lst, e_set, e_asg, e_put, e_get2, e_mut, e_mtr, e_for, e_iter, e_over, e_lc, e_yes, e_pno, e_po, e_cut, e_par2, e_par3, e_catN, e_newT, e_name, e_loc, e_take, e_move, e_gname, c_d, c_loc, k_loc, cs_nil', cs_cons', fz_fro, fz_lst, fz_dT, bnd_some, bnd_none, Option.bind_some, Option.bind_none, Option.map_some, Option.map_none, List.getElem?_cons_zero, List.getElem?_cons_succ, List.length_cons, List.length_nil, if_true, List.map_cons, List.map_nil, Nat.reduceSub, List.replicate_zero, List.replicate_succ, List.append_nil, List.cons_append, List.nil_append, List.set_cons_zero, List.set_cons_succ, Nat.reduceAdd, Nat.reduceLT, Nat.reduceLeDiff, argsO_nil, argsO_d, argsO_loc, locs_nil, locs_d, locs_loc, nodup_nil', nodup_one, backE_nil, backE_d, backE_loc, wipeE_nil, wipeE_cons, calmE_nil, calmE_none, restE_nil, restE_cons, keep_0, keep_1, keep_2, keep_3, keep_4, own_lst, own_dT, own_fro, ite_true', ite_false', reduceIte, Bool.not_true, Bool.not_false, Bool.false_eq_true, Option.join_some, List.head?_cons, List.tail_cons, set_loc, Option.getD_some, Option.getD_none, and_self, and_true, true_and, List.lookup, fr, Bool.true_and, Bool.false_and, Bool.and_true, Bool.and_false, Bool.and_self, Bool.true_or, Bool.false_or, Bool.or_true, Bool.or_false, e_fld, e_fldO, e_fldSet, e_gmFld, e_gmNil, e_gmCons, e_gmTup, e_gmKtup, e_meth, e_make, e_methT, c_fld, k_fld, set_fld, eq_self, cond_true, cond_false, true_or, or_true, false_or, or_false, dIx_l, at_0, dGt_i, decide_eq_true h, int_i, dMod_i hm, dFdiv_i hm hm2, put_0, List.mem_singleton]
    rfl
  · obtain rfl : a = 0 := by omega
    have h1 := Int.emod_nonneg (b * 37975 + 12603) (show (2147483423 : Int) ≠ 0 by decide)
    have h2 := Int.emod_lt_of_pos (b * 37975 + 12603) (show (0 : Int) < 2147483423 by decide)
    have hx : -18446744073709551616 < (b * 37975 + 12603) % 2147483423 ∧ (b * 37975 + 12603) % 2147483423 < 18446744073709551616 := by omega
    refine ⟨(b * 37975 + 12603) % 2147483423 * ((b * 37975 + 12603) % 2147483423 + 1949) % 2147483587 / 2233 % m, 0, (b * 37975 + 12603) % 2147483423, Int.emod_nonneg _ (by omega), Int.emod_lt_of_pos _ hm, Int.le_refl _, ?_⟩
    unfold run__law_roll fnRun m__law_roll
    simp -implicitDefEqProofs -dsimp only [e_seq, e_skip, e_never, e_ret, e_n, e_c, e_d, e_do, e_nil, e_cons, e_op2, e_un, e_chain, e_b, e_not, e_and, e_or, e_andV, e_orV, e_notV, e_if, e_ifS, e_call, e_callN, e_callF, e_fz, e_tup, e_tupZ, e_lst, e_set, e_asg, e_put, e_get2, e_mut, e_mtr, e_for, e_iter, e_over, e_lc, e_yes, e_pno, e_po, e_cut, e_par2, e_par3, e_catN, e_newT, e_name, e_loc, e_take, e_move, e_gname, c_d, c_loc, k_loc, cs_nil', cs_cons', fz_fro, fz_lst, fz_dT, bnd_some, bnd_none, Option.bind_some, Option.bind_none, Option.map_some, Option.map_none, List.getElem?_cons_zero, List.getElem?_cons_succ, List.length_cons, List.length_nil, if_true, List.map_cons, List.map_nil, Nat.reduceSub, List.replicate_zero, List.replicate_succ, List.append_nil, List.cons_append, List.nil_append, List.set_cons_zero, List.set_cons_succ, Nat.reduceAdd, Nat.reduceLT, Nat.reduceLeDiff, argsO_nil, argsO_d, argsO_loc, locs_nil, locs_d, locs_loc, nodup_nil', nodup_one, backE_nil, backE_d, backE_loc, wipeE_nil, wipeE_cons, calmE_nil, calmE_none, restE_nil, restE_cons, keep_0, keep_1, keep_2, keep_3, keep_4, own_lst, own_dT, own_fro, ite_true', ite_false', reduceIte, Bool.not_true, Bool.not_false, Bool.false_eq_true, Option.join_some, List.head?_cons, List.tail_cons, set_loc, Option.getD_some, Option.getD_none, and_self, and_true, true_and, List.lookup, fr, Bool.true_and, Bool.false_and, Bool.and_true, Bool.and_false, Bool.and_self, Bool.true_or, Bool.false_or, Bool.or_true, Bool.or_false, e_fld, e_fldO, e_fldSet, e_gmFld, e_gmNil, e_gmCons, e_gmTup, e_gmKtup, e_meth, e_make, e_methT, c_fld, k_fld, set_fld, eq_self, cond_true, cond_false, true_or, or_true, false_or, or_false, dIx_l, at_0, at_1, dGt_i, Int.lt_irrefl, decide_false, int_i, dMul_r (i := b) (j := 37975) (by decide), dAdd_i, dMod_i (i := b * 37975 + 12603) (j := 2147483423) (by decide), put_1, List.mem_singleton, dMul_l hx, dMod_i (j := 2147483587) (by decide), dFdiv_i (j := 2233) (by decide) (by decide), dMod_i hm]
    rfl
theorem r_some {a b : Int} {xs : List D} (ha : 0 ≤ a) (h0 : xs ≠ []) (hl : xs.length < 1073741824) : ∃ (n : Nat) (x : D) (a' b' : Int), n < xs.length ∧ xs[n]? = some x ∧ 0 ≤ a' ∧ run__law_some [cupO a b, fr (.lst xs)] = some (fr x, [some (cupO a' b'), none]) := by
  have hp : 0 < xs.length := List.length_pos_iff.mpr h0
  obtain ⟨v, a', b', h1, h2, h3, e⟩ := r_roll (b := b) ha (show (0 : Int) < (xs.length : Int) by omega) (show (xs.length : Int) < 1073741824 by omega)
  obtain ⟨n, rfl⟩ := Int.eq_ofNat_of_zero_le h1
  have hn : n < xs.length := by omega
  refine ⟨n, xs[n], a', b', hn, List.getElem?_eq_getElem hn, h3, ?_⟩
  unfold run__law_some fnRun m__law_some
  simp -implicitDefEqProofs -dsimp only [e_seq, e_skip, e_never, e_ret, e_n, e_c, e_d, e_do, e_nil, e_cons, e_op2, e_un, e_chain, e_b, e_not, e_and, e_or, e_andV, e_orV, e_notV, e_if, e_ifS, e_call, e_callN, e_callF, e_fz, e_tup, e_tupZ, e_lst, e_set, e_asg, e_put, e_get2, e_mut, e_mtr, e_for, e_iter, e_over, e_lc, e_yes, e_pno, e_po, e_cut, e_par2, e_par3, e_catN, e_newT, e_name, e_loc, e_take, e_move, e_gname, c_d, c_loc, k_loc, cs_nil', cs_cons', fz_fro, fz_lst, fz_dT, bnd_some, bnd_none, Option.bind_some, Option.bind_none, Option.map_some, Option.map_none, List.getElem?_cons_zero, List.getElem?_cons_succ, List.length_cons, List.length_nil, if_true, List.map_cons, List.map_nil, Nat.reduceSub, List.replicate_zero, List.replicate_succ, List.append_nil, List.cons_append, List.nil_append, List.set_cons_zero, List.set_cons_succ, Nat.reduceAdd, Nat.reduceLT, Nat.reduceLeDiff, argsO_nil, argsO_d, argsO_loc, locs_nil, locs_d, locs_loc, nodup_nil', nodup_one, backE_nil, backE_d, backE_loc, wipeE_nil, wipeE_cons, calmE_nil, calmE_none, restE_nil, restE_cons, keep_0, keep_1, keep_2, keep_3, keep_4, own_lst, own_dT, own_fro, ite_true', ite_false', reduceIte, Bool.not_true, Bool.not_false, Bool.false_eq_true, Option.join_some, List.head?_cons, List.tail_cons, set_loc, Option.getD_some, Option.getD_none, and_self, and_true, true_and, List.lookup, fr, Bool.true_and, Bool.false_and, Bool.and_true, Bool.and_false, Bool.and_self, Bool.true_or, Bool.false_or, Bool.or_true, Bool.or_false, e_fld, e_fldO, e_fldSet, e_gmFld, e_gmNil, e_gmCons, e_gmTup, e_gmKtup, e_meth, e_make, e_methT, c_fld, k_fld, set_fld, eq_self, cond_true, cond_false, true_or, or_true, false_or, or_false, len_l]
  rw [e]
  simp -implicitDefEqProofs -dsimp only [e_seq, e_skip, e_never, e_ret, e_n, e_c, e_d, e_do, e_nil, e_cons, e_op2, e_un, e_chain, e_b, e_not, e_and, e_or, e_andV, e_orV, e_notV, e_if, e_ifS, e_call, e_callN, e_callF, e_fz, e_tup, e_tupZ, e_lst, e_set, e_asg, e_put, e_get2, e_mut, e_mtr, e_for, e_iter, e_over, e_lc, e_yes, e_pno, e_po, e_cut, e_par2, e_par3, e_catN, e_newT, e_name, e_loc, e_take, e_move, e_gname, c_d, c_loc, k_loc, cs_nil', cs_cons', fz_fro, fz_lst, fz_dT, bnd_some, bnd_none, Option.bind_some, Option.bind_none, Option.map_some, Option.map_none, List.getElem?_cons_zero, List.getElem?_cons_succ, List.length_cons, List.length_nil, if_true, List.map_cons, List.map_nil, Nat.reduceSub, List.replicate_zero, List.replicate_succ, List.append_nil, List.cons_append, List.nil_append, List.set_cons_zero, List.set_cons_succ, Nat.reduceAdd, Nat.reduceLT, Nat.reduceLeDiff, argsO_nil, argsO_d, argsO_loc, locs_nil, locs_d, locs_loc, nodup_nil', nodup_one, backE_nil, backE_d, backE_loc, wipeE_nil, wipeE_cons, calmE_nil, calmE_none, restE_nil, restE_cons, keep_0, keep_1, keep_2, keep_3, keep_4, own_lst, own_dT, own_fro, ite_true', ite_false', reduceIte, Bool.not_true, Bool.not_false, Bool.false_eq_true, Option.join_some, List.head?_cons, List.tail_cons, set_loc, Option.getD_some, Option.getD_none, and_self, and_true, true_and, List.lookup, fr, Bool.true_and, Bool.false_and, Bool.and_true, Bool.and_false, Bool.and_self, Bool.true_or, Bool.false_or, Bool.or_true, Bool.or_false, e_fld, e_fldO, e_fldSet, e_gmFld, e_gmNil, e_gmCons, e_gmTup, e_gmKtup, e_meth, e_make, e_methT, c_fld, k_fld, set_fld, eq_self, cond_true, cond_false, true_or, or_true, false_or, or_false, dIx_l, at_n, List.getElem?_eq_getElem hn, List.mem_singleton]
  rfl
theorem pow18 : dPow (.int 10) (.int 18) = some (.int 1000000000000000000) := by
  show (if (0 : Int) ≤ 18 ∧ (18 : Int) ≤ 1000000 ∧ (10 : Int).natAbs < 2 ^ 64 then some (D.int ((10 : Int) ^ (18 : Int).toNat)) else none) = _
  rw [if_pos (by decide)]; rfl
theorem r_cup {ns : List Int} (h : ns.length ≤ 63) : ∃ a b, 0 ≤ a ∧ run__law_cup [fr (.lst (ns.map D.int))] = some (cupO a b, [none]) := by
  obtain ⟨c, hc⟩ : ∃ c, atI (ns.map D.int ++ [.int 0]) 0 = some (.int c) := by
    cases ns with
    | nil => exact ⟨0, at_0⟩
    | cons n ns => exact ⟨n, at_0⟩
  have hz : (ns.map D.int).length + [D.int 0].length ≤ 16777216 := by simp; omega
  have hd : 0 ≤ (if c < 0 then -c else c) := by split <;> omega
  unfold run__law_cup fnRun m__law_cup
  have hab : fAbs [.int c] = some (.int (if c < 0 then -c else c)) := abs_i
  generalize (if c < 0 then -c else c) = d at hd hab
  have hz1 : [D.int 0].length = 0 + 1 := rfl
  by_cases h : (1000000000000000000 : Int) ≤ d
  · refine ⟨d / 1459, (d * 2225 + 10525) % 2077511555 + 1585, Int.ediv_nonneg hd (by decide), ?_⟩
    simp -implicitDefEqProofs -dsimp only [e_seq, e_skip, e_never, e_ret, e_n, e_c, e_d, e_do, e_nil, e_cons, e_op2, e_un, e_chain, e_b, e_not, e_and, e_or, e_andV, e_orV, e_notV, e_if, e_ifS, e_call, e_callN, e_callF, e_fz, e_tup, e_tupZ, e_lst, e_set, e_asg, e_put, e_get2, e_mut, e_mtr, e_for, e_iter, e_over, e_lc, e_yes, e_pno, e_po, e_cut, e_par2, e_par3, e_catN, e_newT, e_name, e_loc, e_take, e_move, e_gname, c_d, c_loc, k_loc, cs_nil', cs_cons', fz_fro, fz_lst, fz_dT, bnd_some, bnd_none, Option.bind_some, Option.bind_none, Option.map_some, Option.map_none, List.getElem?_cons_zero, List.getElem?_cons_succ, List.length_cons, List.length_nil, if_true, List.map_cons, List.map_nil, Nat.reduceSub, List.replicate_zero, List.replicate_succ, List.append_nil, List.cons_append, List.nil_append, List.set_cons_zero, List.set_cons_succ, Nat.reduceAdd, Nat.reduceLT, Nat.reduceLeDiff, argsO_nil, argsO_d, argsO_loc, locs_nil, locs_d, locs_loc, nodup_nil', nodup_one, backE_nil, backE_d, backE_loc, wipeE_nil, wipeE_cons, calmE_nil, calmE_none, restE_nil, restE_cons, keep_0, keep_1, keep_2, keep_3, keep_4, own_lst, own_dT, own_fro, ite_true', ite_false', reduceIte, Bool.not_true, Bool.not_false, Bool.false_eq_true, Option.join_some, List.head?_cons, List.tail_cons, set_loc, Option.getD_some, Option.getD_none, and_self, and_true, true_and, List.lookup, fr, Bool.true_and, Bool.false_and, Bool.and_true, Bool.and_false, Bool.and_self, Bool.true_or, Bool.false_or, Bool.or_true, Bool.or_false, e_fld, e_fldO, e_fldSet, e_gmFld, e_gmNil, e_gmCons, e_gmTup, e_gmKtup, e_meth, e_make, e_methT, c_fld, k_fld, set_fld, eq_self, cond_true, cond_false, true_or, or_true, false_or, or_false, list_l, add_ll hz, dIx_l, hc, hab, pow18, dGe_i, decide_eq_true h, dFdiv_i (j := 1459) (by decide) (by decide), dMul_r (j := 2225) (by decide), dAdd_i, int_i, dMod_i (j := 2077511555) (by decide), List.mem_nil_iff]
  · refine ⟨0, (d * 2225 + 10525) % 2077511555 + 1585, Int.le_refl _, ?_⟩
    simp -implicitDefEqProofs -dsimp only [e_seq, e_skip, e_never, e_ret, e_n, e_c, e_d, e_do, e_nil, e_cons, e_op2, e_un, e_chain, e_b, e_not, e_and, e_or, e_andV, e_orV, e_notV, e_if, e_ifS, e_call, e_callN, e_callF, e_fz, e_tup, e_tupZ, e_lst, e_set, e_asg, e_put, e_get2, e_mut, e_mtr, e_for, e_iter, e_over, e_lc, e_yes, e_pno, e_po, e_cut, e_par2, e_par3, e_catN, e_newT, e_name, e_loc, e_take, e_move, e_gname, c_d, c_loc, k_loc, cs_nil', cs_cons', fz_fro, fz_lst, fz_dT, bnd_some, bnd_none, Option.bind_some, Option.bind_none, Option.map_some, Option.map_none, List.getElem?_cons_zero, List.getElem?_cons_succ, List.length_cons, List.length_nil, if_true, List.map_cons, List.map_nil, Nat.reduceSub, List.replicate_zero, List.replicate_succ, List.append_nil, List.cons_append, List.nil_append, List.set_cons_zero, List.set_cons_succ, Nat.reduceAdd, Nat.reduceLT, Nat.reduceLeDiff, argsO_nil, argsO_d, argsO_loc, locs_nil, locs_d, locs_loc, nodup_nil', nodup_one, backE_nil, backE_d, backE_loc, wipeE_nil, wipeE_cons, calmE_nil, calmE_none, restE_nil, restE_cons, keep_0, keep_1, keep_2, keep_3, keep_4, own_lst, own_dT, own_fro, ite_true', ite_false', reduceIte, Bool.not_true, Bool.not_false, Bool.false_eq_true, Option.join_some, List.head?_cons, List.tail_cons, set_loc, Option.getD_some, Option.getD_none, and_self, and_true, true_and, List.lookup, fr, Bool.true_and, Bool.false_and, Bool.and_true, Bool.and_false, Bool.and_self, Bool.true_or, Bool.false_or, Bool.or_true, Bool.or_false, e_fld, e_fldO, e_fldSet, e_gmFld, e_gmNil, e_gmCons, e_gmTup, e_gmKtup, e_meth, e_make, e_methT, c_fld, k_fld, set_fld, eq_self, cond_true, cond_false, true_or, or_true, false_or, or_false, list_l, add_ll hz, dIx_l, hc, hab, pow18, dGe_i, decide_eq_false h, dMul_r (j := 2225) (by decide), dAdd_i, int_i, dMod_i (j := 2077511555) (by decide), List.mem_nil_iff]
/-! ### the same data -/
inductive SameOk : Nat → D → Prop
  | non {k : Nat} : SameOk (k + 1) .non
  | bl {k : Nat} {b : Bool} : SameOk (k + 1) (.bl b)
  | int {k : Nat} {i : Int} : SameOk (k + 1) (.int i)
  | str {k : Nat} {s : Str} : s.length ≤ 1000000 → SameOk (k + 1) (.str s)
  | tup {k : Nat} {xs : List D} : (∀ x ∈ xs, SameOk k x) → xs.length ≤ 1000000 → SameOk (k + 1) (.tup xs)
  | ktup {k : Nat} {xs : List D} : (∀ x ∈ xs, SameOk k x) → xs.length ≤ 1000000 → SameOk (k + 1) (.ktup xs)
  | lst {k : Nat} {xs : List D} : (∀ x ∈ xs, SameOk k x) → xs.length ≤ 1000000 → SameOk (k + 1) (.lst xs)
theorem eqv_int (i : Int) : PyData.eqv (.int i) (.int i) = true := by simp [PyData.eqv]
theorem eqv_str (i : Str) : PyData.eqv (.str i) (.str i) = true := by simp [PyData.eqv]
theorem eqv_bool (i : Bool) : PyData.eqv (.bool i) (.bool i) = true := by simp [PyData.eqv]
theorem dEq_int (i : Int) : dEq (.int i) (.int i) = some (.bl true) := by
  show some (D.bl (PyData.eqv (.int i) (.int i))) = _
  rw [eqv_int]
theorem dEq_str (i : Str) : dEq (.str i) (.str i) = some (.bl true) := by
  show some (D.bl (PyData.eqv (.str i) (.str i))) = _
  rw [eqv_str]
theorem dNe_bl (i : Bool) : dNe (.bl i) (.bl i) = some (.bl false) := by
  show some (D.bl (!PyData.eqv (.bool i) (.bool i))) = _
  rw [eqv_bool]; rfl
theorem dNe_int (i : Int) : dNe (.int i) (.int i) = some (.bl false) := by
  show some (D.bl (!PyData.eqv (.int i) (.int i))) = _
  rw [eqv_int]; rfl
theorem dEq_nil : dEq (.lst []) (.lst []) = some (.bl true) := by
  show some (D.bl (PyData.eqv (.list []) (.list []))) = _
  simp [PyData.eqv, PyData.eqvAll]
theorem same_lc (k : Nat) (d : D) (xs : List D) (ih : ∀ x ∈ xs, run__law_same k [fr x, fr x] = some (fr (.bl true), [none, none])) (hix : ∀ i, dIx d (.int i) = atI xs i) :
    lcLoop [2] (gmName 2) (mNot (mB (mFz (mCallF (run__law_same k) (mCons (mD (mOp2 dIx (mLoc 0) (mLoc 2))) (mCons (mD (mOp2 dIx (mLoc 1) (mLoc 2))) (mNil))))))) (mC (.int 1)) (intsD 0 xs.length) [some (fr d), some (fr d), none] = some ([], [some (fr d), some (fr d), none]) := by
  have := lc_map (own := [2]) (tm := gmName 2) (mt := mNot (mB (mFz (mCallF (run__law_same k) (mCons (mD (mOp2 dIx (mLoc 0) (mLoc 2))) (mCons (mD (mOp2 dIx (mLoc 1) (mLoc 2))) (mNil))))))) (me := mC (.int 1)) (η := [some (fr d), some (fr d), none]) (fun _ => false) (fun _ => .int 1) (intsD 0 xs.length) fun e he => by
    unfold intsD at he
    obtain ⟨n, hn, rfl⟩ := List.mem_map.mp he
    have hn : n < xs.length := by simpa using hn
    refine ⟨[some (fr d), some (fr d), some (fr (.int (n : Int)))], [some (fr d), some (fr d), some (fr (.int (n : Int)))], ?_, ?_, (fun z => by cases z), fun _ => ?_⟩
    · simp -implicitDefEqProofs -dsimp only [e_seq, e_skip, e_never, e_ret, e_n, e_c, e_d, e_do, e_nil, e_cons, e_op2, e_un, e_chain, e_b, e_not, e_and, e_or, e_andV, e_orV, e_notV, e_if, e_ifS, e_call, e_callN, e_callF, e_fz, e_tup, e_tupZ, e_lst, e_set, e_asg, e_put, e_get2, e_mut, e_mtr, e_for, e_iter, e_over, e_lc, e_yes, e_pno, e_po, e_cut, e_par2, e_par3, e_catN, e_newT, e_name, e_loc, e_take, e_move, e_gname, c_d, c_loc, k_loc, cs_nil', cs_cons', fz_fro, fz_lst, fz_dT, bnd_some, bnd_none, Option.bind_some, Option.bind_none, Option.map_some, Option.map_none, List.getElem?_cons_zero, List.getElem?_cons_succ, List.length_cons, List.length_nil, if_true, List.map_cons, List.map_nil, Nat.reduceSub, List.replicate_zero, List.replicate_succ, List.append_nil, List.cons_append, List.nil_append, List.set_cons_zero, List.set_cons_succ, Nat.reduceAdd, Nat.reduceLT, Nat.reduceLeDiff, argsO_nil, argsO_d, argsO_loc, locs_nil, locs_d, locs_loc, nodup_nil', nodup_one, backE_nil, backE_d, backE_loc, wipeE_nil, wipeE_cons, calmE_nil, calmE_none, restE_nil, restE_cons, keep_0, keep_1, keep_2, keep_3, keep_4, own_lst, own_dT, own_fro, ite_true', ite_false', reduceIte, Bool.not_true, Bool.not_false, Bool.false_eq_true, Option.join_some, List.head?_cons, List.tail_cons, set_loc, Option.getD_some, Option.getD_none, and_self, and_true, true_and, List.lookup, fr, Bool.true_and, Bool.false_and, Bool.and_true, Bool.and_false, Bool.and_self, Bool.true_or, Bool.false_or, Bool.or_true, Bool.or_false, e_fld, e_fldO, e_fldSet, e_gmFld, e_gmNil, e_gmCons, e_gmTup, e_gmKtup, e_meth, e_make, e_methT, c_fld, k_fld, set_fld, eq_self, cond_true, cond_false, true_or, or_true, false_or, or_false, Int.zero_add]
    · simp -implicitDefEqProofs -dsimp only [e_seq, e_skip, e_never, e_ret, e_n, e_c, e_d, e_do, e_nil, e_cons, e_op2, e_un, e_chain, e_b, e_not, e_and, e_or, e_andV, e_orV, e_notV, e_if, e_ifS, e_call, e_callN, e_callF, e_fz, e_tup, e_tupZ, e_lst, e_set, e_asg, e_put, e_get2, e_mut, e_mtr, e_for, e_iter, e_over, e_lc, e_yes, e_pno, e_po, e_cut, e_par2, e_par3, e_catN, e_newT, e_name, e_loc, e_take, e_move, e_gname, c_d, c_loc, k_loc, cs_nil', cs_cons', fz_fro, fz_lst, fz_dT, bnd_some, bnd_none, Option.bind_some, Option.bind_none, Option.map_some, Option.map_none, List.getElem?_cons_zero, List.getElem?_cons_succ, List.length_cons, List.length_nil, if_true, List.map_cons, List.map_nil, Nat.reduceSub, List.replicate_zero, List.replicate_succ, List.append_nil, List.cons_append, List.nil_append, List.set_cons_zero, List.set_cons_succ, Nat.reduceAdd, Nat.reduceLT, Nat.reduceLeDiff, argsO_nil, argsO_d, argsO_loc, locs_nil, locs_d, locs_loc, nodup_nil', nodup_one, backE_nil, backE_d, backE_loc, wipeE_nil, wipeE_cons, calmE_nil, calmE_none, restE_nil, restE_cons, keep_0, keep_1, keep_2, keep_3, keep_4, own_lst, own_dT, own_fro, ite_true', ite_false', reduceIte, Bool.not_true, Bool.not_false, Bool.false_eq_true, Option.join_some, List.head?_cons, List.tail_cons, set_loc, Option.getD_some, Option.getD_none, and_self, and_true, true_and, List.lookup, fr, Bool.true_and, Bool.false_and, Bool.and_true, Bool.and_false, Bool.and_self, Bool.true_or, Bool.false_or, Bool.or_true, Bool.or_false, e_fld, e_fldO, e_fldSet, e_gmFld, e_gmNil, e_gmCons, e_gmTup, e_gmKtup, e_meth, e_make, e_methT, c_fld, k_fld, set_fld, eq_self, cond_true, cond_false, true_or, or_true, false_or, or_false, hix, at_n, List.getElem?_eq_getElem hn, ih _ (List.getElem_mem hn)]
    · simp -implicitDefEqProofs -dsimp only [e_seq, e_skip, e_never, e_ret, e_n, e_c, e_d, e_do, e_nil, e_cons, e_op2, e_un, e_chain, e_b, e_not, e_and, e_or, e_andV, e_orV, e_notV, e_if, e_ifS, e_call, e_callN, e_callF, e_fz, e_tup, e_tupZ, e_lst, e_set, e_asg, e_put, e_get2, e_mut, e_mtr, e_for, e_iter, e_over, e_lc, e_yes, e_pno, e_po, e_cut, e_par2, e_par3, e_catN, e_newT, e_name, e_loc, e_take, e_move, e_gname, c_d, c_loc, k_loc, cs_nil', cs_cons', fz_fro, fz_lst, fz_dT, bnd_some, bnd_none, Option.bind_some, Option.bind_none, Option.map_some, Option.map_none, List.getElem?_cons_zero, List.getElem?_cons_succ, List.length_cons, List.length_nil, if_true, List.map_cons, List.map_nil, Nat.reduceSub, List.replicate_zero, List.replicate_succ, List.append_nil, List.cons_append, List.nil_append, List.set_cons_zero, List.set_cons_succ, Nat.reduceAdd, Nat.reduceLT, Nat.reduceLeDiff, argsO_nil, argsO_d, argsO_loc, locs_nil, locs_d, locs_loc, nodup_nil', nodup_one, backE_nil, backE_d, backE_loc, wipeE_nil, wipeE_cons, calmE_nil, calmE_none, restE_nil, restE_cons, keep_0, keep_1, keep_2, keep_3, keep_4, own_lst, own_dT, own_fro, ite_true', ite_false', reduceIte, Bool.not_true, Bool.not_false, Bool.false_eq_true, Option.join_some, List.head?_cons, List.tail_cons, set_loc, Option.getD_some, Option.getD_none, and_self, and_true, true_and, List.lookup, fr, Bool.true_and, Bool.false_and, Bool.and_true, Bool.and_false, Bool.and_self, Bool.true_or, Bool.false_or, Bool.or_true, Bool.or_false, e_fld, e_fldO, e_fldSet, e_gmFld, e_gmNil, e_gmCons, e_gmTup, e_gmKtup, e_meth, e_make, e_methT, c_fld, k_fld, set_fld, eq_self, cond_true, cond_false, true_or, or_true, false_or, or_false]
  rw [this]
  simp
theorem range_len {α : Type} {xs : List α} (hz : xs.length ≤ 1000000) : rangeI1 [.int (xs.length : Int)] = some (intsD 0 xs.length) := by
  have e : okR (xs.length : Int) = true := by
    unfold okR
    rw [Bool.and_eq_true, decide_eq_true_eq, decide_eq_true_eq]
    omega
  show (if okR (xs.length : Int) = true then some (intsD 0 (xs.length : Int).toNat) else none) = _
  rw [if_pos e, Int.toNat_natCast]
theorem len_ints {n : Nat} {i : Int} : (intsD i n).length = n := by unfold intsD; simp
theorem same_seq (k : Nat) (d : D) (xs : List D) (ih : ∀ x ∈ xs, run__law_same k [fr x, fr x] = some (fr (.bl true), [none, none])) (hix : ∀ i, dIx d (.int i) = atI xs i) (hlen : fLen [d] = some (.int xs.length)) (hz : xs.length ≤ 1000000) (ht : okT d = true) (hb : isTupD d = true ∨ isLstD d = true) :
    run__law_same (k + 1) [fr d, fr d] = some (fr (.bl true), [none, none]) := by
  have lc := same_lc k d xs ih hix
  have hr := range_len hz
  have hl2 : small (intsD 0 xs.length).length = true := small_of (by rw [len_ints]; omega)
  have u : run__law_same (k + 1) = fnRun 2 3 [] (m__law_same (run__law_same k)) := rfl
  rw [u]
  generalize run__law_same k = rs at lc
  unfold fnRun m__law_same
  rcases hb with hb | hb
  · have hb2 : isLstD d = false := by cases d <;> first | rfl | (cases hb)
    simp -implicitDefEqProofs -dsimp only [e_seq, e_skip, e_never, e_ret, e_n, e_c, e_d, e_do, e_nil, e_cons, e_op2, e_un, e_chain, e_b, e_not, e_and, e_or, e_andV, e_orV, e_notV, e_if, e_ifS, e_call, e_callN, e_callF, e_fz, e_tup, e_tupZ, e_lst, e_set, e_asg, e_put, e_get2, e_mut, e_mtr, e_for, e_iter, e_over, e_lc, e_yes, e_pno, e_po, e_cut, e_par2, e_par3, e_catN, e_newT, e_name, e_loc, e_take, e_move, e_gname, c_d, c_loc, k_loc, cs_nil', cs_cons', fz_fro, fz_lst, fz_dT, bnd_some, bnd_none, Option.bind_some, Option.bind_none, Option.map_some, Option.map_none, List.getElem?_cons_zero, List.getElem?_cons_succ, List.length_cons, List.length_nil, if_true, List.map_cons, List.map_nil, Nat.reduceSub, List.replicate_zero, List.replicate_succ, List.append_nil, List.cons_append, List.nil_append, List.set_cons_zero, List.set_cons_succ, Nat.reduceAdd, Nat.reduceLT, Nat.reduceLeDiff, argsO_nil, argsO_d, argsO_loc, locs_nil, locs_d, locs_loc, nodup_nil', nodup_one, backE_nil, backE_d, backE_loc, wipeE_nil, wipeE_cons, calmE_nil, calmE_none, restE_nil, restE_cons, keep_0, keep_1, keep_2, keep_3, keep_4, own_lst, own_dT, own_fro, ite_true', ite_false', reduceIte, Bool.not_true, Bool.not_false, Bool.false_eq_true, Option.join_some, List.head?_cons, List.tail_cons, set_loc, Option.getD_some, Option.getD_none, and_self, and_true, true_and, List.lookup, fr, Bool.true_and, Bool.false_and, Bool.and_true, Bool.and_false, Bool.and_self, Bool.true_or, Bool.false_or, Bool.or_true, Bool.or_false, e_fld, e_fldO, e_fldSet, e_gmFld, e_gmNil, e_gmCons, e_gmTup, e_gmKtup, e_meth, e_make, e_methT, c_fld, k_fld, set_fld, eq_self, cond_true, cond_false, true_or, or_true, false_or, or_false, isi_tuple ht, isi_list ht, hb, hb2, dNe_bl, hlen, dNe_int, hr, hl2, lc, dEq_nil, List.mem_nil_iff]
  · have hb2 : isTupD d = false := by cases d <;> first | rfl | (cases hb)
    simp -implicitDefEqProofs -dsimp only [e_seq, e_skip, e_never, e_ret, e_n, e_c, e_d, e_do, e_nil, e_cons, e_op2, e_un, e_chain, e_b, e_not, e_and, e_or, e_andV, e_orV, e_notV, e_if, e_ifS, e_call, e_callN, e_callF, e_fz, e_tup, e_tupZ, e_lst, e_set, e_asg, e_put, e_get2, e_mut, e_mtr, e_for, e_iter, e_over, e_lc, e_yes, e_pno, e_po, e_cut, e_par2, e_par3, e_catN, e_newT, e_name, e_loc, e_take, e_move, e_gname, c_d, c_loc, k_loc, cs_nil', cs_cons', fz_fro, fz_lst, fz_dT, bnd_some, bnd_none, Option.bind_some, Option.bind_none, Option.map_some, Option.map_none, List.getElem?_cons_zero, List.getElem?_cons_succ, List.length_cons, List.length_nil, if_true, List.map_cons, List.map_nil, Nat.reduceSub, List.replicate_zero, List.replicate_succ, List.append_nil, List.cons_append, List.nil_append, List.set_cons_zero, List.set_cons_succ, Nat.reduceAdd, Nat.reduceLT, Nat.reduceLeDiff, argsO_nil, argsO_d, argsO_loc, locs_nil, locs_d, locs_loc, nodup_nil', nodup_one, backE_nil, backE_d, backE_loc, wipeE_nil, wipeE_cons, calmE_nil, calmE_none, restE_nil, restE_cons, keep_0, keep_1, keep_2, keep_3, keep_4, own_lst, own_dT, own_fro, ite_true', ite_false', reduceIte, Bool.not_true, Bool.not_false, Bool.false_eq_true, Option.join_some, List.head?_cons, List.tail_cons, set_loc, Option.getD_some, Option.getD_none, and_self, and_true, true_and, List.lookup, fr, Bool.true_and, Bool.false_and, Bool.and_true, Bool.and_false, Bool.and_self, Bool.true_or, Bool.false_or, Bool.or_true, Bool.or_false, e_fld, e_fldO, e_fldSet, e_gmFld, e_gmNil, e_gmCons, e_gmTup, e_gmKtup, e_meth, e_make, e_methT, c_fld, k_fld, set_fld, eq_self, cond_true, cond_false, true_or, or_true, false_or, or_false, isi_tuple ht, isi_list ht, hb, hb2, dNe_bl, hlen, dNe_int, hr, hl2, lc, dEq_nil, List.mem_nil_iff]
theorem is_bl {b c : Bool} : dIs (.bl b) (.bl c) = some (.bl (isBlD c (.bl b))) := rfl
theorem r_same : ∀ {k : Nat} {d : D}, SameOk k d → run__law_same k [fr d, fr d] = some (fr (.bl true), [none, none]) := by
  intro k d h
  induction h with
  | @non k =>
    show fnRun 2 3 [] (m__law_same (run__law_same k)) _ = _
    unfold fnRun m__law_same
    simp -implicitDefEqProofs -dsimp only [e_seq, e_skip, e_never, e_ret, e_n, e_c, e_d, e_do, e_nil, e_cons, e_op2, e_un, e_chain, e_b, e_not, e_and, e_or, e_andV, e_orV, e_notV, e_if, e_ifS, e_call, e_callN, e_callF, e_fz, e_tup, e_tupZ, e_lst, e_set, e_asg, e_put, e_get2, e_mut, e_mtr, e_for, e_iter, e_over, e_lc, e_yes, e_pno, e_po, e_cut, e_par2, e_par3, e_catN, e_newT, e_name, e_loc, e_take, e_move, e_gname, c_d, c_loc, k_loc, cs_nil', cs_cons', fz_fro, fz_lst, fz_dT, bnd_some, bnd_none, Option.bind_some, Option.bind_none, Option.map_some, Option.map_none, List.getElem?_cons_zero, List.getElem?_cons_succ, List.length_cons, List.length_nil, if_true, List.map_cons, List.map_nil, Nat.reduceSub, List.replicate_zero, List.replicate_succ, List.append_nil, List.cons_append, List.nil_append, List.set_cons_zero, List.set_cons_succ, Nat.reduceAdd, Nat.reduceLT, Nat.reduceLeDiff, argsO_nil, argsO_d, argsO_loc, locs_nil, locs_d, locs_loc, nodup_nil', nodup_one, backE_nil, backE_d, backE_loc, wipeE_nil, wipeE_cons, calmE_nil, calmE_none, restE_nil, restE_cons, keep_0, keep_1, keep_2, keep_3, keep_4, own_lst, own_dT, own_fro, ite_true', ite_false', reduceIte, Bool.not_true, Bool.not_false, Bool.false_eq_true, Option.join_some, List.head?_cons, List.tail_cons, set_loc, Option.getD_some, Option.getD_none, and_self, and_true, true_and, List.lookup, fr, Bool.true_and, Bool.false_and, Bool.and_true, Bool.and_false, Bool.and_self, Bool.true_or, Bool.false_or, Bool.or_true, Bool.or_false, e_fld, e_fldO, e_fldSet, e_gmFld, e_gmNil, e_gmCons, e_gmTup, e_gmKtup, e_meth, e_make, e_methT, c_fld, k_fld, set_fld, eq_self, cond_true, cond_false, true_or, or_true, false_or, or_false, isi_tuple (x := .non) rfl, isi_list (x := .non) rfl, isTupD, isLstD, is_non, isNonD, List.mem_nil_iff]
  | @bl k b =>
    show fnRun 2 3 [] (m__law_same (run__law_same k)) _ = _
    unfold fnRun m__law_same
    cases b <;> simp -implicitDefEqProofs -dsimp only [e_seq, e_skip, e_never, e_ret, e_n, e_c, e_d, e_do, e_nil, e_cons, e_op2, e_un, e_chain, e_b, e_not, e_and, e_or, e_andV, e_orV, e_notV, e_if, e_ifS, e_call, e_callN, e_callF, e_fz, e_tup, e_tupZ, e_lst, e_set, e_asg, e_put, e_get2, e_mut, e_mtr, e_for, e_iter, e_over, e_lc, e_yes, e_pno, e_po, e_cut, e_par2, e_par3, e_catN, e_newT, e_name, e_loc, e_take, e_move, e_gname, c_d, c_loc, k_loc, cs_nil', cs_cons', fz_fro, fz_lst, fz_dT, bnd_some, bnd_none, Option.bind_some, Option.bind_none, Option.map_some, Option.map_none, List.getElem?_cons_zero, List.getElem?_cons_succ, List.length_cons, List.length_nil, if_true, List.map_cons, List.map_nil, Nat.reduceSub, List.replicate_zero, List.replicate_succ, List.append_nil, List.cons_append, List.nil_append, List.set_cons_zero, List.set_cons_succ, Nat.reduceAdd, Nat.reduceLT, Nat.reduceLeDiff, argsO_nil, argsO_d, argsO_loc, locs_nil, locs_d, locs_loc, nodup_nil', nodup_one, backE_nil, backE_d, backE_loc, wipeE_nil, wipeE_cons, calmE_nil, calmE_none, restE_nil, restE_cons, keep_0, keep_1, keep_2, keep_3, keep_4, own_lst, own_dT, own_fro, ite_true', ite_false', reduceIte, Bool.not_true, Bool.not_false, Bool.false_eq_true, Option.join_some, List.head?_cons, List.tail_cons, set_loc, Option.getD_some, Option.getD_none, and_self, and_true, true_and, List.lookup, fr, Bool.true_and, Bool.false_and, Bool.and_true, Bool.and_false, Bool.and_self, Bool.true_or, Bool.false_or, Bool.or_true, Bool.or_false, e_fld, e_fldO, e_fldSet, e_gmFld, e_gmNil, e_gmCons, e_gmTup, e_gmKtup, e_meth, e_make, e_methT, c_fld, k_fld, set_fld, eq_self, cond_true, cond_false, true_or, or_true, false_or, or_false, isi_tuple (x := .bl _) rfl, isi_list (x := .bl _) rfl, isi_bool (x := .bl _) rfl, isBlD', isTupD, isLstD, is_non, isNonD, is_bl, isPlainD, isBlD, List.mem_nil_iff, beq_self_eq_true]
  | @int k i =>
    show fnRun 2 3 [] (m__law_same (run__law_same k)) _ = _
    unfold fnRun m__law_same
    simp -implicitDefEqProofs -dsimp only [e_seq, e_skip, e_never, e_ret, e_n, e_c, e_d, e_do, e_nil, e_cons, e_op2, e_un, e_chain, e_b, e_not, e_and, e_or, e_andV, e_orV, e_notV, e_if, e_ifS, e_call, e_callN, e_callF, e_fz, e_tup, e_tupZ, e_lst, e_set, e_asg, e_put, e_get2, e_mut, e_mtr, e_for, e_iter, e_over, e_lc, e_yes, e_pno, e_po, e_cut, e_par2, e_par3, e_catN, e_newT, e_name, e_loc, e_take, e_move, e_gname, c_d, c_loc, k_loc, cs_nil', cs_cons', fz_fro, fz_lst, fz_dT, bnd_some, bnd_none, Option.bind_some, Option.bind_none, Option.map_some, Option.map_none, List.getElem?_cons_zero, List.getElem?_cons_succ, List.length_cons, List.length_nil, if_true, List.map_cons, List.map_nil, Nat.reduceSub, List.replicate_zero, List.replicate_succ, List.append_nil, List.cons_append, List.nil_append, List.set_cons_zero, List.set_cons_succ, Nat.reduceAdd, Nat.reduceLT, Nat.reduceLeDiff, argsO_nil, argsO_d, argsO_loc, locs_nil, locs_d, locs_loc, nodup_nil', nodup_one, backE_nil, backE_d, backE_loc, wipeE_nil, wipeE_cons, calmE_nil, calmE_none, restE_nil, restE_cons, keep_0, keep_1, keep_2, keep_3, keep_4, own_lst, own_dT, own_fro, ite_true', ite_false', reduceIte, Bool.not_true, Bool.not_false, Bool.false_eq_true, Option.join_some, List.head?_cons, List.tail_cons, set_loc, Option.getD_some, Option.getD_none, and_self, and_true, true_and, List.lookup, fr, Bool.true_and, Bool.false_and, Bool.and_true, Bool.and_false, Bool.and_self, Bool.true_or, Bool.false_or, Bool.or_true, Bool.or_false, e_fld, e_fldO, e_fldSet, e_gmFld, e_gmNil, e_gmCons, e_gmTup, e_gmKtup, e_meth, e_make, e_methT, c_fld, k_fld, set_fld, eq_self, cond_true, cond_false, true_or, or_true, false_or, or_false, isi_tuple (x := .int _) rfl, isi_list (x := .int _) rfl, isi_bool (x := .int _) rfl, isi_int (x := .int _) rfl, isIntD, isBlD', isTupD, isLstD, is_non, isNonD, int_i, dEq_int, List.mem_nil_iff]
  | @str k i _ =>
    show fnRun 2 3 [] (m__law_same (run__law_same k)) _ = _
    unfold fnRun m__law_same
    simp -implicitDefEqProofs -dsimp only [e_seq, e_skip, e_never, e_ret, e_n, e_c, e_d, e_do, e_nil, e_cons, e_op2, e_un, e_chain, e_b, e_not, e_and, e_or, e_andV, e_orV, e_notV, e_if, e_ifS, e_call, e_callN, e_callF, e_fz, e_tup, e_tupZ, e_lst, e_set, e_asg, e_put, e_get2, e_mut, e_mtr, e_for, e_iter, e_over, e_lc, e_yes, e_pno, e_po, e_cut, e_par2, e_par3, e_catN, e_newT, e_name, e_loc, e_take, e_move, e_gname, c_d, c_loc, k_loc, cs_nil', cs_cons', fz_fro, fz_lst, fz_dT, bnd_some, bnd_none, Option.bind_some, Option.bind_none, Option.map_some, Option.map_none, List.getElem?_cons_zero, List.getElem?_cons_succ, List.length_cons, List.length_nil, if_true, List.map_cons, List.map_nil, Nat.reduceSub, List.replicate_zero, List.replicate_succ, List.append_nil, List.cons_append, List.nil_append, List.set_cons_zero, List.set_cons_succ, Nat.reduceAdd, Nat.reduceLT, Nat.reduceLeDiff, argsO_nil, argsO_d, argsO_loc, locs_nil, locs_d, locs_loc, nodup_nil', nodup_one, backE_nil, backE_d, backE_loc, wipeE_nil, wipeE_cons, calmE_nil, calmE_none, restE_nil, restE_cons, keep_0, keep_1, keep_2, keep_3, keep_4, own_lst, own_dT, own_fro, ite_true', ite_false', reduceIte, Bool.not_true, Bool.not_false, Bool.false_eq_true, Option.join_some, List.head?_cons, List.tail_cons, set_loc, Option.getD_some, Option.getD_none, and_self, and_true, true_and, List.lookup, fr, Bool.true_and, Bool.false_and, Bool.and_true, Bool.and_false, Bool.and_self, Bool.true_or, Bool.false_or, Bool.or_true, Bool.or_false, e_fld, e_fldO, e_fldSet, e_gmFld, e_gmNil, e_gmCons, e_gmTup, e_gmKtup, e_meth, e_make, e_methT, c_fld, k_fld, set_fld, eq_self, cond_true, cond_false, true_or, or_true, false_or, or_false, isi_tuple (x := .str _) rfl, isi_list (x := .str _) rfl, isi_bool (x := .str _) rfl, isi_int (x := .str _) rfl, isi_str (x := .str _) rfl, isStrD, isIntD, isBlD', isTupD, isLstD, is_non, isNonD, fStr, dEq_str, List.mem_nil_iff]
  | @tup k xs h hz ih => exact same_seq k _ xs ih (fun _ => rfl) rfl hz rfl (.inl rfl)
  | @ktup k xs h hz ih => exact same_seq k _ xs ih (fun _ => rfl) rfl hz rfl (.inl rfl)
  | @lst k xs h hz ih => exact same_seq k _ xs ih (fun _ => rfl) rfl hz rfl (.inr rfl)
end K87
end
section
set_option Elab.async false
set_option linter.all false
set_option maxRecDepth 100000
set_option maxHeartbeats 1000000
set_option autoImplicit false
namespace K87
open PySem PySem.Spec PyProof.Rows L2 VL
/-! ### ants -/
def sgn (b : Bool) : Nat := if b then 114 else 108
def ruleS (bs : List Bool) : Str := ⟨(bs.map sgn).toArray⟩
structure Ant where
  bs : List Bool
  h : Nat
  w : Nat
  r : Int
  c : Int
  hd : Int
  col : Pt → Int
structure Ok (A : Ant) : Prop where
  n2 : 2 ≤ A.bs.length
  n6 : A.bs.length ≤ 6
  h1 : 1 ≤ A.h
  h2 : A.h ≤ 20
  w1 : 1 ≤ A.w
  w2 : A.w ≤ 20
  r0 : 0 ≤ A.r
  r1 : A.r < A.h
  c0 : 0 ≤ A.c
  c1 : A.c < A.w
  d0 : 0 ≤ A.hd
  d1 : A.hd < 4
  k0 : ∀ p, 0 ≤ A.col p
  k1 : ∀ p, A.col p < A.bs.length
  k2 : ∀ p, 0 < A.col p → p ∈ cells A.h A.w
def pts (A : Ant) : List Pt := ptsOf A.h A.w A.col
def paintT (A : Ant) : List (Pt × Int) := (pts A).map fun p => (p, A.col p)
def antD (A : Ant) : D := .tup [.str (ruleS A.bs), .int A.h, .int A.w, .tup [.int A.r, .int A.c], .int A.hd, .ktup (pairsD .int (paintT A))]
structure Tab (A : Ant) (T : List (Pt × Int)) : Prop where
  nd : (T.map (·.1)).Nodup
  ks : ∀ p ∈ T.map (·.1), p ∈ cells A.h A.w
  lk : ∀ p, look T p = if 0 < A.col p then some (A.col p) else none
theorem keys_paint {A : Ant} : (paintT A).map (·.1) = pts A := by
  unfold paintT
  rw [List.map_map]
  exact List.map_id _
theorem mem_pts {A : Ant} (h : Ok A) {p : Pt} : p ∈ pts A ↔ 0 < A.col p := by
  unfold pts ptsOf
  rw [List.mem_filter, decide_eq_true_eq]
  exact ⟨fun g => g.2, fun g => ⟨h.k2 p g, g⟩⟩
theorem tab_paint {A : Ant} (h : Ok A) : Tab A (paintT A) := by
  have nd : ((paintT A).map (·.1)).Nodup := by rw [keys_paint]; exact sorted_nodup ptsOf_sorted
  refine ⟨nd, fun p hp => ?_, fun p => ?_⟩
  · rw [keys_paint] at hp; exact h.k2 p ((mem_pts h).mp hp)
  · by_cases g : 0 < A.col p
    · rw [if_pos g]
      exact look_of_mem nd (List.mem_map.mpr ⟨p, (mem_pts h).mpr g, rfl⟩)
    · rw [if_neg g]
      exact look_none.mpr (by rw [keys_paint, mem_pts h]; exact g)
theorem tab_len {A : Ant} {T : List (Pt × Int)} (h : Ok A) (t : Tab A T) : T.length ≤ 400 := by
  have := nodup_len t.nd t.ks
  rw [List.length_map] at this
  have := Nat.mul_le_mul h.h2 h.w2
  omega
def bxF (R h w cell hd : D) (P : O1) : List (Str × O1) := [("rule", .fro R), ("high", .fro h), ("wide", .fro w), ("cell", .fro cell), ("heading", .fro hd), ("paint", P)]
section
variable {R h w cell hd x : D} {P Q : O1}
theorem l_rule : (bxF R h w cell hd P).lookup ("rule" : Str) = some (.fro R) := rfl
theorem l_high : (bxF R h w cell hd P).lookup ("high" : Str) = some (.fro h) := rfl
theorem l_wide : (bxF R h w cell hd P).lookup ("wide" : Str) = some (.fro w) := rfl
theorem l_cell : (bxF R h w cell hd P).lookup ("cell" : Str) = some (.fro cell) := rfl
theorem l_heading : (bxF R h w cell hd P).lookup ("heading" : Str) = some (.fro hd) := rfl
theorem l_paint : (bxF R h w cell hd P).lookup ("paint" : Str) = some P := rfl
theorem l_put : (bxF R h w cell hd P).lookup ("put" : Str) = none := rfl
theorem l_move : (bxF R h w cell hd P).lookup ("move" : Str) = none := rfl
theorem l_step : (bxF R h w cell hd P).lookup ("step" : Str) = none := rfl
theorem l_back : (bxF R h w cell hd P).lookup ("back" : Str) = none := rfl
theorem l_ant : (bxF R h w cell hd P).lookup ("ant" : Str) = none := rfl
theorem p_cell : putO ("cell" : Str) (.fro x) (bxF R h w cell hd P) = bxF R h w x hd P := rfl
theorem p_heading : putO ("heading" : Str) (.fro x) (bxF R h w cell hd P) = bxF R h w cell x P := rfl
theorem p_paint : putO ("paint" : Str) Q (bxF R h w cell hd P) = bxF R h w cell hd Q := rfl
def f1 (R : D) : List (Str × O1) := [("rule", .fro R)]
def f2 (R h : D) : List (Str × O1) := [("rule", .fro R), ("high", .fro h)]
def f3 (R h w : D) : List (Str × O1) := [("rule", .fro R), ("high", .fro h), ("wide", .fro w)]
def f4 (R h w cell : D) : List (Str × O1) := [("rule", .fro R), ("high", .fro h), ("wide", .fro w), ("cell", .fro cell)]
def f5 (R h w cell hd : D) : List (Str × O1) := [("rule", .fro R), ("high", .fro h), ("wide", .fro w), ("cell", .fro cell), ("heading", .fro hd)]
theorem p_0 : putO ("rule" : Str) (.fro R) [] = f1 R := rfl
theorem p_1 : putO ("high" : Str) (.fro h) (f1 R) = f2 R h := rfl
theorem fl_1 : (f1 R).length < 1000 := (by decide : 1 < 1000)
theorem p_2 : putO ("wide" : Str) (.fro w) (f2 R h) = f3 R h w := rfl
theorem fl_2 : (f2 R h).length < 1000 := (by decide : 2 < 1000)
theorem p_3 : putO ("cell" : Str) (.fro cell) (f3 R h w) = f4 R h w cell := rfl
theorem fl_3 : (f3 R h w).length < 1000 := (by decide : 3 < 1000)
theorem p_4 : putO ("heading" : Str) (.fro hd) (f4 R h w cell) = f5 R h w cell hd := rfl
theorem fl_4 : (f4 R h w cell).length < 1000 := (by decide : 4 < 1000)
theorem fl_5 : (f5 R h w cell hd).length < 1000 := (by decide : 5 < 1000)
theorem p_5 : putO ("paint" : Str) P (f5 R h w cell hd) = bxF R h w cell hd P := rfl
theorem p_len : (bxF R h w cell hd P).length < 1000 := (by decide : 6 < 1000)
end
def bx (A : Ant) (T : List (Pt × Int)) : List (Str × O1) := bxF (.str (ruleS A.bs)) (.int A.h) (.int A.w) (.tup [.int A.r, .int A.c]) (.int A.hd) (.dT (gI .int T))
/-! ### the moves -/
theorem r_rest_of {n m : Int} (h0 : 0 < m) (h : m < 1073741824) : run_rest_of [fr (.int n), fr (.int m)] = some (fr (.int (n % m)), [none, none]) := by
  unfold run_rest_of fnRun m_rest_of
  have e : n - n / m * m = n % m := by rw [Int.emod_def, Int.mul_comm]
  simp -implicitDefEqProofs -dsimp only [e_seq, e_skip, e_never, e_ret, e_n, e_c, e_d, e_do, e_nil, e_cons, e_op2, e_un, e_chain, e_b, e_not, e_and, e_or, e_andV, e_orV, e_notV, e_if, e_ifS, e_call, e_callN, e_callF, e_fz, e_tup, e_tupZ, e_lst, e_set, e_asg, e_put, e_get2, e_mut, e_mtr, e_for, e_iter, e_over, e_lc, e_yes, e_pno, e_po, e_cut, e_par2, e_par3, e_catN, e_newT, e_name, e_loc, e_take, e_move, e_gname, c_d, c_loc, k_loc, cs_nil', cs_cons', fz_fro, fz_lst, fz_dT, bnd_some, bnd_none, Option.bind_some, Option.bind_none, Option.map_some, Option.map_none, List.getElem?_cons_zero, List.getElem?_cons_succ, List.length_cons, List.length_nil, if_true, List.map_cons, List.map_nil, Nat.reduceSub, List.replicate_zero, List.replicate_succ, List.append_nil, List.cons_append, List.nil_append, List.set_cons_zero, List.set_cons_succ, Nat.reduceAdd, Nat.reduceLT, Nat.reduceLeDiff, argsO_nil, argsO_d, argsO_loc, locs_nil, locs_d, locs_loc, nodup_nil', nodup_one, backE_nil, backE_d, backE_loc, wipeE_nil, wipeE_cons, calmE_nil, calmE_none, restE_nil, restE_cons, keep_0, keep_1, keep_2, keep_3, keep_4, own_lst, own_dT, own_fro, ite_true', ite_false', reduceIte, Bool.not_true, Bool.not_false, Bool.false_eq_true, Option.join_some, List.head?_cons, List.tail_cons, set_loc, Option.getD_some, Option.getD_none, and_self, and_true, true_and, List.lookup, fr, Bool.true_and, Bool.false_and, Bool.and_true, Bool.and_false, Bool.and_self, Bool.true_or, Bool.false_or, Bool.or_true, Bool.or_false, e_fld, e_fldO, e_fldSet, e_gmFld, e_gmNil, e_gmCons, e_gmTup, e_gmKtup, e_meth, e_make, e_methT, c_fld, k_fld, set_fld, eq_self, cond_true, cond_false, true_or, or_true, false_or, or_false, dFdiv_i h0 h, dMul_r (i := n / m) (j := m) (by omega), dSub_i, e, List.mem_nil_iff]
def dr (d : Int) : Int := if d = 0 then -1 else if d = 2 then 1 else 0
def dc (d : Int) : Int := if d = 1 then 1 else if d = 3 then -1 else 0
theorem ahead {d : Int} (h0 : 0 ≤ d) (h1 : d < 4) : dIx d_AHEAD (.int d) = some (.ktup [.int (dr d), .int (dc d)]) := by
  rcases (by omega : d = 0 ∨ d = 1 ∨ d = 2 ∨ d = 3) with rfl | rfl | rfl | rfl <;> rfl
def moved (A : Ant) (k : Int) : Ant := { A with r := (A.r + k * dr A.hd) % A.h, c := (A.c + k * dc A.hd) % A.w }
theorem r_move {C : Addr} {A : Ant} {T : List (Pt × Int)} (h : Ok A) {k : Int} (hk : -2 < k ∧ k < 2) : run_Box_move C [.ins C (bx A T), fr (.int k)] = some (fr .non, [some (.ins C (bx (moved A k) T)), none]) := by
  have h1 := h.h1
  have h2 := h.h2
  have w1 := h.w1
  have w2 := h.w2
  have e1 := r_rest_of (n := A.r + k * dr A.hd) (m := A.h) (by omega) (by omega)
  have e2 := r_rest_of (n := A.c + k * dc A.hd) (m := A.w) (by omega) (by omega)
  unfold run_Box_move fnRun m_Box_move bx
  simp -implicitDefEqProofs -dsimp only [e_seq, e_skip, e_never, e_ret, e_n, e_c, e_d, e_do, e_nil, e_cons, e_op2, e_un, e_chain, e_b, e_not, e_and, e_or, e_andV, e_orV, e_notV, e_if, e_ifS, e_call, e_callN, e_callF, e_fz, e_tup, e_tupZ, e_lst, e_set, e_asg, e_put, e_get2, e_mut, e_mtr, e_for, e_iter, e_over, e_lc, e_yes, e_pno, e_po, e_cut, e_par2, e_par3, e_catN, e_newT, e_name, e_loc, e_take, e_move, e_gname, c_d, c_loc, k_loc, cs_nil', cs_cons', fz_fro, fz_lst, fz_dT, bnd_some, bnd_none, Option.bind_some, Option.bind_none, Option.map_some, Option.map_none, List.getElem?_cons_zero, List.getElem?_cons_succ, List.length_cons, List.length_nil, if_true, List.map_cons, List.map_nil, Nat.reduceSub, List.replicate_zero, List.replicate_succ, List.append_nil, List.cons_append, List.nil_append, List.set_cons_zero, List.set_cons_succ, Nat.reduceAdd, Nat.reduceLT, Nat.reduceLeDiff, argsO_nil, argsO_d, argsO_loc, locs_nil, locs_d, locs_loc, nodup_nil', nodup_one, backE_nil, backE_d, backE_loc, wipeE_nil, wipeE_cons, calmE_nil, calmE_none, restE_nil, restE_cons, keep_0, keep_1, keep_2, keep_3, keep_4, own_lst, own_dT, own_fro, ite_true', ite_false', reduceIte, Bool.not_true, Bool.not_false, Bool.false_eq_true, Option.join_some, List.head?_cons, List.tail_cons, set_loc, Option.getD_some, Option.getD_none, and_self, and_true, true_and, List.lookup, fr, Bool.true_and, Bool.false_and, Bool.and_true, Bool.and_false, Bool.and_self, Bool.true_or, Bool.false_or, Bool.or_true, Bool.or_false, e_fld, e_fldO, e_fldSet, e_gmFld, e_gmNil, e_gmCons, e_gmTup, e_gmKtup, e_meth, e_make, e_methT, c_fld, k_fld, set_fld, eq_self, cond_true, cond_false, true_or, or_true, false_or, or_false, l_heading, ahead h.d0 h.d1, l_cell, dIx_t, at_0, at_1, dMul_l (i := k) (j := dr A.hd) (by omega), dMul_l (i := k) (j := dc A.hd) (by omega), dAdd_i, l_high, l_wide, e1, e2, p_cell, p_len, List.mem_singleton]
  rfl
/-! ### putting a colour -/
def colSet (f : Pt → Int) (p : Pt) (v : Int) : Pt → Int := fun q => if p = q then v else f q
def painted (A : Ant) (v : Int) : Ant := { A with col := colSet A.col (A.r, A.c) v }
theorem size_rule {bs : List Bool} : (ruleS bs).cps.size = bs.length := by simp [ruleS]
theorem len_rule {bs : List Bool} (h : bs.length ≤ 6) : fLen [.str (ruleS bs)] = some (.int bs.length) := by
  have e : (ruleS bs).length = bs.length := size_rule
  rw [len_s (by rw [e]; omega), e]
theorem drop_none {T : List (Pt × Int)} {p : Pt} (h : look T p = none) : dropT T p = T := by
  unfold dropT
  refine List.filter_eq_self.mpr fun kv hkv => ?_
  refine decide_eq_true fun e => look_none.mp h (List.mem_map.mpr ⟨kv, hkv, e⟩)
theorem pop_T {T : List (Pt × Int)} {p : Pt} : ∃ d, dPopT (.dT (gI .int T)) [VL.pairD p, .non] = some (d, .dT (gI .int (dropT T p))) := by
  show ∃ d, (match getT (gI .int T) (pk p) with
    | some v => some (v, O1.dT (dropT (gI .int T) (pk p)))
    | none => some (.non, O1.dT (gI .int T))) = _
  rw [getT_gI]
  cases q : look T p with
  | none => exact ⟨.non, by rw [drop_none q]; rfl⟩
  | some v => exact ⟨.int v, by rw [dropT_gI]; rfl⟩
def newT (A : Ant) (T : List (Pt × Int)) (v : Int) : List (Pt × Int) := if 0 < v then putT (dropT T (A.r, A.c)) (A.r, A.c) v else dropT T (A.r, A.c)
theorem here {A : Ant} (h : Ok A) : (A.r, A.c) ∈ cells A.h A.w := mem_cells.mpr ⟨⟨h.r0, h.r1⟩, h.c0, h.c1⟩
theorem keys_drop {T : List (Pt × Int)} {p q : Pt} (h : q ∈ (dropT T p).map (·.1)) : q ∈ T.map (·.1) := by
  unfold dropT at h
  obtain ⟨x, hx, rfl⟩ := List.mem_map.mp h
  exact List.mem_map.mpr ⟨x, (List.mem_filter.mp hx).1, rfl⟩
theorem tab_new {A : Ant} {T : List (Pt × Int)} (h : Ok A) (t : Tab A T) {v : Int} : Tab (painted A v) (newT A T v) := by
  unfold newT
  by_cases g : 0 < v
  · rw [if_pos g]
    refine ⟨nodup_put (nodup_drop t.nd), fun p hp => ?_, fun p => ?_⟩
    · rw [keys_put] at hp
      split at hp
      · exact t.ks p (keys_drop hp)
      · rcases List.mem_append.mp hp with hp | hp
        · exact t.ks p (keys_drop hp)
        · rw [List.mem_singleton] at hp; subst hp; exact here (A := A) h
    · rw [look_put, look_drop]
      show _ = if 0 < colSet A.col (A.r, A.c) v p then some (colSet A.col (A.r, A.c) v p) else none
      unfold colSet
      by_cases e : (A.r, A.c) = p
      · rw [if_pos e, if_pos e, if_pos g]
      · rw [if_neg e, if_neg e, if_neg e]; exact t.lk p
  · rw [if_neg g]
    refine ⟨nodup_drop t.nd, fun p hp => t.ks p (keys_drop hp), fun p => ?_⟩
    rw [look_drop]
    show _ = if 0 < colSet A.col (A.r, A.c) v p then some (colSet A.col (A.r, A.c) v p) else none
    unfold colSet
    by_cases e : (A.r, A.c) = p
    · rw [if_pos e, if_pos e, if_neg g]
    · rw [if_neg e, if_neg e]; exact t.lk p
theorem ok_painted {A : Ant} (h : Ok A) {v : Int} (v0 : 0 ≤ v) (v1 : v < A.bs.length) : Ok (painted A v) := by
  refine ⟨h.n2, h.n6, h.h1, h.h2, h.w1, h.w2, h.r0, h.r1, h.c0, h.c1, h.d0, h.d1, fun p => ?_, fun p => ?_, fun p hp => ?_⟩
  · show 0 ≤ colSet A.col (A.r, A.c) v p
    unfold colSet; split
    · exact v0
    · exact h.k0 p
  · show colSet A.col (A.r, A.c) v p < A.bs.length
    unfold colSet; split
    · exact v1
    · exact h.k1 p
  · show p ∈ cells A.h A.w
    by_cases e : (A.r, A.c) = p
    · rw [← e]; exact here (A := A) h
    · refine h.k2 p ?_
      have hp : 0 < colSet A.col (A.r, A.c) v p := hp
      unfold colSet at hp; rw [if_neg e] at hp; exact hp
theorem r_put {C : Addr} {A : Ant} {T : List (Pt × Int)} (h : Ok A) (t : Tab A T) {k : Int} : run_Box_put C [.ins C (bx A T), fr (.int k)] = some (fr .non, [some (.ins C (bx (painted A (k % A.bs.length)) (newT A T (k % A.bs.length)))), none]) := by
  have n2 := h.n2
  have n6 := h.n6
  have e1 := r_rest_of (n := k) (m := A.bs.length) (by omega) (by omega)
  obtain ⟨d, e2⟩ := pop_T (T := T) (p := (A.r, A.c))
  have e2 : dPopT (.dT (gI .int T)) [.tup [.int A.r, .int A.c], .non] = some (d, .dT (gI .int (dropT T (A.r, A.c)))) := e2
  have tl := tab_len h t
  have dl : (dropT T (A.r, A.c)).length < 16777216 := Nat.lt_of_le_of_lt len_drop (by omega)
  have e3 : dPut (.dT (gI .int (dropT T (A.r, A.c)))) (.tup [.int A.r, .int A.c]) (.int (k % A.bs.length)) = some (.dT (gI .int (putT (dropT T (A.r, A.c)) (A.r, A.c) (k % A.bs.length)))) := by
    show (if (gI D.int (dropT T (A.r, A.c))).length < 16777216 then some (O1.dT (putT (gI .int (dropT T (A.r, A.c))) (pk (A.r, A.c)) (.int (k % A.bs.length)))) else none) = _
    rw [len_gI, if_pos dl, putT_gI (f := D.int)]
  have k1 : ∀ {T : List (List Key × D)}, kindT "dict" (.dT T) = true := rfl
  unfold run_Box_put fnRun m_Box_put bx newT
  by_cases g : 0 < k % (A.bs.length : Int)
  · simp -implicitDefEqProofs -dsimp only [e_seq, e_skip, e_never, e_ret, e_n, e_c, e_d, e_do, e_nil, e_cons, e_op2, e_un, e_chain, e_b, e_not, e_and, e_or, e_andV, e_orV, e_notV, e_if, e_ifS, e_call, e_callN, e_callF, e_fz, e_tup, e_tupZ, e_lst, e_set, e_asg, e_put, e_get2, e_mut, e_mtr, e_for, e_iter, e_over, e_lc, e_yes, e_pno, e_po, e_cut, e_par2, e_par3, e_catN, e_newT, e_name, e_loc, e_take, e_move, e_gname, c_d, c_loc, k_loc, cs_nil', cs_cons', fz_fro, fz_lst, fz_dT, bnd_some, bnd_none, Option.bind_some, Option.bind_none, Option.map_some, Option.map_none, List.getElem?_cons_zero, List.getElem?_cons_succ, List.length_cons, List.length_nil, if_true, List.map_cons, List.map_nil, Nat.reduceSub, List.replicate_zero, List.replicate_succ, List.append_nil, List.cons_append, List.nil_append, List.set_cons_zero, List.set_cons_succ, Nat.reduceAdd, Nat.reduceLT, Nat.reduceLeDiff, argsO_nil, argsO_d, argsO_loc, locs_nil, locs_d, locs_loc, nodup_nil', nodup_one, backE_nil, backE_d, backE_loc, wipeE_nil, wipeE_cons, calmE_nil, calmE_none, restE_nil, restE_cons, keep_0, keep_1, keep_2, keep_3, keep_4, own_lst, own_dT, own_fro, ite_true', ite_false', reduceIte, Bool.not_true, Bool.not_false, Bool.false_eq_true, Option.join_some, List.head?_cons, List.tail_cons, set_loc, Option.getD_some, Option.getD_none, and_self, and_true, true_and, List.lookup, fr, Bool.true_and, Bool.false_and, Bool.and_true, Bool.and_false, Bool.and_self, Bool.true_or, Bool.false_or, Bool.or_true, Bool.or_false, e_fld, e_fldO, e_fldSet, e_gmFld, e_gmNil, e_gmCons, e_gmTup, e_gmKtup, e_meth, e_make, e_methT, c_fld, k_fld, set_fld, eq_self, cond_true, cond_false, true_or, or_true, false_or, or_false, l_rule, len_rule h.n6, e1, l_paint, l_cell, k1, e2, dGt_i, decide_eq_true g, e3, own_dT, p_paint, if_pos g, List.mem_singleton, painted]
    rfl
  · simp -implicitDefEqProofs -dsimp only [e_seq, e_skip, e_never, e_ret, e_n, e_c, e_d, e_do, e_nil, e_cons, e_op2, e_un, e_chain, e_b, e_not, e_and, e_or, e_andV, e_orV, e_notV, e_if, e_ifS, e_call, e_callN, e_callF, e_fz, e_tup, e_tupZ, e_lst, e_set, e_asg, e_put, e_get2, e_mut, e_mtr, e_for, e_iter, e_over, e_lc, e_yes, e_pno, e_po, e_cut, e_par2, e_par3, e_catN, e_newT, e_name, e_loc, e_take, e_move, e_gname, c_d, c_loc, k_loc, cs_nil', cs_cons', fz_fro, fz_lst, fz_dT, bnd_some, bnd_none, Option.bind_some, Option.bind_none, Option.map_some, Option.map_none, List.getElem?_cons_zero, List.getElem?_cons_succ, List.length_cons, List.length_nil, if_true, List.map_cons, List.map_nil, Nat.reduceSub, List.replicate_zero, List.replicate_succ, List.append_nil, List.cons_append, List.nil_append, List.set_cons_zero, List.set_cons_succ, Nat.reduceAdd, Nat.reduceLT, Nat.reduceLeDiff, argsO_nil, argsO_d, argsO_loc, locs_nil, locs_d, locs_loc, nodup_nil', nodup_one, backE_nil, backE_d, backE_loc, wipeE_nil, wipeE_cons, calmE_nil, calmE_none, restE_nil, restE_cons, keep_0, keep_1, keep_2, keep_3, keep_4, own_lst, own_dT, own_fro, ite_true', ite_false', reduceIte, Bool.not_true, Bool.not_false, Bool.false_eq_true, Option.join_some, List.head?_cons, List.tail_cons, set_loc, Option.getD_some, Option.getD_none, and_self, and_true, true_and, List.lookup, fr, Bool.true_and, Bool.false_and, Bool.and_true, Bool.and_false, Bool.and_self, Bool.true_or, Bool.false_or, Bool.or_true, Bool.or_false, e_fld, e_fldO, e_fldSet, e_gmFld, e_gmNil, e_gmCons, e_gmTup, e_gmKtup, e_meth, e_make, e_methT, c_fld, k_fld, set_fld, eq_self, cond_true, cond_false, true_or, or_true, false_or, or_false, l_rule, len_rule h.n6, e1, l_paint, l_cell, k1, e2, dGt_i, decide_eq_false g, own_dT, p_paint, if_neg g, List.mem_singleton, painted]
    rfl
end K87
end
section
set_option Elab.async false
set_option linter.all false
set_option maxRecDepth 100000
set_option maxHeartbeats 1000000
set_option autoImplicit false
namespace K87
open PySem PySem.Spec PyProof.Rows L2 VL
def here0 (A : Ant) : Int := A.col (A.r, A.c)
def bit (A : Ant) (k : Int) : Bool := A.bs.getD k.toNat false
def turn (b : Bool) : Int := if b then 1 else -1
def headed (A : Ant) (d : Int) : Ant := { A with hd := d % 4 }
def stepA (A : Ant) : Ant := moved (painted (headed A (A.hd + turn (bit A (here0 A)))) ((here0 A + 1) % A.bs.length)) 1
def backA (A : Ant) : Ant :=
  let B := moved A (-1)
  let k := (here0 B - 1) % A.bs.length
  headed (painted B k) (A.hd - turn (bit A k))
theorem rule_at {bs : List Bool} {k : Int} (h0 : 0 ≤ k) (h1 : k < bs.length) (h6 : bs.length ≤ 6) : dIx (.str (ruleS bs)) (.int k) = some (.str ⟨#[sgn (bs.getD k.toNat false)]⟩) := by
  rw [dIx_s (by rw [size_rule]; omega)]
  obtain ⟨n, rfl⟩ := Int.eq_ofNat_of_zero_le h0
  have hn : n < bs.length := by omega
  rw [at_n]
  unfold ruleS
  simp [List.getElem?_eq_getElem hn]
theorem is_r {b : Bool} : dEq (.str ⟨#[sgn b]⟩) (.str "r") = some (.bl b) := by
  rw [dEq_ss]
  cases b <;> rfl
theorem ok_moved {A : Ant} (h : Ok A) (k : Int) : Ok (moved A k) := by
  have h1 := h.h1
  have w1 := h.w1
  exact ⟨h.n2, h.n6, h.h1, h.h2, h.w1, h.w2, Int.emod_nonneg _ (by omega), Int.emod_lt_of_pos _ (by omega), Int.emod_nonneg _ (by omega), Int.emod_lt_of_pos _ (by omega), h.d0, h.d1, h.k0, h.k1, h.k2⟩
theorem ok_headed {A : Ant} (h : Ok A) (d : Int) : Ok (headed A d) :=
  ⟨h.n2, h.n6, h.h1, h.h2, h.w1, h.w2, h.r0, h.r1, h.c0, h.c1, Int.emod_nonneg _ (by omega), Int.emod_lt_of_pos _ (by omega), h.k0, h.k1, h.k2⟩
theorem tab_moved {A : Ant} {T : List (Pt × Int)} (t : Tab A T) (k : Int) : Tab (moved A k) T := ⟨t.nd, t.ks, t.lk⟩
theorem tab_headed {A : Ant} {T : List (Pt × Int)} (t : Tab A T) (d : Int) : Tab (headed A d) T := ⟨t.nd, t.ks, t.lk⟩
theorem ok_mod {A : Ant} (h : Ok A) (k : Int) : 0 ≤ k % (A.bs.length : Int) ∧ k % (A.bs.length : Int) < A.bs.length := by
  have n2 := h.n2
  exact ⟨Int.emod_nonneg _ (by omega), Int.emod_lt_of_pos _ (by omega)⟩
theorem ok_step {A : Ant} (h : Ok A) : Ok (stepA A) := ok_moved (ok_painted (ok_headed h _) (ok_mod h _).1 (ok_mod h _).2) _
theorem ok_back {A : Ant} (h : Ok A) : Ok (backA A) := ok_headed (ok_painted (ok_moved h _) (ok_mod h _).1 (ok_mod h _).2) _
theorem look_here {A : Ant} {T : List (Pt × Int)} (h : Ok A) (t : Tab A T) : (getT (gI .int T) (pk (A.r, A.c))).getD (.int 0) = .int (here0 A) := by
  rw [getT_gI, t.lk]
  have := h.k0 (A.r, A.c)
  unfold here0
  by_cases g : 0 < A.col (A.r, A.c)
  · rw [if_pos g]; rfl
  · rw [if_neg g]
    have : A.col (A.r, A.c) = 0 := by omega
    rw [this]; rfl
theorem dLook_here {A : Ant} {T : List (Pt × Int)} : dLook (.dT (gI .int T)) (.tup [.int A.r, .int A.c]) = some (getT (gI .int T) (pk (A.r, A.c))) := rfl
theorem isDict_T {T : List (List Key × D)} : isDict (.dT T) = true := rfl
section
variable {A : Ant} {T U : List (Pt × Int)} {x y : Int}
theorem b_rule : (bx A T).lookup ("rule" : Str) = some (.fro (.str (ruleS A.bs))) := rfl
theorem b_high : (bx A T).lookup ("high" : Str) = some (.fro (.int A.h)) := rfl
theorem b_wide : (bx A T).lookup ("wide" : Str) = some (.fro (.int A.w)) := rfl
theorem b_cell : (bx A T).lookup ("cell" : Str) = some (.fro (.tup [.int A.r, .int A.c])) := rfl
theorem b_heading : (bx A T).lookup ("heading" : Str) = some (.fro (.int A.hd)) := rfl
theorem b_paint : (bx A T).lookup ("paint" : Str) = some (.dT (gI .int T)) := rfl
theorem b_put : (bx A T).lookup ("put" : Str) = none := rfl
theorem b_move : (bx A T).lookup ("move" : Str) = none := rfl
theorem b_step : (bx A T).lookup ("step" : Str) = none := rfl
theorem b_back : (bx A T).lookup ("back" : Str) = none := rfl
theorem b_ant : (bx A T).lookup ("ant" : Str) = none := rfl
theorem b_head : putO ("heading" : Str) (.fro (.int (x % 4))) (bx A T) = bx (headed A x) T := rfl
theorem b_len : (bx A T).length < 1000 := (by decide : 6 < 1000)
end
theorem r_step {C : Addr} {A : Ant} {T : List (Pt × Int)} (h : Ok A) (t : Tab A T) : ∃ T', Tab (stepA A) T' ∧ run_Box_step C [.ins C (bx A T)] = some (fr .non, [some (.ins C (bx (stepA A) T'))]) := by
  have hk0 : 0 ≤ here0 A := h.k0 _
  have hk1 : here0 A < A.bs.length := h.k1 _
  have n6 := h.n6
  have hh := ok_headed h (A.hd + turn (bit A (here0 A)))
  have ht := tab_headed t (A.hd + turn (bit A (here0 A)))
  refine ⟨_, tab_moved (tab_new hh ht) _, ?_⟩
  unfold stepA
  have e1 := r_rest_of (n := A.hd + turn (bit A (here0 A))) (m := 4) (by decide) (by decide)
  have e2 := r_put (C := C) hh ht (k := here0 A + 1)
  have e3 := r_move (C := C) (T := newT (headed A (A.hd + turn (bit A (here0 A)))) T ((here0 A + 1) % (headed A (A.hd + turn (bit A (here0 A)))).bs.length)) (ok_painted hh (ok_mod hh (here0 A + 1)).1 (ok_mod hh (here0 A + 1)).2) (k := 1) (by decide)
  have e4 : (headed A (A.hd + turn (bit A (here0 A)))).bs = A.bs := rfl
  have r1 := rule_at hk0 hk1 n6
  rw [show A.bs.getD (here0 A).toNat false = bit A (here0 A) from rfl] at r1
  unfold run_Box_step fnRun m_Box_step
  generalize bit A (here0 A) = b at e1 e2 e3 e4 r1 ⊢
  cases b with
  | true =>
    simp only [show turn true = 1 from rfl] at e1 e2 e3 e4 ⊢
    simp -implicitDefEqProofs -dsimp only [e_seq, e_skip, e_never, e_ret, e_n, e_c, e_d, e_do, e_nil, e_cons, e_op2, e_un, e_chain, e_b, e_not, e_and, e_or, e_andV, e_orV, e_notV, e_if, e_ifS, e_call, e_callN, e_callF, e_fz, e_tup, e_tupZ, e_lst, e_set, e_asg, e_put, e_get2, e_mut, e_mtr, e_for, e_iter, e_over, e_lc, e_yes, e_pno, e_po, e_cut, e_par2, e_par3, e_catN, e_newT, e_name, e_loc, e_take, e_move, e_gname, c_d, c_loc, k_loc, cs_nil', cs_cons', fz_fro, fz_lst, fz_dT, bnd_some, bnd_none, Option.bind_some, Option.bind_none, Option.map_some, Option.map_none, List.getElem?_cons_zero, List.getElem?_cons_succ, List.length_cons, List.length_nil, if_true, List.map_cons, List.map_nil, Nat.reduceSub, List.replicate_zero, List.replicate_succ, List.append_nil, List.cons_append, List.nil_append, List.set_cons_zero, List.set_cons_succ, Nat.reduceAdd, Nat.reduceLT, Nat.reduceLeDiff, argsO_nil, argsO_d, argsO_loc, locs_nil, locs_d, locs_loc, nodup_nil', nodup_one, backE_nil, backE_d, backE_loc, wipeE_nil, wipeE_cons, calmE_nil, calmE_none, restE_nil, restE_cons, keep_0, keep_1, keep_2, keep_3, keep_4, own_lst, own_dT, own_fro, ite_true', ite_false', reduceIte, Bool.not_true, Bool.not_false, Bool.false_eq_true, Option.join_some, List.head?_cons, List.tail_cons, set_loc, Option.getD_some, Option.getD_none, and_self, and_true, true_and, List.lookup, fr, Bool.true_and, Bool.false_and, Bool.and_true, Bool.and_false, Bool.and_self, Bool.true_or, Bool.false_or, Bool.or_true, Bool.or_false, e_fld, e_fldO, e_fldSet, e_gmFld, e_gmNil, e_gmCons, e_gmTup, e_gmKtup, e_meth, e_make, e_methT, c_fld, k_fld, set_fld, eq_self, cond_true, cond_false, true_or, or_true, false_or, or_false, b_paint, b_cell, isDict_T, dLook_here, look_here h t, b_heading, b_rule, r1, is_r, dAdd_i, e1, b_head, b_len, b_put, e2, b_move, e3, List.mem_singleton]
    rfl
  | false =>
    simp only [show turn false = -1 from rfl] at e1 e2 e3 e4 ⊢
    simp -implicitDefEqProofs -dsimp only [e_seq, e_skip, e_never, e_ret, e_n, e_c, e_d, e_do, e_nil, e_cons, e_op2, e_un, e_chain, e_b, e_not, e_and, e_or, e_andV, e_orV, e_notV, e_if, e_ifS, e_call, e_callN, e_callF, e_fz, e_tup, e_tupZ, e_lst, e_set, e_asg, e_put, e_get2, e_mut, e_mtr, e_for, e_iter, e_over, e_lc, e_yes, e_pno, e_po, e_cut, e_par2, e_par3, e_catN, e_newT, e_name, e_loc, e_take, e_move, e_gname, c_d, c_loc, k_loc, cs_nil', cs_cons', fz_fro, fz_lst, fz_dT, bnd_some, bnd_none, Option.bind_some, Option.bind_none, Option.map_some, Option.map_none, List.getElem?_cons_zero, List.getElem?_cons_succ, List.length_cons, List.length_nil, if_true, List.map_cons, List.map_nil, Nat.reduceSub, List.replicate_zero, List.replicate_succ, List.append_nil, List.cons_append, List.nil_append, List.set_cons_zero, List.set_cons_succ, Nat.reduceAdd, Nat.reduceLT, Nat.reduceLeDiff, argsO_nil, argsO_d, argsO_loc, locs_nil, locs_d, locs_loc, nodup_nil', nodup_one, backE_nil, backE_d, backE_loc, wipeE_nil, wipeE_cons, calmE_nil, calmE_none, restE_nil, restE_cons, keep_0, keep_1, keep_2, keep_3, keep_4, own_lst, own_dT, own_fro, ite_true', ite_false', reduceIte, Bool.not_true, Bool.not_false, Bool.false_eq_true, Option.join_some, List.head?_cons, List.tail_cons, set_loc, Option.getD_some, Option.getD_none, and_self, and_true, true_and, List.lookup, fr, Bool.true_and, Bool.false_and, Bool.and_true, Bool.and_false, Bool.and_self, Bool.true_or, Bool.false_or, Bool.or_true, Bool.or_false, e_fld, e_fldO, e_fldSet, e_gmFld, e_gmNil, e_gmCons, e_gmTup, e_gmKtup, e_meth, e_make, e_methT, c_fld, k_fld, set_fld, eq_self, cond_true, cond_false, true_or, or_true, false_or, or_false, b_paint, b_cell, isDict_T, dLook_here, look_here h t, b_heading, b_rule, r1, is_r, dNeg_i, dAdd_i, e1, b_head, b_len, b_put, e2, b_move, e3, List.mem_singleton]
    rfl
theorem r_back {C : Addr} {A : Ant} {T : List (Pt × Int)} (h : Ok A) (t : Tab A T) : ∃ T', Tab (backA A) T' ∧ run_Box_back C [.ins C (bx A T)] = some (fr .non, [some (.ins C (bx (backA A) T'))]) := by
  have hm := ok_moved h (-1)
  have tm := tab_moved t (-1)
  have hk := ok_mod hm (here0 (moved A (-1)) - 1)
  have n6 := h.n6
  have n2 := h.n2
  have e0 := r_move (C := C) (T := T) h (k := -1) (by decide)
  have e1 := r_rest_of (n := here0 (moved A (-1)) - 1) (m := A.bs.length) (by omega) (by omega)
  have e2 := r_put (C := C) hm tm (k := (here0 (moved A (-1)) - 1) % A.bs.length)
  have e5 : (here0 (moved A (-1)) - 1) % (A.bs.length : Int) % ((moved A (-1)).bs.length : Int) = (here0 (moved A (-1)) - 1) % A.bs.length := Int.emod_emod_of_dvd _ (Int.dvd_refl _)
  rw [e5] at e2
  have hp := ok_painted hm hk.1 hk.2
  have tp := tab_new hm tm (v := (here0 (moved A (-1)) - 1) % A.bs.length)
  refine ⟨_, tab_headed tp _, ?_⟩
  unfold backA
  have e3 := r_rest_of (n := A.hd - turn (bit A ((here0 (moved A (-1)) - 1) % A.bs.length))) (m := 4) (by decide) (by decide)
  have r1 := rule_at hk.1 hk.2 n6
  rw [show (moved A (-1)).bs.getD ((here0 (moved A (-1)) - 1) % (moved A (-1)).bs.length).toNat false = bit A ((here0 (moved A (-1)) - 1) % A.bs.length) from rfl] at r1
  have r1 : dIx (.str (ruleS A.bs)) (.int ((here0 (moved A (-1)) - 1) % A.bs.length)) = some (.str ⟨#[sgn (bit A ((here0 (moved A (-1)) - 1) % A.bs.length))]⟩) := r1
  have f1 : ∀ v U, (bx (painted (moved A (-1)) v) U).lookup ("rule" : Str) = some (.fro (.str (ruleS A.bs))) := fun _ _ => rfl
  have f2 : ∀ v U, (bx (painted (moved A (-1)) v) U).lookup ("heading" : Str) = some (.fro (.int A.hd)) := fun _ _ => rfl
  have f3 : ∀ U, (bx (moved A (-1)) U).lookup ("rule" : Str) = some (.fro (.str (ruleS A.bs))) := fun _ => rfl
  unfold run_Box_back fnRun m_Box_back
  simp only
  generalize bit A ((here0 (moved A (-1)) - 1) % A.bs.length) = b at e3 r1 ⊢
  cases b with
  | true =>
    simp only [show turn true = 1 from rfl] at e3 ⊢
    simp -implicitDefEqProofs -dsimp only [e_seq, e_skip, e_never, e_ret, e_n, e_c, e_d, e_do, e_nil, e_cons, e_op2, e_un, e_chain, e_b, e_not, e_and, e_or, e_andV, e_orV, e_notV, e_if, e_ifS, e_call, e_callN, e_callF, e_fz, e_tup, e_tupZ, e_lst, e_set, e_asg, e_put, e_get2, e_mut, e_mtr, e_for, e_iter, e_over, e_lc, e_yes, e_pno, e_po, e_cut, e_par2, e_par3, e_catN, e_newT, e_name, e_loc, e_take, e_move, e_gname, c_d, c_loc, k_loc, cs_nil', cs_cons', fz_fro, fz_lst, fz_dT, bnd_some, bnd_none, Option.bind_some, Option.bind_none, Option.map_some, Option.map_none, List.getElem?_cons_zero, List.getElem?_cons_succ, List.length_cons, List.length_nil, if_true, List.map_cons, List.map_nil, Nat.reduceSub, List.replicate_zero, List.replicate_succ, List.append_nil, List.cons_append, List.nil_append, List.set_cons_zero, List.set_cons_succ, Nat.reduceAdd, Nat.reduceLT, Nat.reduceLeDiff, argsO_nil, argsO_d, argsO_loc, locs_nil, locs_d, locs_loc, nodup_nil', nodup_one, backE_nil, backE_d, backE_loc, wipeE_nil, wipeE_cons, calmE_nil, calmE_none, restE_nil, restE_cons, keep_0, keep_1, keep_2, keep_3, keep_4, own_lst, own_dT, own_fro, ite_true', ite_false', reduceIte, Bool.not_true, Bool.not_false, Bool.false_eq_true, Option.join_some, List.head?_cons, List.tail_cons, set_loc, Option.getD_some, Option.getD_none, and_self, and_true, true_and, List.lookup, fr, Bool.true_and, Bool.false_and, Bool.and_true, Bool.and_false, Bool.and_self, Bool.true_or, Bool.false_or, Bool.or_true, Bool.or_false, e_fld, e_fldO, e_fldSet, e_gmFld, e_gmNil, e_gmCons, e_gmTup, e_gmKtup, e_meth, e_make, e_methT, c_fld, k_fld, set_fld, eq_self, cond_true, cond_false, true_or, or_true, false_or, or_false, dNeg_i, b_move, e0, b_paint, b_cell, isDict_T, dLook_here, look_here hm tm, dSub_i, f3, len_rule h.n6, e1, b_put, e2, f1, f2, r1, is_r, e3, b_head, b_len, List.mem_singleton]
  | false =>
    simp only [show turn false = -1 from rfl] at e3 ⊢
    simp -implicitDefEqProofs -dsimp only [e_seq, e_skip, e_never, e_ret, e_n, e_c, e_d, e_do, e_nil, e_cons, e_op2, e_un, e_chain, e_b, e_not, e_and, e_or, e_andV, e_orV, e_notV, e_if, e_ifS, e_call, e_callN, e_callF, e_fz, e_tup, e_tupZ, e_lst, e_set, e_asg, e_put, e_get2, e_mut, e_mtr, e_for, e_iter, e_over, e_lc, e_yes, e_pno, e_po, e_cut, e_par2, e_par3, e_catN, e_newT, e_name, e_loc, e_take, e_move, e_gname, c_d, c_loc, k_loc, cs_nil', cs_cons', fz_fro, fz_lst, fz_dT, bnd_some, bnd_none, Option.bind_some, Option.bind_none, Option.map_some, Option.map_none, List.getElem?_cons_zero, List.getElem?_cons_succ, List.length_cons, List.length_nil, if_true, List.map_cons, List.map_nil, Nat.reduceSub, List.replicate_zero, List.replicate_succ, List.append_nil, List.cons_append, List.nil_append, List.set_cons_zero, List.set_cons_succ, Nat.reduceAdd, Nat.reduceLT, Nat.reduceLeDiff, argsO_nil, argsO_d, argsO_loc, locs_nil, locs_d, locs_loc, nodup_nil', nodup_one, backE_nil, backE_d, backE_loc, wipeE_nil, wipeE_cons, calmE_nil, calmE_none, restE_nil, restE_cons, keep_0, keep_1, keep_2, keep_3, keep_4, own_lst, own_dT, own_fro, ite_true', ite_false', reduceIte, Bool.not_true, Bool.not_false, Bool.false_eq_true, Option.join_some, List.head?_cons, List.tail_cons, set_loc, Option.getD_some, Option.getD_none, and_self, and_true, true_and, List.lookup, fr, Bool.true_and, Bool.false_and, Bool.and_true, Bool.and_false, Bool.and_self, Bool.true_or, Bool.false_or, Bool.or_true, Bool.or_false, e_fld, e_fldO, e_fldSet, e_gmFld, e_gmNil, e_gmCons, e_gmTup, e_gmKtup, e_meth, e_make, e_methT, c_fld, k_fld, set_fld, eq_self, cond_true, cond_false, true_or, or_true, false_or, or_false, dNeg_i, b_move, e0, b_paint, b_cell, isDict_T, dLook_here, look_here hm tm, dSub_i, f3, len_rule h.n6, e1, b_put, e2, f1, f2, r1, is_r, e3, b_head, b_len, List.mem_singleton]
/-! ### into the box and out again -/
theorem r_init {C : Addr} {A : Ant} (h : Ok A) : run_Box_init C [.ins C [], fr (antD A)] = some (fr .non, [some (.ins C (bx A (paintT A))), none]) := by
  have t := tab_paint h
  have e1 := dict_k (f := D.int) t.nd (by have := tab_len h t; omega)
  have e2 : dCut (antD A) none (some 5) = some (.tup [.str (ruleS A.bs), .int A.h, .int A.w, .tup [.int A.r, .int A.c], .int A.hd]) := rfl
  have e3 : dIx (antD A) (.int 5) = some (.ktup (pairsD .int (paintT A))) := rfl
  unfold run_Box_init fnRun m_Box_init
  simp -implicitDefEqProofs -dsimp only [e_seq, e_skip, e_never, e_ret, e_n, e_c, e_d, e_do, e_nil, e_cons, e_op2, e_un, e_chain, e_b, e_not, e_and, e_or, e_andV, e_orV, e_notV, e_if, e_ifS, e_call, e_callN, e_callF, e_fz, e_tup, e_tupZ, e_lst, e_set, e_asg, e_put, e_get2, e_mut, e_mtr, e_for, e_iter, e_over, e_lc, e_yes, e_pno, e_po, e_cut, e_par2, e_par3, e_catN, e_newT, e_name, e_loc, e_take, e_move, e_gname, c_d, c_loc, k_loc, cs_nil', cs_cons', fz_fro, fz_lst, fz_dT, bnd_some, bnd_none, Option.bind_some, Option.bind_none, Option.map_some, Option.map_none, List.getElem?_cons_zero, List.getElem?_cons_succ, List.length_cons, List.length_nil, if_true, List.map_cons, List.map_nil, Nat.reduceSub, List.replicate_zero, List.replicate_succ, List.append_nil, List.cons_append, List.nil_append, List.set_cons_zero, List.set_cons_succ, Nat.reduceAdd, Nat.reduceLT, Nat.reduceLeDiff, argsO_nil, argsO_d, argsO_loc, locs_nil, locs_d, locs_loc, nodup_nil', nodup_one, backE_nil, backE_d, backE_loc, wipeE_nil, wipeE_cons, calmE_nil, calmE_none, restE_nil, restE_cons, keep_0, keep_1, keep_2, keep_3, keep_4, own_lst, own_dT, own_fro, ite_true', ite_false', reduceIte, Bool.not_true, Bool.not_false, Bool.false_eq_true, Option.join_some, List.head?_cons, List.tail_cons, set_loc, Option.getD_some, Option.getD_none, and_self, and_true, true_and, List.lookup, fr, Bool.true_and, Bool.false_and, Bool.and_true, Bool.and_false, Bool.and_self, Bool.true_or, Bool.false_or, Bool.or_true, Bool.or_false, e_fld, e_fldO, e_fldSet, e_gmFld, e_gmNil, e_gmCons, e_gmTup, e_gmKtup, e_meth, e_make, e_methT, c_fld, k_fld, set_fld, eq_self, cond_true, cond_false, true_or, or_true, false_or, or_false, e2, e3, e1, p_0, p_1, p_2, p_3, p_4, p_5, fl_1, fl_2, fl_3, fl_4, fl_5, Nat.reduceLT, List.mem_singleton]
  rfl
theorem out_map {A : Ant} (h : Ok A) {T : List (Pt × Int)} (t : Tab A T) : setSort (T.map (·.1)) = pts A := by
  have := sort_keys (h := A.h) (w := A.w) (col := A.col) t.ks fun p hp => look_some.mp ⟨A.col p, by rw [t.lk, if_pos hp]⟩
  rw [← show ptsOf A.h A.w A.col = pts A from rfl, ← this]
  refine (List.filter_eq_self.mpr fun p hp => decide_eq_true ?_).symm
  obtain ⟨a, e⟩ := look_some.mpr (mem_setSort.mp hp)
  rw [t.lk] at e
  by_cases g : 0 < A.col p
  · exact g
  · rw [if_neg g] at e; cases e
theorem r_ant {C : Addr} {A : Ant} {T : List (Pt × Int)} (h : Ok A) (t : Tab A T) : run_Box_ant C [.ins C (bx A T)] = some (fr (antD A), [some (.ins C (bx A T))]) := by
  have e1 := sorted_dT (f := D.int) t.nd (by have := tab_len h t; omega)
  rw [out_map h t] at e1
  have lc : lcLoop [2] (gmName 2) mYes (mTup (mCons (mName 2) (mCons (mOp2 dIx (mFldO C 0 "paint") (mLoc 2)) (mNil)))) ((pts A).map VL.pairD) [some (.ins C (bx A T)), none, none] = some (pairsD .int (paintT A), [some (.ins C (bx A T)), none, none]) := by
    have := lc_all (own := [2]) (tm := gmName 2) (me := mTup (mCons (mName 2) (mCons (mOp2 dIx (mFldO C 0 "paint") (mLoc 2)) (mNil)))) (η := [some (.ins C (bx A T)), none, none]) (fun d => match d with
      | .tup [.int x, .int y] => .tup [d, .int (A.col (x, y))]
      | d => d) ((pts A).map VL.pairD) fun d hd => by
      obtain ⟨p, hp, rfl⟩ := List.mem_map.mp hd
      have hp := (mem_pts h).mp hp
      have e2 : dIx (.dT (gI .int T)) (VL.pairD p) = some (.int (A.col p)) := by
        show (some (getT (gI D.int T) (pk p))).bind id = _
        rw [getT_gI, t.lk, if_pos hp]; rfl
      refine ⟨[some (.ins C (bx A T)), none, some (fr (VL.pairD p))], [some (.ins C (bx A T)), none, some (fr (VL.pairD p))], ?_, ?_, ?_⟩
      · simp -implicitDefEqProofs -dsimp only [e_seq, e_skip, e_never, e_ret, e_n, e_c, e_d, e_do, e_nil, e_cons, e_op2, e_un, e_chain, e_b, e_not, e_and, e_or, e_andV, e_orV, e_notV, e_if, e_ifS, e_call, e_callN, e_callF, e_fz, e_tup, e_tupZ, e_lst, e_set, e_asg, e_put, e_get2, e_mut, e_mtr, e_for, e_iter, e_over, e_lc, e_yes, e_pno, e_po, e_cut, e_par2, e_par3, e_catN, e_newT, e_name, e_loc, e_take, e_move, e_gname, c_d, c_loc, k_loc, cs_nil', cs_cons', fz_fro, fz_lst, fz_dT, bnd_some, bnd_none, Option.bind_some, Option.bind_none, Option.map_some, Option.map_none, List.getElem?_cons_zero, List.getElem?_cons_succ, List.length_cons, List.length_nil, if_true, List.map_cons, List.map_nil, Nat.reduceSub, List.replicate_zero, List.replicate_succ, List.append_nil, List.cons_append, List.nil_append, List.set_cons_zero, List.set_cons_succ, Nat.reduceAdd, Nat.reduceLT, Nat.reduceLeDiff, argsO_nil, argsO_d, argsO_loc, locs_nil, locs_d, locs_loc, nodup_nil', nodup_one, backE_nil, backE_d, backE_loc, wipeE_nil, wipeE_cons, calmE_nil, calmE_none, restE_nil, restE_cons, keep_0, keep_1, keep_2, keep_3, keep_4, own_lst, own_dT, own_fro, ite_true', ite_false', reduceIte, Bool.not_true, Bool.not_false, Bool.false_eq_true, Option.join_some, List.head?_cons, List.tail_cons, set_loc, Option.getD_some, Option.getD_none, and_self, and_true, true_and, List.lookup, fr, Bool.true_and, Bool.false_and, Bool.and_true, Bool.and_false, Bool.and_self, Bool.true_or, Bool.false_or, Bool.or_true, Bool.or_false, e_fld, e_fldO, e_fldSet, e_gmFld, e_gmNil, e_gmCons, e_gmTup, e_gmKtup, e_meth, e_make, e_methT, c_fld, k_fld, set_fld, eq_self, cond_true, cond_false, true_or, or_true, false_or, or_false]
      · simp -implicitDefEqProofs -dsimp only [e_seq, e_skip, e_never, e_ret, e_n, e_c, e_d, e_do, e_nil, e_cons, e_op2, e_un, e_chain, e_b, e_not, e_and, e_or, e_andV, e_orV, e_notV, e_if, e_ifS, e_call, e_callN, e_callF, e_fz, e_tup, e_tupZ, e_lst, e_set, e_asg, e_put, e_get2, e_mut, e_mtr, e_for, e_iter, e_over, e_lc, e_yes, e_pno, e_po, e_cut, e_par2, e_par3, e_catN, e_newT, e_name, e_loc, e_take, e_move, e_gname, c_d, c_loc, k_loc, cs_nil', cs_cons', fz_fro, fz_lst, fz_dT, bnd_some, bnd_none, Option.bind_some, Option.bind_none, Option.map_some, Option.map_none, List.getElem?_cons_zero, List.getElem?_cons_succ, List.length_cons, List.length_nil, if_true, List.map_cons, List.map_nil, Nat.reduceSub, List.replicate_zero, List.replicate_succ, List.append_nil, List.cons_append, List.nil_append, List.set_cons_zero, List.set_cons_succ, Nat.reduceAdd, Nat.reduceLT, Nat.reduceLeDiff, argsO_nil, argsO_d, argsO_loc, locs_nil, locs_d, locs_loc, nodup_nil', nodup_one, backE_nil, backE_d, backE_loc, wipeE_nil, wipeE_cons, calmE_nil, calmE_none, restE_nil, restE_cons, keep_0, keep_1, keep_2, keep_3, keep_4, own_lst, own_dT, own_fro, ite_true', ite_false', reduceIte, Bool.not_true, Bool.not_false, Bool.false_eq_true, Option.join_some, List.head?_cons, List.tail_cons, set_loc, Option.getD_some, Option.getD_none, and_self, and_true, true_and, List.lookup, fr, Bool.true_and, Bool.false_and, Bool.and_true, Bool.and_false, Bool.and_self, Bool.true_or, Bool.false_or, Bool.or_true, Bool.or_false, e_fld, e_fldO, e_fldSet, e_gmFld, e_gmNil, e_gmCons, e_gmTup, e_gmKtup, e_meth, e_make, e_methT, c_fld, k_fld, set_fld, eq_self, cond_true, cond_false, true_or, or_true, false_or, or_false, b_paint, e2]
        rfl
      · simp -implicitDefEqProofs -dsimp only [e_seq, e_skip, e_never, e_ret, e_n, e_c, e_d, e_do, e_nil, e_cons, e_op2, e_un, e_chain, e_b, e_not, e_and, e_or, e_andV, e_orV, e_notV, e_if, e_ifS, e_call, e_callN, e_callF, e_fz, e_tup, e_tupZ, e_lst, e_set, e_asg, e_put, e_get2, e_mut, e_mtr, e_for, e_iter, e_over, e_lc, e_yes, e_pno, e_po, e_cut, e_par2, e_par3, e_catN, e_newT, e_name, e_loc, e_take, e_move, e_gname, c_d, c_loc, k_loc, cs_nil', cs_cons', fz_fro, fz_lst, fz_dT, bnd_some, bnd_none, Option.bind_some, Option.bind_none, Option.map_some, Option.map_none, List.getElem?_cons_zero, List.getElem?_cons_succ, List.length_cons, List.length_nil, if_true, List.map_cons, List.map_nil, Nat.reduceSub, List.replicate_zero, List.replicate_succ, List.append_nil, List.cons_append, List.nil_append, List.set_cons_zero, List.set_cons_succ, Nat.reduceAdd, Nat.reduceLT, Nat.reduceLeDiff, argsO_nil, argsO_d, argsO_loc, locs_nil, locs_d, locs_loc, nodup_nil', nodup_one, backE_nil, backE_d, backE_loc, wipeE_nil, wipeE_cons, calmE_nil, calmE_none, restE_nil, restE_cons, keep_0, keep_1, keep_2, keep_3, keep_4, own_lst, own_dT, own_fro, ite_true', ite_false', reduceIte, Bool.not_true, Bool.not_false, Bool.false_eq_true, Option.join_some, List.head?_cons, List.tail_cons, set_loc, Option.getD_some, Option.getD_none, and_self, and_true, true_and, List.lookup, fr, Bool.true_and, Bool.false_and, Bool.and_true, Bool.and_false, Bool.and_self, Bool.true_or, Bool.false_or, Bool.or_true, Bool.or_false, e_fld, e_fldO, e_fldSet, e_gmFld, e_gmNil, e_gmCons, e_gmTup, e_gmKtup, e_meth, e_make, e_methT, c_fld, k_fld, set_fld, eq_self, cond_true, cond_false, true_or, or_true, false_or, or_false]
    rw [this, List.map_map]
    unfold pairsD paintT
    rw [List.map_map]; rfl
  have e3 : small ((pts A).map VL.pairD).length = true := small_of (by
    have := nodup_len (h := A.h) (w := A.w) (sorted_nodup (ptsOf_sorted (h := A.h) (w := A.w) (col := A.col))) fun p hp => (List.mem_filter.mp hp).1
    have := Nat.mul_le_mul h.h2 h.w2
    rw [List.length_map]
    show (ptsOf A.h A.w A.col).length ≤ 16777216
    omega)
  unfold run_Box_ant fnRun m_Box_ant
  simp -implicitDefEqProofs -dsimp only [e_seq, e_skip, e_never, e_ret, e_n, e_c, e_d, e_do, e_nil, e_cons, e_op2, e_un, e_chain, e_b, e_not, e_and, e_or, e_andV, e_orV, e_notV, e_if, e_ifS, e_call, e_callN, e_callF, e_fz, e_tup, e_tupZ, e_lst, e_set, e_asg, e_put, e_get2, e_mut, e_mtr, e_for, e_iter, e_over, e_lc, e_yes, e_pno, e_po, e_cut, e_par2, e_par3, e_catN, e_newT, e_name, e_loc, e_take, e_move, e_gname, c_d, c_loc, k_loc, cs_nil', cs_cons', fz_fro, fz_lst, fz_dT, bnd_some, bnd_none, Option.bind_some, Option.bind_none, Option.map_some, Option.map_none, List.getElem?_cons_zero, List.getElem?_cons_succ, List.length_cons, List.length_nil, if_true, List.map_cons, List.map_nil, Nat.reduceSub, List.replicate_zero, List.replicate_succ, List.append_nil, List.cons_append, List.nil_append, List.set_cons_zero, List.set_cons_succ, Nat.reduceAdd, Nat.reduceLT, Nat.reduceLeDiff, argsO_nil, argsO_d, argsO_loc, locs_nil, locs_d, locs_loc, nodup_nil', nodup_one, backE_nil, backE_d, backE_loc, wipeE_nil, wipeE_cons, calmE_nil, calmE_none, restE_nil, restE_cons, keep_0, keep_1, keep_2, keep_3, keep_4, own_lst, own_dT, own_fro, ite_true', ite_false', reduceIte, Bool.not_true, Bool.not_false, Bool.false_eq_true, Option.join_some, List.head?_cons, List.tail_cons, set_loc, Option.getD_some, Option.getD_none, and_self, and_true, true_and, List.lookup, fr, Bool.true_and, Bool.false_and, Bool.and_true, Bool.and_false, Bool.and_self, Bool.true_or, Bool.false_or, Bool.or_true, Bool.or_false, e_fld, e_fldO, e_fldSet, e_gmFld, e_gmNil, e_gmCons, e_gmTup, e_gmKtup, e_meth, e_make, e_methT, c_fld, k_fld, set_fld, eq_self, cond_true, cond_false, true_or, or_true, false_or, or_false, b_paint, e1, itemsI, e3, lc, tupz_l, b_rule, b_high, b_wide, b_cell, b_heading, List.mem_singleton]
  rfl
end K87
end
section
set_option Elab.async false
set_option linter.all false
set_option maxRecDepth 100000
set_option maxHeartbeats 1000000
set_option autoImplicit false
namespace K87
open PySem PySem.Spec PyProof.Rows L2 VL
def steps (A : Ant) : Nat → Ant
  | 0 => A
  | n + 1 => stepA (steps A n)
def backs (A : Ant) : Nat → Ant
  | 0 => A
  | n + 1 => backA (backs A n)
theorem ok_steps {A : Ant} (h : Ok A) : ∀ n, Ok (steps A n)
  | 0 => h
  | n + 1 => ok_step (ok_steps h n)
theorem ok_backs {A : Ant} (h : Ok A) : ∀ n, Ok (backs A n)
  | 0 => h
  | n + 1 => ok_back (ok_backs h n)
theorem range_n {n : Nat} (h : n ≤ 1000000) : rangeI1 [.int (n : Int)] = some (intsD 0 n) := by
  have e : okR (n : Int) = true := by
    unfold okR
    rw [Bool.and_eq_true, decide_eq_true_eq, decide_eq_true_eq]
    omega
  show (if okR (n : Int) = true then some (intsD 0 (n : Int).toNat) else none) = _
  rw [if_pos e, Int.toNat_natCast]
theorem abs_n {n : Nat} : fAbs [.int (n : Int)] = some (.int n) := by
  rw [abs_i, if_neg (by omega)]
theorem abs_neg {n : Nat} : fAbs [.int (-(n : Int))] = some (.int n) := by
  rw [abs_i]
  split
  · rw [Int.neg_neg]
  · have : n = 0 := by omega
    subst this; rfl
theorem r_moved_in {C : Addr} {A : Ant} (h : Ok A) {n : Nat} (hn : n ≤ 1000000) : ∃ T, Tab (steps A n) T ∧ run_moved_in C [fr (antD A), fr (.int n)] = some (.ins C (bx (steps A n) T), [none, none]) := by
  have key := loop_inv (tm := gmName 3) (body := mSeq (mIfS (mB (mOp2 dGt (mLoc 1) (mD (mC (.int 0))))) (mSeq (mDo (mFz (mMeth C "step" 2 (run_Box_step C) mNil))) (mSkip)) (mSeq (mDo (mFz (mMeth C "back" 2 (run_Box_back C) mNil))) (mSkip))) (mSkip)) (fun i η => ∃ T x, Tab (steps A i) T ∧ η = [some (fr (antD A)), some (fr (.int n)), some (.ins C (bx (steps A i) T)), x]) (intsD 0 n) 0 _ ⟨paintT A, none, tab_paint h, rfl⟩ fun i d η hd hI => by
    obtain ⟨T, x, t, rfl⟩ := hI
    have hn : (0 : Int) < n := by
      have := (List.getElem?_eq_some_iff.mp hd).1
      rw [len_ints] at this
      omega
    rw [Nat.zero_add] at t ⊢
    obtain ⟨T', t', e⟩ := r_step (C := C) (ok_steps h i) t
    refine ⟨[some (fr (antD A)), some (fr (.int n)), some (.ins C (bx (steps A i) T)), some (fr d)], _, by simp -implicitDefEqProofs -dsimp only [e_seq, e_skip, e_never, e_ret, e_n, e_c, e_d, e_do, e_nil, e_cons, e_op2, e_un, e_chain, e_b, e_not, e_and, e_or, e_andV, e_orV, e_notV, e_if, e_ifS, e_call, e_callN, e_callF, e_fz, e_tup, e_tupZ, e_lst, e_set, e_asg, e_put, e_get2, e_mut, e_mtr, e_for, e_iter, e_over, e_lc, e_yes, e_pno, e_po, e_cut, e_par2, e_par3, e_catN, e_newT, e_name, e_loc, e_take, e_move, e_gname, c_d, c_loc, k_loc, cs_nil', cs_cons', fz_fro, fz_lst, fz_dT, bnd_some, bnd_none, Option.bind_some, Option.bind_none, Option.map_some, Option.map_none, List.getElem?_cons_zero, List.getElem?_cons_succ, List.length_cons, List.length_nil, if_true, List.map_cons, List.map_nil, Nat.reduceSub, List.replicate_zero, List.replicate_succ, List.append_nil, List.cons_append, List.nil_append, List.set_cons_zero, List.set_cons_succ, Nat.reduceAdd, Nat.reduceLT, Nat.reduceLeDiff, argsO_nil, argsO_d, argsO_loc, locs_nil, locs_d, locs_loc, nodup_nil', nodup_one, backE_nil, backE_d, backE_loc, wipeE_nil, wipeE_cons, calmE_nil, calmE_none, restE_nil, restE_cons, keep_0, keep_1, keep_2, keep_3, keep_4, own_lst, own_dT, own_fro, ite_true', ite_false', reduceIte, Bool.not_true, Bool.not_false, Bool.false_eq_true, Option.join_some, List.head?_cons, List.tail_cons, set_loc, Option.getD_some, Option.getD_none, and_self, and_true, true_and, List.lookup, fr, Bool.true_and, Bool.false_and, Bool.and_true, Bool.and_false, Bool.and_self, Bool.true_or, Bool.false_or, Bool.or_true, Bool.or_false, e_fld, e_fldO, e_fldSet, e_gmFld, e_gmNil, e_gmCons, e_gmTup, e_gmKtup, e_meth, e_make, e_methT, c_fld, k_fld, set_fld, eq_self, cond_true, cond_false, true_or, or_true, false_or, or_false], .inl ?_, T', some (fr d), t', rfl⟩
    simp -implicitDefEqProofs -dsimp only [e_seq, e_skip, e_never, e_ret, e_n, e_c, e_d, e_do, e_nil, e_cons, e_op2, e_un, e_chain, e_b, e_not, e_and, e_or, e_andV, e_orV, e_notV, e_if, e_ifS, e_call, e_callN, e_callF, e_fz, e_tup, e_tupZ, e_lst, e_set, e_asg, e_put, e_get2, e_mut, e_mtr, e_for, e_iter, e_over, e_lc, e_yes, e_pno, e_po, e_cut, e_par2, e_par3, e_catN, e_newT, e_name, e_loc, e_take, e_move, e_gname, c_d, c_loc, k_loc, cs_nil', cs_cons', fz_fro, fz_lst, fz_dT, bnd_some, bnd_none, Option.bind_some, Option.bind_none, Option.map_some, Option.map_none, List.getElem?_cons_zero, List.getElem?_cons_succ, List.length_cons, List.length_nil, if_true, List.map_cons, List.map_nil, Nat.reduceSub, List.replicate_zero, List.replicate_succ, List.append_nil, List.cons_append, List.nil_append, List.set_cons_zero, List.set_cons_succ, Nat.reduceAdd, Nat.reduceLT, Nat.reduceLeDiff, argsO_nil, argsO_d, argsO_loc, locs_nil, locs_d, locs_loc, nodup_nil', nodup_one, backE_nil, backE_d, backE_loc, wipeE_nil, wipeE_cons, calmE_nil, calmE_none, restE_nil, restE_cons, keep_0, keep_1, keep_2, keep_3, keep_4, own_lst, own_dT, own_fro, ite_true', ite_false', reduceIte, Bool.not_true, Bool.not_false, Bool.false_eq_true, Option.join_some, List.head?_cons, List.tail_cons, set_loc, Option.getD_some, Option.getD_none, and_self, and_true, true_and, List.lookup, fr, Bool.true_and, Bool.false_and, Bool.and_true, Bool.and_false, Bool.and_self, Bool.true_or, Bool.false_or, Bool.or_true, Bool.or_false, e_fld, e_fldO, e_fldSet, e_gmFld, e_gmNil, e_gmCons, e_gmTup, e_gmKtup, e_meth, e_make, e_methT, c_fld, k_fld, set_fld, eq_self, cond_true, cond_false, true_or, or_true, false_or, or_false, dGt_i, decide_eq_true hn, b_step, e]
    rfl
  obtain ⟨η', e1, T, x, t, e2⟩ := key
  rw [len_ints, Nat.zero_add] at t e2
  subst e2
  refine ⟨T, t, ?_⟩
  rw [show steps A 0 = A from rfl] at e1
  have e0 := r_init (C := C) h
  unfold run_moved_in fnRun m_moved_in
  simp -implicitDefEqProofs -dsimp only [e_seq, e_skip, e_never, e_ret, e_n, e_c, e_d, e_do, e_nil, e_cons, e_op2, e_un, e_chain, e_b, e_not, e_and, e_or, e_andV, e_orV, e_notV, e_if, e_ifS, e_call, e_callN, e_callF, e_fz, e_tup, e_tupZ, e_lst, e_set, e_asg, e_put, e_get2, e_mut, e_mtr, e_for, e_iter, e_over, e_lc, e_yes, e_pno, e_po, e_cut, e_par2, e_par3, e_catN, e_newT, e_name, e_loc, e_take, e_move, e_gname, c_d, c_loc, k_loc, cs_nil', cs_cons', fz_fro, fz_lst, fz_dT, bnd_some, bnd_none, Option.bind_some, Option.bind_none, Option.map_some, Option.map_none, List.getElem?_cons_zero, List.getElem?_cons_succ, List.length_cons, List.length_nil, if_true, List.map_cons, List.map_nil, Nat.reduceSub, List.replicate_zero, List.replicate_succ, List.append_nil, List.cons_append, List.nil_append, List.set_cons_zero, List.set_cons_succ, Nat.reduceAdd, Nat.reduceLT, Nat.reduceLeDiff, argsO_nil, argsO_d, argsO_loc, locs_nil, locs_d, locs_loc, nodup_nil', nodup_one, backE_nil, backE_d, backE_loc, wipeE_nil, wipeE_cons, calmE_nil, calmE_none, restE_nil, restE_cons, keep_0, keep_1, keep_2, keep_3, keep_4, own_lst, own_dT, own_fro, ite_true', ite_false', reduceIte, Bool.not_true, Bool.not_false, Bool.false_eq_true, Option.join_some, List.head?_cons, List.tail_cons, set_loc, Option.getD_some, Option.getD_none, and_self, and_true, true_and, List.lookup, fr, Bool.true_and, Bool.false_and, Bool.and_true, Bool.and_false, Bool.and_self, Bool.true_or, Bool.false_or, Bool.or_true, Bool.or_false, e_fld, e_fldO, e_fldSet, e_gmFld, e_gmNil, e_gmCons, e_gmTup, e_gmKtup, e_meth, e_make, e_methT, c_fld, k_fld, set_fld, eq_self, cond_true, cond_false, true_or, or_true, false_or, or_false, e0, List.take_succ_cons, List.take_zero, abs_n, range_n hn, e1, List.mem_nil_iff]
theorem r_moved_back {C : Addr} {A : Ant} (h : Ok A) {n : Nat} (hn : n ≤ 1000000) : ∃ T, Tab (backs A n) T ∧ run_moved_in C [fr (antD A), fr (.int (-(n : Int)))] = some (.ins C (bx (backs A n) T), [none, none]) := by
  have key := loop_inv (tm := gmName 3) (body := mSeq (mIfS (mB (mOp2 dGt (mLoc 1) (mD (mC (.int 0))))) (mSeq (mDo (mFz (mMeth C "step" 2 (run_Box_step C) mNil))) (mSkip)) (mSeq (mDo (mFz (mMeth C "back" 2 (run_Box_back C) mNil))) (mSkip))) (mSkip)) (fun i η => ∃ T x, Tab (backs A i) T ∧ η = [some (fr (antD A)), some (fr (.int (-(n : Int)))), some (.ins C (bx (backs A i) T)), x]) (intsD 0 n) 0 _ ⟨paintT A, none, tab_paint h, rfl⟩ fun i d η hd hI => by
    obtain ⟨T, x, t, rfl⟩ := hI
    have hn : ¬ (0 : Int) < -(n : Int) := by omega
    rw [Nat.zero_add] at t ⊢
    obtain ⟨T', t', e⟩ := r_back (C := C) (ok_backs h i) t
    refine ⟨[some (fr (antD A)), some (fr (.int (-(n : Int)))), some (.ins C (bx (backs A i) T)), some (fr d)], _, by simp -implicitDefEqProofs -dsimp only [e_seq, e_skip, e_never, e_ret, e_n, e_c, e_d, e_do, e_nil, e_cons, e_op2, e_un, e_chain, e_b, e_not, e_and, e_or, e_andV, e_orV, e_notV, e_if, e_ifS, e_call, e_callN, e_callF, e_fz, e_tup, e_tupZ, e_lst, e_set, e_asg, e_put, e_get2, e_mut, e_mtr, e_for, e_iter, e_over, e_lc, e_yes, e_pno, e_po, e_cut, e_par2, e_par3, e_catN, e_newT, e_name, e_loc, e_take, e_move, e_gname, c_d, c_loc, k_loc, cs_nil', cs_cons', fz_fro, fz_lst, fz_dT, bnd_some, bnd_none, Option.bind_some, Option.bind_none, Option.map_some, Option.map_none, List.getElem?_cons_zero, List.getElem?_cons_succ, List.length_cons, List.length_nil, if_true, List.map_cons, List.map_nil, Nat.reduceSub, List.replicate_zero, List.replicate_succ, List.append_nil, List.cons_append, List.nil_append, List.set_cons_zero, List.set_cons_succ, Nat.reduceAdd, Nat.reduceLT, Nat.reduceLeDiff, argsO_nil, argsO_d, argsO_loc, locs_nil, locs_d, locs_loc, nodup_nil', nodup_one, backE_nil, backE_d, backE_loc, wipeE_nil, wipeE_cons, calmE_nil, calmE_none, restE_nil, restE_cons, keep_0, keep_1, keep_2, keep_3, keep_4, own_lst, own_dT, own_fro, ite_true', ite_false', reduceIte, Bool.not_true, Bool.not_false, Bool.false_eq_true, Option.join_some, List.head?_cons, List.tail_cons, set_loc, Option.getD_some, Option.getD_none, and_self, and_true, true_and, List.lookup, fr, Bool.true_and, Bool.false_and, Bool.and_true, Bool.and_false, Bool.and_self, Bool.true_or, Bool.false_or, Bool.or_true, Bool.or_false, e_fld, e_fldO, e_fldSet, e_gmFld, e_gmNil, e_gmCons, e_gmTup, e_gmKtup, e_meth, e_make, e_methT, c_fld, k_fld, set_fld, eq_self, cond_true, cond_false, true_or, or_true, false_or, or_false], .inl ?_, T', some (fr d), t', rfl⟩
    simp -implicitDefEqProofs -dsimp only [e_seq, e_skip, e_never, e_ret, e_n, e_c, e_d, e_do, e_nil, e_cons, e_op2, e_un, e_chain, e_b, e_not, e_and, e_or, e_andV, e_orV, e_notV, e_if, e_ifS, e_call, e_callN, e_callF, e_fz, e_tup, e_tupZ, e_lst, e_set, e_asg, e_put, e_get2, e_mut, e_mtr, e_for, e_iter, e_over, e_lc, e_yes, e_pno, e_po, e_cut, e_par2, e_par3, e_catN, e_newT, e_name, e_loc, e_take, e_move, e_gname, c_d, c_loc, k_loc, cs_nil', cs_cons', fz_fro, fz_lst, fz_dT, bnd_some, bnd_none, Option.bind_some, Option.bind_none, Option.map_some, Option.map_none, List.getElem?_cons_zero, List.getElem?_cons_succ, List.length_cons, List.length_nil, if_true, List.map_cons, List.map_nil, Nat.reduceSub, List.replicate_zero, List.replicate_succ, List.append_nil, List.cons_append, List.nil_append, List.set_cons_zero, List.set_cons_succ, Nat.reduceAdd, Nat.reduceLT, Nat.reduceLeDiff, argsO_nil, argsO_d, argsO_loc, locs_nil, locs_d, locs_loc, nodup_nil', nodup_one, backE_nil, backE_d, backE_loc, wipeE_nil, wipeE_cons, calmE_nil, calmE_none, restE_nil, restE_cons, keep_0, keep_1, keep_2, keep_3, keep_4, own_lst, own_dT, own_fro, ite_true', ite_false', reduceIte, Bool.not_true, Bool.not_false, Bool.false_eq_true, Option.join_some, List.head?_cons, List.tail_cons, set_loc, Option.getD_some, Option.getD_none, and_self, and_true, true_and, List.lookup, fr, Bool.true_and, Bool.false_and, Bool.and_true, Bool.and_false, Bool.and_self, Bool.true_or, Bool.false_or, Bool.or_true, Bool.or_false, e_fld, e_fldO, e_fldSet, e_gmFld, e_gmNil, e_gmCons, e_gmTup, e_gmKtup, e_meth, e_make, e_methT, c_fld, k_fld, set_fld, eq_self, cond_true, cond_false, true_or, or_true, false_or, or_false, dGt_i, decide_eq_false hn, b_back, e]
    rfl
  obtain ⟨η', e1, T, x, t, e2⟩ := key
  rw [len_ints, Nat.zero_add] at t e2
  subst e2
  refine ⟨T, t, ?_⟩
  rw [show backs A 0 = A from rfl] at e1
  have e0 := r_init (C := C) h
  unfold run_moved_in fnRun m_moved_in
  simp -implicitDefEqProofs -dsimp only [e_seq, e_skip, e_never, e_ret, e_n, e_c, e_d, e_do, e_nil, e_cons, e_op2, e_un, e_chain, e_b, e_not, e_and, e_or, e_andV, e_orV, e_notV, e_if, e_ifS, e_call, e_callN, e_callF, e_fz, e_tup, e_tupZ, e_lst, e_set, e_asg, e_put, e_get2, e_mut, e_mtr, e_for, e_iter, e_over, e_lc, e_yes, e_pno, e_po, e_cut, e_par2, e_par3, e_catN, e_newT, e_name, e_loc, e_take, e_move, e_gname, c_d, c_loc, k_loc, cs_nil', cs_cons', fz_fro, fz_lst, fz_dT, bnd_some, bnd_none, Option.bind_some, Option.bind_none, Option.map_some, Option.map_none, List.getElem?_cons_zero, List.getElem?_cons_succ, List.length_cons, List.length_nil, if_true, List.map_cons, List.map_nil, Nat.reduceSub, List.replicate_zero, List.replicate_succ, List.append_nil, List.cons_append, List.nil_append, List.set_cons_zero, List.set_cons_succ, Nat.reduceAdd, Nat.reduceLT, Nat.reduceLeDiff, argsO_nil, argsO_d, argsO_loc, locs_nil, locs_d, locs_loc, nodup_nil', nodup_one, backE_nil, backE_d, backE_loc, wipeE_nil, wipeE_cons, calmE_nil, calmE_none, restE_nil, restE_cons, keep_0, keep_1, keep_2, keep_3, keep_4, own_lst, own_dT, own_fro, ite_true', ite_false', reduceIte, Bool.not_true, Bool.not_false, Bool.false_eq_true, Option.join_some, List.head?_cons, List.tail_cons, set_loc, Option.getD_some, Option.getD_none, and_self, and_true, true_and, List.lookup, fr, Bool.true_and, Bool.false_and, Bool.and_true, Bool.and_false, Bool.and_self, Bool.true_or, Bool.false_or, Bool.or_true, Bool.or_false, e_fld, e_fldO, e_fldSet, e_gmFld, e_gmNil, e_gmCons, e_gmTup, e_gmKtup, e_meth, e_make, e_methT, c_fld, k_fld, set_fld, eq_self, cond_true, cond_false, true_or, or_true, false_or, or_false, e0, List.take_succ_cons, List.take_zero, abs_neg, range_n hn, e1, List.mem_nil_iff]
end K87
end
section
set_option Elab.async false
set_option linter.all false
set_option maxRecDepth 100000
set_option maxHeartbeats 1000000
set_option autoImplicit false
namespace K87
open PySem PySem.Spec PyProof.Rows L2 VL
theorem dIn_02 {x : Int} : dIn (.int x) (.tup [.int 0, .int 2]) = some (.bl (decide (x = 0) || decide (x = 2))) := by
  show some (D.bl ([PyData.int 0, PyData.int 2].any fun z => PyData.eqv z (.int x))) = _
  simp only [List.any_cons, List.any_nil, eqv_ii, Bool.or_false]
  have e0 : decide ((0 : Int) = x) = decide (x = 0) := by rw [Bool.eq_iff_iff]; simp [eq_comm]
  have e2 : decide ((2 : Int) = x) = decide (x = 2) := by rw [Bool.eq_iff_iff]; simp [eq_comm]
  rw [e0, e2]
theorem turn_mod {d : Int} {b : Bool} : (d + (if b then 1 else 3)) % 4 = (d + turn b) % 4 := by
  unfold turn
  cases b
  · simp only [Bool.false_eq_true, if_false]; omega
  · rfl
/-- the table that the law's step has -/
theorem law_tab {A : Ant} (h : Ok A) (v : Int) : let T := putT (paintT A) (A.r, A.c) v
    (T.map (·.1)).Nodup ∧ T.length ≤ 401 ∧ (∀ p ∈ setSort (T.map (·.1)), look T p = some (colSet A.col (A.r, A.c) v p)) ∧ (setSort (T.map (·.1))).filter (fun p => decide (0 < colSet A.col (A.r, A.c) v p)) = pts (painted A v) := by
  intro T
  have t := tab_paint h
  have nd : (T.map (·.1)).Nodup := nodup_put t.nd
  have lk : ∀ p, look T p = if (A.r, A.c) = p then some v else if 0 < A.col p then some (A.col p) else none := fun p => by rw [look_put, t.lk]
  refine ⟨nd, Nat.le_trans len_put (by have := tab_len h t; omega), fun p hp => ?_, ?_⟩
  · obtain ⟨a, e⟩ := look_some.mpr (mem_setSort.mp hp)
    rw [lk] at e ⊢
    unfold colSet
    by_cases g : (A.r, A.c) = p
    · rw [if_pos g, if_pos g]
    · rw [if_neg g] at e
      rw [if_neg g, if_neg g]
      by_cases k : 0 < A.col p
      · rw [if_pos k]
      · rw [if_neg k] at e; cases e
  · refine sort_keys (h := A.h) (w := A.w) (fun p hp => ?_) fun p hp => ?_
    · rw [keys_put] at hp
      split at hp
      · exact t.ks p hp
      · rcases List.mem_append.mp hp with hp | hp
        · exact t.ks p hp
        · rw [List.mem_singleton] at hp; subst hp; exact here (A := A) h
    · refine look_some.mp ?_
      rw [lk]
      unfold colSet at hp
      by_cases g : (A.r, A.c) = p
      · exact ⟨v, if_pos g⟩
      · rw [if_neg g] at hp ⊢; exact ⟨_, if_pos hp⟩
theorem law_out {A : Ant} (h : Ok A) {v : Int} {η : VL.Env} (hl : η.length = 12) (h7 : η[7]? = some (some (.s (.dT (gI .int (putT (paintT A) (A.r, A.c) v)))))) (h11 : η[11]? = some none) :
    lcLoop [11] (gmName 11) (mB (mOp2 dGt (mD (mOp2 dIx (mLoc 7) (mLoc 11))) (mD (mC (.int 0))))) (mTup (mCons (mName 11) (mCons (mOp2 dIx (mLoc 7) (mLoc 11)) (mNil)))) ((setSort ((putT (paintT A) (A.r, A.c) v).map (·.1))).map VL.pairD) η = some (pairsD .int (paintT (painted A v)), η) := by
  obtain ⟨h1, h2, h3, h4⟩ := law_tab h v
  generalize putT (paintT A) (A.r, A.c) v = T at h1 h2 h3 h4 h7
  have := lc_filter (own := [11]) (tm := gmName 11) (mt := mB (mOp2 dGt (mD (mOp2 dIx (mLoc 7) (mLoc 11))) (mD (mC (.int 0))))) (me := mTup (mCons (mName 11) (mCons (mOp2 dIx (mLoc 7) (mLoc 11)) (mNil)))) (η := η) (fun d => match d with
      | .tup [.int x, .int y] => decide (0 < colSet A.col (A.r, A.c) v (x, y))
      | _ => false) (fun d => match d with
      | .tup [.int x, .int y] => .tup [d, .int (colSet A.col (A.r, A.c) v (x, y))]
      | d => d) ((setSort (T.map (·.1))).map VL.pairD) fun d hd => by
    obtain ⟨p, hp, rfl⟩ := List.mem_map.mp hd
    have e2 : dIx (.dT (gI .int T)) (VL.pairD p) = some (.int (colSet A.col (A.r, A.c) v p)) := by
      show (some (getT (gI D.int T) (pk p))).bind id = _
      rw [getT_gI, h3 p hp]; rfl
    have g7 : (η.set 11 (some (fr (VL.pairD p))))[7]? = some (some (.s (.dT (gI D.int T)))) := by rw [List.getElem?_set_ne (by decide)]; exact h7
    have g11 : (η.set 11 (some (fr (VL.pairD p))))[11]? = some (some (fr (VL.pairD p))) := by rw [List.getElem?_set_self (by omega)]
    have hw : wipeE (η.set 11 (some (fr (VL.pairD p)))) [11] = η := by
      show (η.set 11 _).set 11 none = η
      rw [List.set_set]
      refine List.ext_getElem? fun i => ?_
      by_cases e : i = 11
      · subst e; rw [List.getElem?_set_self (by omega), h11]
      · rw [List.getElem?_set_ne (fun z => e z.symm)]
    refine ⟨η.set 11 (some (fr (VL.pairD p))), η.set 11 (some (fr (VL.pairD p))), ?_, ?_, fun _ => ⟨η.set 11 (some (fr (VL.pairD p))), ?_, hw⟩, fun _ => hw⟩
    · rw [e_gname, if_pos (by omega)]
    · simp -implicitDefEqProofs -dsimp only [e_seq, e_skip, e_never, e_ret, e_n, e_c, e_d, e_do, e_nil, e_cons, e_op2, e_un, e_chain, e_b, e_not, e_and, e_or, e_andV, e_orV, e_notV, e_if, e_ifS, e_call, e_callN, e_callF, e_fz, e_tup, e_tupZ, e_lst, e_set, e_asg, e_put, e_get2, e_mut, e_mtr, e_for, e_iter, e_over, e_lc, e_yes, e_pno, e_po, e_cut, e_par2, e_par3, e_catN, e_newT, e_name, e_loc, e_take, e_move, e_gname, c_d, c_loc, k_loc, cs_nil', cs_cons', fz_fro, fz_lst, fz_dT, bnd_some, bnd_none, Option.bind_some, Option.bind_none, Option.map_some, Option.map_none, List.getElem?_cons_zero, List.getElem?_cons_succ, List.length_cons, List.length_nil, if_true, List.map_cons, List.map_nil, Nat.reduceSub, List.replicate_zero, List.replicate_succ, List.append_nil, List.cons_append, List.nil_append, List.set_cons_zero, List.set_cons_succ, Nat.reduceAdd, Nat.reduceLT, Nat.reduceLeDiff, argsO_nil, argsO_d, argsO_loc, locs_nil, locs_d, locs_loc, nodup_nil', nodup_one, backE_nil, backE_d, backE_loc, wipeE_nil, wipeE_cons, calmE_nil, calmE_none, restE_nil, restE_cons, keep_0, keep_1, keep_2, keep_3, keep_4, own_lst, own_dT, own_fro, ite_true', ite_false', reduceIte, Bool.not_true, Bool.not_false, Bool.false_eq_true, Option.join_some, List.head?_cons, List.tail_cons, set_loc, Option.getD_some, Option.getD_none, and_self, and_true, true_and, List.lookup, fr, Bool.true_and, Bool.false_and, Bool.and_true, Bool.and_false, Bool.and_self, Bool.true_or, Bool.false_or, Bool.or_true, Bool.or_false, e_fld, e_fldO, e_fldSet, e_gmFld, e_gmNil, e_gmCons, e_gmTup, e_gmKtup, e_meth, e_make, e_methT, c_fld, k_fld, set_fld, eq_self, cond_true, cond_false, true_or, or_true, false_or, or_false, g7, g11, e2, dGt_i]
      rfl
    · simp -implicitDefEqProofs -dsimp only [e_seq, e_skip, e_never, e_ret, e_n, e_c, e_d, e_do, e_nil, e_cons, e_op2, e_un, e_chain, e_b, e_not, e_and, e_or, e_andV, e_orV, e_notV, e_if, e_ifS, e_call, e_callN, e_callF, e_fz, e_tup, e_tupZ, e_lst, e_set, e_asg, e_put, e_get2, e_mut, e_mtr, e_for, e_iter, e_over, e_lc, e_yes, e_pno, e_po, e_cut, e_par2, e_par3, e_catN, e_newT, e_name, e_loc, e_take, e_move, e_gname, c_d, c_loc, k_loc, cs_nil', cs_cons', fz_fro, fz_lst, fz_dT, bnd_some, bnd_none, Option.bind_some, Option.bind_none, Option.map_some, Option.map_none, List.getElem?_cons_zero, List.getElem?_cons_succ, List.length_cons, List.length_nil, if_true, List.map_cons, List.map_nil, Nat.reduceSub, List.replicate_zero, List.replicate_succ, List.append_nil, List.cons_append, List.nil_append, List.set_cons_zero, List.set_cons_succ, Nat.reduceAdd, Nat.reduceLT, Nat.reduceLeDiff, argsO_nil, argsO_d, argsO_loc, locs_nil, locs_d, locs_loc, nodup_nil', nodup_one, backE_nil, backE_d, backE_loc, wipeE_nil, wipeE_cons, calmE_nil, calmE_none, restE_nil, restE_cons, keep_0, keep_1, keep_2, keep_3, keep_4, own_lst, own_dT, own_fro, ite_true', ite_false', reduceIte, Bool.not_true, Bool.not_false, Bool.false_eq_true, Option.join_some, List.head?_cons, List.tail_cons, set_loc, Option.getD_some, Option.getD_none, and_self, and_true, true_and, List.lookup, fr, Bool.true_and, Bool.false_and, Bool.and_true, Bool.and_false, Bool.and_self, Bool.true_or, Bool.false_or, Bool.or_true, Bool.or_false, e_fld, e_fldO, e_fldSet, e_gmFld, e_gmNil, e_gmCons, e_gmTup, e_gmKtup, e_meth, e_make, e_methT, c_fld, k_fld, set_fld, eq_self, cond_true, cond_false, true_or, or_true, false_or, or_false, g7, g11, e2]
      rfl
  rw [this, List.filter_map, List.map_map]
  have e : (fun d => match d with
      | D.tup [.int x, .int y] => decide (0 < colSet A.col (A.r, A.c) v (x, y))
      | _ => false) ∘ VL.pairD = fun p => decide (0 < colSet A.col (A.r, A.c) v p) := rfl
  rw [e, h4]
  unfold pairsD paintT
  rw [List.map_map]; rfl
theorem step_eq {A : Ant} (h : Ok A) {d : Int} (hd : (A.hd + turn (bit A (here0 A))) % 4 = d) : antD (stepA A) = .tup [.str (ruleS A.bs), .int A.h, .int A.w, .tup [.int ((A.r + dr d) % A.h), .int ((A.c + dc d) % A.w)], .int d, .ktup (pairsD .int (paintT (painted A ((here0 A + 1) % A.bs.length))))] := by
  subst hd
  show D.tup [.str (ruleS A.bs), .int A.h, .int A.w, .tup [.int ((A.r + 1 * dr _) % A.h), .int ((A.c + 1 * dc _) % A.w)], .int _, .ktup _] = _
  rw [Int.one_mul, Int.one_mul]; rfl
theorem r_law_step {A : Ant} (h : Ok A) : run__law_step [fr (antD A)] = some (fr (antD (stepA A)), [none]) := by
  have t := tab_paint h
  have n2 := h.n2
  have n6 := h.n6
  have h1 := h.h1
  have h2 := h.h2
  have w1 := h.w1
  have w2 := h.w2
  have hk0 : 0 ≤ here0 A := h.k0 _
  have hk1 : here0 A < A.bs.length := h.k1 _
  have e1 := dict_l (f := D.int) t.nd (by have := tab_len h t; omega)
  have r1 := rule_at hk0 hk1 n6
  rw [show A.bs.getD (here0 A).toNat false = bit A (here0 A) from rfl] at r1
  have hm := turn_mod (d := A.hd) (b := bit A (here0 A))
  have fin := step_eq h rfl
  have hd0 := Int.emod_nonneg (A.hd + turn (bit A (here0 A))) (show (4 : Int) ≠ 0 by decide)
  have hd1 := Int.emod_lt_of_pos (A.hd + turn (bit A (here0 A))) (show (0 : Int) < 4 by decide)
  rw [fin]
  generalize (A.hd + turn (bit A (here0 A))) % 4 = d at hm hd0 hd1 ⊢
  obtain ⟨q1, q2, q3, q4⟩ := law_tab h ((here0 A + 1) % A.bs.length)
  have lo := fun η => law_out h (v := (here0 A + 1) % A.bs.length) (η := η)
  have e3 := sorted_dT (f := D.int) q1 (by omega)
  have tl := tab_len h t
  have e4 : dPut (.dT (gI .int (paintT A))) (.tup [.int A.r, .int A.c]) (.int ((here0 A + 1) % A.bs.length)) = some (.dT (gI .int (putT (paintT A) (A.r, A.c) ((here0 A + 1) % A.bs.length)))) := by
    show (if (gI D.int (paintT A)).length < 16777216 then some (O1.dT (putT (gI .int (paintT A)) (pk (A.r, A.c)) (.int ((here0 A + 1) % A.bs.length)))) else none) = _
    rw [len_gI, if_pos (by omega), putT_gI (f := D.int)]
  have sm : small ((setSort ((putT (paintT A) (A.r, A.c) ((here0 A + 1) % A.bs.length)).map (·.1))).map VL.pairD).length = true := small_of (by
    rw [List.length_map, (setSort_perm q1).length_eq, List.length_map]; omega)
  have em : ∀ x : Int, dMod (.int x) (.int A.bs.length) = some (.int (x % A.bs.length)) := fun x => dMod_i (by omega)
  have eh : ∀ x : Int, dMod (.int x) (.int A.h) = some (.int (x % A.h)) := fun x => dMod_i (by omega)
  have ew : ∀ x : Int, dMod (.int x) (.int A.w) = some (.int (x % A.w)) := fun x => dMod_i (by omega)
  have e40 : ∀ x : Int, dMod (.int x) (.int 4) = some (.int (x % 4)) := fun x => dMod_i (by decide)
  have hr : (A.r + 0) % (A.h : Int) = A.r := by rw [Int.add_zero]; exact Int.emod_eq_of_lt h.r0 h.r1
  have hc : (A.c + 0) % (A.w : Int) = A.c := by rw [Int.add_zero]; exact Int.emod_eq_of_lt h.c0 h.c1
  generalize bit A (here0 A) = b at r1 hm
  unfold run__law_step fnRun m__law_step antD
  rcases (by omega : d = 0 ∨ d = 1 ∨ d = 2 ∨ d = 3) with rfl | rfl | rfl | rfl <;> cases b <;>
    simp only [if_true, Bool.false_eq_true, if_false] at hm <;>
    simp only [dr, dc, Int.reduceEq, if_true, if_false, hr, hc] <;>
    simp -implicitDefEqProofs -dsimp only [e_seq, e_skip, e_never, e_ret, e_n, e_c, e_d, e_do, e_nil, e_cons, e_op2, e_un, e_chain, e_b, e_not, e_and, e_or, e_andV, e_orV, e_notV, e_if, e_ifS, e_call, e_callN, e_callF, e_fz, e_tup, e_tupZ, e_lst, e_set, e_asg, e_put, e_get2, e_mut, e_mtr, e_for, e_iter, e_over, e_lc, e_yes, e_pno, e_po, e_cut, e_par2, e_par3, e_catN, e_newT, e_name, e_loc, e_take, e_move, e_gname, c_d, c_loc, k_loc, cs_nil', cs_cons', fz_fro, fz_lst, fz_dT, bnd_some, bnd_none, Option.bind_some, Option.bind_none, Option.map_some, Option.map_none, List.getElem?_cons_zero, List.getElem?_cons_succ, List.length_cons, List.length_nil, if_true, List.map_cons, List.map_nil, Nat.reduceSub, List.replicate_zero, List.replicate_succ, List.append_nil, List.cons_append, List.nil_append, List.set_cons_zero, List.set_cons_succ, Nat.reduceAdd, Nat.reduceLT, Nat.reduceLeDiff, argsO_nil, argsO_d, argsO_loc, locs_nil, locs_d, locs_loc, nodup_nil', nodup_one, backE_nil, backE_d, backE_loc, wipeE_nil, wipeE_cons, calmE_nil, calmE_none, restE_nil, restE_cons, keep_0, keep_1, keep_2, keep_3, keep_4, own_lst, own_dT, own_fro, ite_true', ite_false', reduceIte, Bool.not_true, Bool.not_false, Bool.false_eq_true, Option.join_some, List.head?_cons, List.tail_cons, set_loc, Option.getD_some, Option.getD_none, and_self, and_true, true_and, List.lookup, fr, Bool.true_and, Bool.false_and, Bool.and_true, Bool.and_false, Bool.and_self, Bool.true_or, Bool.false_or, Bool.or_true, Bool.or_false, e_fld, e_fldO, e_fldSet, e_gmFld, e_gmNil, e_gmCons, e_gmTup, e_gmKtup, e_meth, e_make, e_methT, c_fld, k_fld, set_fld, eq_self, cond_true, cond_false, true_or, or_true, false_or, or_false, list_k, e1, isDict_T, dLook_here, look_here h t, r1, is_r, dAdd_i, int_i, e40, hm, len_rule h.n6, em, e4, dIn_02, dEq_ii, decide_true, decide_false, Int.reduceEq, Bool.or_true, Bool.true_or, Bool.or_false, dNeg_i, eh, ew, e3, itemsI, sm, tupz_l, List.mem_nil_iff, lo, own_dT]
end K87
end
section
set_option Elab.async false
set_option linter.all false
set_option maxRecDepth 100000
set_option maxHeartbeats 1000000
set_option autoImplicit false
namespace K87
open PySem PySem.Spec PyProof.Rows L2 VL
theorem ant_ext {A B : Ant} (h1 : A.bs = B.bs) (h2 : A.h = B.h) (h3 : A.w = B.w) (h4 : A.r = B.r) (h5 : A.c = B.c) (h6 : A.hd = B.hd) (h7 : A.col = B.col) : A = B := by
  cases A; cases B
  simp only at h1 h2 h3 h4 h5 h6 h7
  subst h1 h2 h3 h4 h5 h6 h7
  rfl
theorem mod_back {x m d : Int} (h0 : 0 ≤ x) (h1 : x < m) : ((x + 1 * d) % m + -1 * d) % m = x := by
  rw [Int.emod_add_emod, show x + 1 * d + -1 * d = x by omega]
  exact Int.emod_eq_of_lt h0 h1
theorem mod_forth {x m d : Int} (h0 : 0 ≤ x) (h1 : x < m) : ((x + -1 * d) % m + 1 * d) % m = x := by
  rw [Int.emod_add_emod, show x + -1 * d + 1 * d = x by omega]
  exact Int.emod_eq_of_lt h0 h1
theorem mod_subadd {x m : Int} (h0 : 0 ≤ x) (h1 : x < m) (d : Int) : ((x + d) % m - d) % m = x := by
  rw [Int.emod_sub_emod, show x + d - d = x by omega]
  exact Int.emod_eq_of_lt h0 h1
theorem mod_addsub {x m : Int} (h0 : 0 ≤ x) (h1 : x < m) (d : Int) : ((x - d) % m + d) % m = x := by
  rw [Int.emod_add_emod, show x - d + d = x by omega]
  exact Int.emod_eq_of_lt h0 h1
theorem colSet_self {f : Pt → Int} {p : Pt} {v : Int} : colSet f p v p = v := if_pos rfl
theorem colSet_set {f : Pt → Int} {p : Pt} {v u : Int} (h : f p = u) : colSet (colSet f p v) p u = f := by
  funext q
  unfold colSet
  by_cases e : p = q
  · subst e; rw [if_pos rfl, h]
  · rw [if_neg e, if_neg e]
theorem back_step {A : Ant} (h : Ok A) : backA (stepA A) = A := by
  have hk := h.k0 (A.r, A.c)
  have hk1 := h.k1 (A.r, A.c)
  have hr : (moved (stepA A) (-1)).r = A.r := mod_back h.r0 h.r1
  have hc : (moved (stepA A) (-1)).c = A.c := mod_back h.c0 h.c1
  have hq : here0 (moved (stepA A) (-1)) = (here0 A + 1) % A.bs.length := by
    show colSet A.col (A.r, A.c) _ ((moved (stepA A) (-1)).r, (moved (stepA A) (-1)).c) = _
    rw [hr, hc]; exact colSet_self
  have hv : (here0 (moved (stepA A) (-1)) - 1) % ((stepA A).bs.length : Int) = here0 A := by
    rw [hq]
    exact mod_subadd (m := A.bs.length) hk hk1 1
  refine ant_ext rfl rfl rfl hr hc ?_ ?_
  · show ((A.hd + turn (bit A (here0 A))) % 4 - turn (bit (stepA A) ((here0 (moved (stepA A) (-1)) - 1) % ((stepA A).bs.length : Int)))) % 4 = A.hd
    rw [hv]
    exact mod_subadd h.d0 h.d1 _
  · show colSet (colSet A.col (A.r, A.c) _) ((moved (stepA A) (-1)).r, (moved (stepA A) (-1)).c) ((here0 (moved (stepA A) (-1)) - 1) % ((stepA A).bs.length : Int)) = A.col
    rw [hr, hc, hv]
    exact colSet_set rfl
theorem step_back {A : Ant} (h : Ok A) : stepA (backA A) = A := by
  have hB := ok_moved h (-1)
  have hk := hB.k0 ((moved A (-1)).r, (moved A (-1)).c)
  have hk1 := hB.k1 ((moved A (-1)).r, (moved A (-1)).c)
  have hq : here0 (backA A) = (here0 (moved A (-1)) - 1) % A.bs.length := colSet_self
  have hh : (headed (backA A) ((backA A).hd + turn (bit (backA A) (here0 (backA A))))).hd = A.hd := by
    show (((A.hd - turn (bit A ((here0 (moved A (-1)) - 1) % A.bs.length))) % 4) + turn (bit (backA A) (here0 (backA A)))) % 4 = A.hd
    rw [hq]
    exact mod_addsub h.d0 h.d1 _
  refine ant_ext rfl rfl rfl ?_ ?_ hh ?_
  · show ((A.r + -1 * dr A.hd) % A.h + 1 * dr (headed (backA A) ((backA A).hd + turn (bit (backA A) (here0 (backA A))))).hd) % A.h = A.r
    rw [hh]; exact mod_forth h.r0 h.r1
  · show ((A.c + -1 * dc A.hd) % A.w + 1 * dc (headed (backA A) ((backA A).hd + turn (bit (backA A) (here0 (backA A))))).hd) % A.w = A.c
    rw [hh]; exact mod_forth h.c0 h.c1
  · show colSet (colSet A.col ((moved A (-1)).r, (moved A (-1)).c) _) ((moved A (-1)).r, (moved A (-1)).c) ((here0 (backA A) + 1) % (A.bs.length : Int)) = A.col
    rw [hq]
    refine colSet_set ?_
    exact (mod_addsub (m := A.bs.length) hk hk1 1).symm
theorem backs_steps {A : Ant} (h : Ok A) : ∀ n, backs (steps A n) n = A := by
  have key : ∀ n B, Ok B → backs (stepA B) (n + 1) = backs B n := by
    intro n
    induction n with
    | zero => intro B hB; exact back_step hB
    | succ n ih => intro B hB; show backA (backs (stepA B) (n + 1)) = backA (backs B n); rw [ih B hB]
  intro n
  induction n with
  | zero => rfl
  | succ n ih => show backs (stepA (steps A n)) (n + 1) = A; rw [key n _ (ok_steps h n), ih]
/-- each step turns the ant -/
theorem parity {A : Ant} (h : Ok A) : (A.hd + (stepA A).hd) % 2 = 1 := by
  show (A.hd + (A.hd + turn (bit A (here0 A))) % 4) % 2 = 1
  unfold turn
  split <;> omega
end K87
end
section
set_option Elab.async false
set_option linter.all false
set_option maxRecDepth 100000
set_option maxHeartbeats 1000000
set_option autoImplicit false
namespace K87
open PySem PySem.Spec PyProof.Rows L2 VL
theorem same_okT {k : Nat} {d : D} (h : SameOk k d) : okT d = true := by
  cases h <;> rfl
/-- the items of a tuple -/
def tups (d : D) : List D := (VL.tupItems d).getD []
theorem same_items {k : Nat} {d : D} {xs : List D} (h : SameOk (k + 1) d) (e : VL.tupItems d = some xs) : ∀ x ∈ xs, SameOk k x := by
  cases h <;> cases e <;> assumption
theorem dIx_of {d : D} {xs : List D} {i : Int} (q : VL.tupItems d = some xs) : dIx d (.int i) = atI xs i := by cases d <;> cases q <;> rfl
theorem items_of {d : D} {xs : List D} (q : VL.tupItems d = some xs) : itemsI d = some xs := by cases d <;> cases q <;> rfl
theorem len_of {d : D} {xs : List D} (q : VL.tupItems d = some xs) : fLen [d] = some (.int xs.length) := by cases d <;> cases q <;> rfl
theorem tup_of {d : D} {xs : List D} (q : VL.tupItems d = some xs) : isTupD d = true := by cases d <;> cases q <;> rfl
theorem tup_no {d : D} (q : VL.tupItems d = none) : isTupD d = false := by cases d <;> first | rfl | cases q
def isPlace (d : D) (h w : Int) : Bool := match VL.tupItems d with
  | some [x, y] => isWhole x 0 (h - 1) && isWhole y 0 (w - 1)
  | _ => false
theorem r_fits_place {k : Nat} {d : D} (s : SameOk (k + 2) d) (h w : Int) : run_fits_place [fr d, fr (.int h), fr (.int w)] = some (fr (.bl (isPlace d h w)), [none, none, none]) := by
  have e1 := r_is_tuple_of (same_okT s) 2 2
  unfold run_fits_place fnRun m_fits_place
  cases q : VL.tupItems d with
  | none =>
    have e2 : isTupOf d 2 2 = false := by unfold isTupOf; rw [q]
    have e3 : isPlace d h w = false := by unfold isPlace; rw [q]
    rw [e2] at e1
    rw [e3]
    simp -implicitDefEqProofs -dsimp only [e_seq, e_skip, e_never, e_ret, e_n, e_c, e_d, e_do, e_nil, e_cons, e_op2, e_un, e_chain, e_b, e_not, e_and, e_or, e_andV, e_orV, e_notV, e_if, e_ifS, e_call, e_callN, e_callF, e_fz, e_tup, e_tupZ, e_lst, e_set, e_asg, e_put, e_get2, e_mut, e_mtr, e_for, e_iter, e_over, e_lc, e_yes, e_pno, e_po, e_cut, e_par2, e_par3, e_catN, e_newT, e_name, e_loc, e_take, e_move, e_gname, c_d, c_loc, k_loc, cs_nil', cs_cons', fz_fro, fz_lst, fz_dT, bnd_some, bnd_none, Option.bind_some, Option.bind_none, Option.map_some, Option.map_none, List.getElem?_cons_zero, List.getElem?_cons_succ, List.length_cons, List.length_nil, if_true, List.map_cons, List.map_nil, Nat.reduceSub, List.replicate_zero, List.replicate_succ, List.append_nil, List.cons_append, List.nil_append, List.set_cons_zero, List.set_cons_succ, Nat.reduceAdd, Nat.reduceLT, Nat.reduceLeDiff, argsO_nil, argsO_d, argsO_loc, locs_nil, locs_d, locs_loc, nodup_nil', nodup_one, backE_nil, backE_d, backE_loc, wipeE_nil, wipeE_cons, calmE_nil, calmE_none, restE_nil, restE_cons, keep_0, keep_1, keep_2, keep_3, keep_4, own_lst, own_dT, own_fro, ite_true', ite_false', reduceIte, Bool.not_true, Bool.not_false, Bool.false_eq_true, Option.join_some, List.head?_cons, List.tail_cons, set_loc, Option.getD_some, Option.getD_none, and_self, and_true, true_and, List.lookup, fr, Bool.true_and, Bool.false_and, Bool.and_true, Bool.and_false, Bool.and_self, Bool.true_or, Bool.false_or, Bool.or_true, Bool.or_false, e_fld, e_fldO, e_fldSet, e_gmFld, e_gmNil, e_gmCons, e_gmTup, e_gmKtup, e_meth, e_make, e_methT, c_fld, k_fld, set_fld, eq_self, cond_true, cond_false, true_or, or_true, false_or, or_false, e1, List.mem_nil_iff]
  | some xs =>
    have e2 : isTupOf d 2 2 = (decide ((2 : Int) ≤ xs.length) && decide ((xs.length : Int) ≤ 2)) := by unfold isTupOf; rw [q]
    by_cases l : xs.length = 2
    · obtain ⟨x, y, rfl⟩ : ∃ x y, xs = [x, y] := by
        rcases xs with _ | ⟨x, _ | ⟨y, _ | ⟨z, zs⟩⟩⟩ <;> simp at l
        exact ⟨x, y, rfl⟩
      have it := same_items s q
      have e3 : isPlace d h w = (isWhole x 0 (h - 1) && isWhole y 0 (w - 1)) := by unfold isPlace; rw [q]
      have e4 : isTupOf d 2 2 = true := by rw [e2]; rfl
      rw [e4] at e1
      rw [e3]
      have i0 : dIx d (.int 0) = some x := (dIx_of q).trans at_0
      have i1 : dIx d (.int 1) = some y := (dIx_of q).trans at_1
      have w0 := r_fits_whole (same_okT (it x List.mem_cons_self)) 0 (h - 1)
      have w1 := r_fits_whole (same_okT (it y (List.mem_cons_of_mem _ List.mem_cons_self))) 0 (w - 1)
      cases b : isWhole x 0 (h - 1) <;> rw [b] at w0 <;> simp -implicitDefEqProofs -dsimp only [e_seq, e_skip, e_never, e_ret, e_n, e_c, e_d, e_do, e_nil, e_cons, e_op2, e_un, e_chain, e_b, e_not, e_and, e_or, e_andV, e_orV, e_notV, e_if, e_ifS, e_call, e_callN, e_callF, e_fz, e_tup, e_tupZ, e_lst, e_set, e_asg, e_put, e_get2, e_mut, e_mtr, e_for, e_iter, e_over, e_lc, e_yes, e_pno, e_po, e_cut, e_par2, e_par3, e_catN, e_newT, e_name, e_loc, e_take, e_move, e_gname, c_d, c_loc, k_loc, cs_nil', cs_cons', fz_fro, fz_lst, fz_dT, bnd_some, bnd_none, Option.bind_some, Option.bind_none, Option.map_some, Option.map_none, List.getElem?_cons_zero, List.getElem?_cons_succ, List.length_cons, List.length_nil, if_true, List.map_cons, List.map_nil, Nat.reduceSub, List.replicate_zero, List.replicate_succ, List.append_nil, List.cons_append, List.nil_append, List.set_cons_zero, List.set_cons_succ, Nat.reduceAdd, Nat.reduceLT, Nat.reduceLeDiff, argsO_nil, argsO_d, argsO_loc, locs_nil, locs_d, locs_loc, nodup_nil', nodup_one, backE_nil, backE_d, backE_loc, wipeE_nil, wipeE_cons, calmE_nil, calmE_none, restE_nil, restE_cons, keep_0, keep_1, keep_2, keep_3, keep_4, own_lst, own_dT, own_fro, ite_true', ite_false', reduceIte, Bool.not_true, Bool.not_false, Bool.false_eq_true, Option.join_some, List.head?_cons, List.tail_cons, set_loc, Option.getD_some, Option.getD_none, and_self, and_true, true_and, List.lookup, fr, Bool.true_and, Bool.false_and, Bool.and_true, Bool.and_false, Bool.and_self, Bool.true_or, Bool.false_or, Bool.or_true, Bool.or_false, e_fld, e_fldO, e_fldSet, e_gmFld, e_gmNil, e_gmCons, e_gmTup, e_gmKtup, e_meth, e_make, e_methT, c_fld, k_fld, set_fld, eq_self, cond_true, cond_false, true_or, or_true, false_or, or_false, e1, i0, i1, dSub_i, w0, w1, List.mem_nil_iff]
    · have e3 : isPlace d h w = false := by
        unfold isPlace; rw [q]
        rcases xs with _ | ⟨x, _ | ⟨y, _ | ⟨z, zs⟩⟩⟩ <;> first | rfl | (simp at l)
      have e4 : isTupOf d 2 2 = false := by
        rw [e2, Bool.and_eq_false_iff, decide_eq_false_iff_not, decide_eq_false_iff_not]; omega
      rw [e4] at e1
      rw [e3]
      simp -implicitDefEqProofs -dsimp only [e_seq, e_skip, e_never, e_ret, e_n, e_c, e_d, e_do, e_nil, e_cons, e_op2, e_un, e_chain, e_b, e_not, e_and, e_or, e_andV, e_orV, e_notV, e_if, e_ifS, e_call, e_callN, e_callF, e_fz, e_tup, e_tupZ, e_lst, e_set, e_asg, e_put, e_get2, e_mut, e_mtr, e_for, e_iter, e_over, e_lc, e_yes, e_pno, e_po, e_cut, e_par2, e_par3, e_catN, e_newT, e_name, e_loc, e_take, e_move, e_gname, c_d, c_loc, k_loc, cs_nil', cs_cons', fz_fro, fz_lst, fz_dT, bnd_some, bnd_none, Option.bind_some, Option.bind_none, Option.map_some, Option.map_none, List.getElem?_cons_zero, List.getElem?_cons_succ, List.length_cons, List.length_nil, if_true, List.map_cons, List.map_nil, Nat.reduceSub, List.replicate_zero, List.replicate_succ, List.append_nil, List.cons_append, List.nil_append, List.set_cons_zero, List.set_cons_succ, Nat.reduceAdd, Nat.reduceLT, Nat.reduceLeDiff, argsO_nil, argsO_d, argsO_loc, locs_nil, locs_d, locs_loc, nodup_nil', nodup_one, backE_nil, backE_d, backE_loc, wipeE_nil, wipeE_cons, calmE_nil, calmE_none, restE_nil, restE_cons, keep_0, keep_1, keep_2, keep_3, keep_4, own_lst, own_dT, own_fro, ite_true', ite_false', reduceIte, Bool.not_true, Bool.not_false, Bool.false_eq_true, Option.join_some, List.head?_cons, List.tail_cons, set_loc, Option.getD_some, Option.getD_none, and_self, and_true, true_and, List.lookup, fr, Bool.true_and, Bool.false_and, Bool.and_true, Bool.and_false, Bool.and_self, Bool.true_or, Bool.false_or, Bool.or_true, Bool.or_false, e_fld, e_fldO, e_fldSet, e_gmFld, e_gmNil, e_gmCons, e_gmTup, e_gmKtup, e_meth, e_make, e_methT, c_fld, k_fld, set_fld, eq_self, cond_true, cond_false, true_or, or_true, false_or, or_false, e1, List.mem_nil_iff]
def odd (d : D) : Bool := isBlD' d || !isIntD d
theorem not_odd {d : D} (h : odd d = false) : ∃ i, d = .int i := by
  cases d <;> first | exact ⟨_, rfl⟩ | cases h
theorem whole_odd {d : D} {a b : Int} (h : odd d = true) : isWhole d a b = false := by
  cases d <;> first | rfl | cases h
theorem ones {xs : List D} {p : D → Bool} : ∃ ps, toPs 59 ((xs.filter p).map fun _ => D.int 1) = some ps := by
  have : (xs.filter p).map (fun _ => D.int 1) = (List.replicate (xs.filter p).length (1 : Int)).map D.int := by rw [List.map_replicate]; exact List.map_const' ..
  rw [this, toPs_ints]; exact ⟨_, rfl⟩
end K87
end
section
set_option Elab.async false
set_option linter.all false
set_option maxRecDepth 100000
set_option maxHeartbeats 1000000
set_option autoImplicit false
namespace K87
open PySem PySem.Spec PyProof.Rows L2 VL
def isLr (c : Nat) : Bool := decide (c ∈ ("lr" : Str).cps.toList)
def isRule (d : D) : Bool := match d with
  | .str s => decide (2 ≤ s.cps.size) && (decide (s.cps.size ≤ 6) && s.cps.toList.all isLr)
  | _ => false
theorem dIn_lr {c : Nat} : dIn (.str ⟨#[c]⟩) (.str "lr") = some (.bl (isLr c)) := rfl
theorem dNotIn_lr {c : Nat} : dNotIn (.str ⟨#[c]⟩) (.str "lr") = some (.bl (!isLr c)) := rfl
theorem r_fits_rule {k : Nat} {d : D} (s : SameOk k d) : run_fits_rule [fr d] = some (fr (.bl (isRule d)), [none]) := by
  have hi := isi_str (same_okT s)
  unfold run_fits_rule fnRun m_fits_rule
  cases s with
  | @str k s hz =>
    have hl : fLen [.str s] = some (.int s.cps.size) := len_s (by omega)
    have lc := lc_all (own := [1]) (tm := gmName 1) (me := mOp2 dIn (mLoc 1) (mD (mC (.str "lr")))) (η := [some (fr (.str s)), none]) (fun d => match d with
      | .str ⟨⟨[c]⟩⟩ => .bl (isLr c)
      | _ => .non) (VL.signs s) fun z hz => by
      unfold VL.signs at hz
      obtain ⟨c, _, rfl⟩ := List.mem_map.mp hz
      exact ⟨[some (fr (.str s)), some (fr (.str ⟨#[c]⟩))], [some (fr (.str s)), some (fr (.str ⟨#[c]⟩))], by simp -implicitDefEqProofs -dsimp only [e_seq, e_skip, e_never, e_ret, e_n, e_c, e_d, e_do, e_nil, e_cons, e_op2, e_un, e_chain, e_b, e_not, e_and, e_or, e_andV, e_orV, e_notV, e_if, e_ifS, e_call, e_callN, e_callF, e_fz, e_tup, e_tupZ, e_lst, e_set, e_asg, e_put, e_get2, e_mut, e_mtr, e_for, e_iter, e_over, e_lc, e_yes, e_pno, e_po, e_cut, e_par2, e_par3, e_catN, e_newT, e_name, e_loc, e_take, e_move, e_gname, c_d, c_loc, k_loc, cs_nil', cs_cons', fz_fro, fz_lst, fz_dT, bnd_some, bnd_none, Option.bind_some, Option.bind_none, Option.map_some, Option.map_none, List.getElem?_cons_zero, List.getElem?_cons_succ, List.length_cons, List.length_nil, if_true, List.map_cons, List.map_nil, Nat.reduceSub, List.replicate_zero, List.replicate_succ, List.append_nil, List.cons_append, List.nil_append, List.set_cons_zero, List.set_cons_succ, Nat.reduceAdd, Nat.reduceLT, Nat.reduceLeDiff, argsO_nil, argsO_d, argsO_loc, locs_nil, locs_d, locs_loc, nodup_nil', nodup_one, backE_nil, backE_d, backE_loc, wipeE_nil, wipeE_cons, calmE_nil, calmE_none, restE_nil, restE_cons, keep_0, keep_1, keep_2, keep_3, keep_4, own_lst, own_dT, own_fro, ite_true', ite_false', reduceIte, Bool.not_true, Bool.not_false, Bool.false_eq_true, Option.join_some, List.head?_cons, List.tail_cons, set_loc, Option.getD_some, Option.getD_none, and_self, and_true, true_and, List.lookup, fr, Bool.true_and, Bool.false_and, Bool.and_true, Bool.and_false, Bool.and_self, Bool.true_or, Bool.false_or, Bool.or_true, Bool.or_false, e_fld, e_fldO, e_fldSet, e_gmFld, e_gmNil, e_gmCons, e_gmTup, e_gmKtup, e_meth, e_make, e_methT, c_fld, k_fld, set_fld, eq_self, cond_true, cond_false, true_or, or_true, false_or, or_false], by simp -implicitDefEqProofs -dsimp only [e_seq, e_skip, e_never, e_ret, e_n, e_c, e_d, e_do, e_nil, e_cons, e_op2, e_un, e_chain, e_b, e_not, e_and, e_or, e_andV, e_orV, e_notV, e_if, e_ifS, e_call, e_callN, e_callF, e_fz, e_tup, e_tupZ, e_lst, e_set, e_asg, e_put, e_get2, e_mut, e_mtr, e_for, e_iter, e_over, e_lc, e_yes, e_pno, e_po, e_cut, e_par2, e_par3, e_catN, e_newT, e_name, e_loc, e_take, e_move, e_gname, c_d, c_loc, k_loc, cs_nil', cs_cons', fz_fro, fz_lst, fz_dT, bnd_some, bnd_none, Option.bind_some, Option.bind_none, Option.map_some, Option.map_none, List.getElem?_cons_zero, List.getElem?_cons_succ, List.length_cons, List.length_nil, if_true, List.map_cons, List.map_nil, Nat.reduceSub, List.replicate_zero, List.replicate_succ, List.append_nil, List.cons_append, List.nil_append, List.set_cons_zero, List.set_cons_succ, Nat.reduceAdd, Nat.reduceLT, Nat.reduceLeDiff, argsO_nil, argsO_d, argsO_loc, locs_nil, locs_d, locs_loc, nodup_nil', nodup_one, backE_nil, backE_d, backE_loc, wipeE_nil, wipeE_cons, calmE_nil, calmE_none, restE_nil, restE_cons, keep_0, keep_1, keep_2, keep_3, keep_4, own_lst, own_dT, own_fro, ite_true', ite_false', reduceIte, Bool.not_true, Bool.not_false, Bool.false_eq_true, Option.join_some, List.head?_cons, List.tail_cons, set_loc, Option.getD_some, Option.getD_none, and_self, and_true, true_and, List.lookup, fr, Bool.true_and, Bool.false_and, Bool.and_true, Bool.and_false, Bool.and_self, Bool.true_or, Bool.false_or, Bool.or_true, Bool.or_false, e_fld, e_fldO, e_fldSet, e_gmFld, e_gmNil, e_gmCons, e_gmTup, e_gmKtup, e_meth, e_make, e_methT, c_fld, k_fld, set_fld, eq_self, cond_true, cond_false, true_or, or_true, false_or, or_false, dIn_lr], by simp -implicitDefEqProofs -dsimp only [e_seq, e_skip, e_never, e_ret, e_n, e_c, e_d, e_do, e_nil, e_cons, e_op2, e_un, e_chain, e_b, e_not, e_and, e_or, e_andV, e_orV, e_notV, e_if, e_ifS, e_call, e_callN, e_callF, e_fz, e_tup, e_tupZ, e_lst, e_set, e_asg, e_put, e_get2, e_mut, e_mtr, e_for, e_iter, e_over, e_lc, e_yes, e_pno, e_po, e_cut, e_par2, e_par3, e_catN, e_newT, e_name, e_loc, e_take, e_move, e_gname, c_d, c_loc, k_loc, cs_nil', cs_cons', fz_fro, fz_lst, fz_dT, bnd_some, bnd_none, Option.bind_some, Option.bind_none, Option.map_some, Option.map_none, List.getElem?_cons_zero, List.getElem?_cons_succ, List.length_cons, List.length_nil, if_true, List.map_cons, List.map_nil, Nat.reduceSub, List.replicate_zero, List.replicate_succ, List.append_nil, List.cons_append, List.nil_append, List.set_cons_zero, List.set_cons_succ, Nat.reduceAdd, Nat.reduceLT, Nat.reduceLeDiff, argsO_nil, argsO_d, argsO_loc, locs_nil, locs_d, locs_loc, nodup_nil', nodup_one, backE_nil, backE_d, backE_loc, wipeE_nil, wipeE_cons, calmE_nil, calmE_none, restE_nil, restE_cons, keep_0, keep_1, keep_2, keep_3, keep_4, own_lst, own_dT, own_fro, ite_true', ite_false', reduceIte, Bool.not_true, Bool.not_false, Bool.false_eq_true, Option.join_some, List.head?_cons, List.tail_cons, set_loc, Option.getD_some, Option.getD_none, and_self, and_true, true_and, List.lookup, fr, Bool.true_and, Bool.false_and, Bool.and_true, Bool.and_false, Bool.and_self, Bool.true_or, Bool.false_or, Bool.or_true, Bool.or_false, e_fld, e_fldO, e_fldSet, e_gmFld, e_gmNil, e_gmCons, e_gmTup, e_gmKtup, e_meth, e_make, e_methT, c_fld, k_fld, set_fld, eq_self, cond_true, cond_false, true_or, or_true, false_or, or_false]⟩
    have e : (VL.signs s).map (fun d => match d with
      | .str ⟨⟨[c]⟩⟩ => D.bl (isLr c)
      | _ => .non) = s.cps.toList.map fun c => D.bl (isLr c) := by
      unfold VL.signs
      rw [List.map_map]; rfl
    rw [e] at lc
    have e1 : isRule (.str s) = (decide (2 ≤ s.cps.size) && (decide (s.cps.size ≤ 6) && s.cps.toList.all isLr)) := rfl
    have i1 : itemsI (.str s) = some (VL.signs s) := rfl
    have sm : small (VL.signs s).length = true := small_of (by
      unfold VL.signs; rw [List.length_map]; show s.length ≤ 16777216; omega)
    rw [e1]
    by_cases a1 : 2 ≤ s.cps.size <;> by_cases a2 : s.cps.size ≤ 6
    · simp -implicitDefEqProofs -dsimp only [e_seq, e_skip, e_never, e_ret, e_n, e_c, e_d, e_do, e_nil, e_cons, e_op2, e_un, e_chain, e_b, e_not, e_and, e_or, e_andV, e_orV, e_notV, e_if, e_ifS, e_call, e_callN, e_callF, e_fz, e_tup, e_tupZ, e_lst, e_set, e_asg, e_put, e_get2, e_mut, e_mtr, e_for, e_iter, e_over, e_lc, e_yes, e_pno, e_po, e_cut, e_par2, e_par3, e_catN, e_newT, e_name, e_loc, e_take, e_move, e_gname, c_d, c_loc, k_loc, cs_nil', cs_cons', fz_fro, fz_lst, fz_dT, bnd_some, bnd_none, Option.bind_some, Option.bind_none, Option.map_some, Option.map_none, List.getElem?_cons_zero, List.getElem?_cons_succ, List.length_cons, List.length_nil, if_true, List.map_cons, List.map_nil, Nat.reduceSub, List.replicate_zero, List.replicate_succ, List.append_nil, List.cons_append, List.nil_append, List.set_cons_zero, List.set_cons_succ, Nat.reduceAdd, Nat.reduceLT, Nat.reduceLeDiff, argsO_nil, argsO_d, argsO_loc, locs_nil, locs_d, locs_loc, nodup_nil', nodup_one, backE_nil, backE_d, backE_loc, wipeE_nil, wipeE_cons, calmE_nil, calmE_none, restE_nil, restE_cons, keep_0, keep_1, keep_2, keep_3, keep_4, own_lst, own_dT, own_fro, ite_true', ite_false', reduceIte, Bool.not_true, Bool.not_false, Bool.false_eq_true, Option.join_some, List.head?_cons, List.tail_cons, set_loc, Option.getD_some, Option.getD_none, and_self, and_true, true_and, List.lookup, fr, Bool.true_and, Bool.false_and, Bool.and_true, Bool.and_false, Bool.and_self, Bool.true_or, Bool.false_or, Bool.or_true, Bool.or_false, e_fld, e_fldO, e_fldSet, e_gmFld, e_gmNil, e_gmCons, e_gmTup, e_gmKtup, e_meth, e_make, e_methT, c_fld, k_fld, set_fld, eq_self, cond_true, cond_false, true_or, or_true, false_or, or_false, hi, isStrD, hl, dLe_i, show decide ((2 : Int) ≤ s.cps.size) = true from decide_eq_true (by omega), show decide ((s.cps.size : Int) ≤ 6) = true from decide_eq_true (by omega), decide_eq_true a1, decide_eq_true a2, i1, sm, lc, all_bl, List.mem_nil_iff]
    · simp -implicitDefEqProofs -dsimp only [e_seq, e_skip, e_never, e_ret, e_n, e_c, e_d, e_do, e_nil, e_cons, e_op2, e_un, e_chain, e_b, e_not, e_and, e_or, e_andV, e_orV, e_notV, e_if, e_ifS, e_call, e_callN, e_callF, e_fz, e_tup, e_tupZ, e_lst, e_set, e_asg, e_put, e_get2, e_mut, e_mtr, e_for, e_iter, e_over, e_lc, e_yes, e_pno, e_po, e_cut, e_par2, e_par3, e_catN, e_newT, e_name, e_loc, e_take, e_move, e_gname, c_d, c_loc, k_loc, cs_nil', cs_cons', fz_fro, fz_lst, fz_dT, bnd_some, bnd_none, Option.bind_some, Option.bind_none, Option.map_some, Option.map_none, List.getElem?_cons_zero, List.getElem?_cons_succ, List.length_cons, List.length_nil, if_true, List.map_cons, List.map_nil, Nat.reduceSub, List.replicate_zero, List.replicate_succ, List.append_nil, List.cons_append, List.nil_append, List.set_cons_zero, List.set_cons_succ, Nat.reduceAdd, Nat.reduceLT, Nat.reduceLeDiff, argsO_nil, argsO_d, argsO_loc, locs_nil, locs_d, locs_loc, nodup_nil', nodup_one, backE_nil, backE_d, backE_loc, wipeE_nil, wipeE_cons, calmE_nil, calmE_none, restE_nil, restE_cons, keep_0, keep_1, keep_2, keep_3, keep_4, own_lst, own_dT, own_fro, ite_true', ite_false', reduceIte, Bool.not_true, Bool.not_false, Bool.false_eq_true, Option.join_some, List.head?_cons, List.tail_cons, set_loc, Option.getD_some, Option.getD_none, and_self, and_true, true_and, List.lookup, fr, Bool.true_and, Bool.false_and, Bool.and_true, Bool.and_false, Bool.and_self, Bool.true_or, Bool.false_or, Bool.or_true, Bool.or_false, e_fld, e_fldO, e_fldSet, e_gmFld, e_gmNil, e_gmCons, e_gmTup, e_gmKtup, e_meth, e_make, e_methT, c_fld, k_fld, set_fld, eq_self, cond_true, cond_false, true_or, or_true, false_or, or_false, hi, isStrD, hl, dLe_i, show decide ((2 : Int) ≤ s.cps.size) = true from decide_eq_true (by omega), show decide ((s.cps.size : Int) ≤ 6) = false from decide_eq_false (by omega), decide_eq_true a1, decide_eq_false a2, List.mem_nil_iff]
    · simp -implicitDefEqProofs -dsimp only [e_seq, e_skip, e_never, e_ret, e_n, e_c, e_d, e_do, e_nil, e_cons, e_op2, e_un, e_chain, e_b, e_not, e_and, e_or, e_andV, e_orV, e_notV, e_if, e_ifS, e_call, e_callN, e_callF, e_fz, e_tup, e_tupZ, e_lst, e_set, e_asg, e_put, e_get2, e_mut, e_mtr, e_for, e_iter, e_over, e_lc, e_yes, e_pno, e_po, e_cut, e_par2, e_par3, e_catN, e_newT, e_name, e_loc, e_take, e_move, e_gname, c_d, c_loc, k_loc, cs_nil', cs_cons', fz_fro, fz_lst, fz_dT, bnd_some, bnd_none, Option.bind_some, Option.bind_none, Option.map_some, Option.map_none, List.getElem?_cons_zero, List.getElem?_cons_succ, List.length_cons, List.length_nil, if_true, List.map_cons, List.map_nil, Nat.reduceSub, List.replicate_zero, List.replicate_succ, List.append_nil, List.cons_append, List.nil_append, List.set_cons_zero, List.set_cons_succ, Nat.reduceAdd, Nat.reduceLT, Nat.reduceLeDiff, argsO_nil, argsO_d, argsO_loc, locs_nil, locs_d, locs_loc, nodup_nil', nodup_one, backE_nil, backE_d, backE_loc, wipeE_nil, wipeE_cons, calmE_nil, calmE_none, restE_nil, restE_cons, keep_0, keep_1, keep_2, keep_3, keep_4, own_lst, own_dT, own_fro, ite_true', ite_false', reduceIte, Bool.not_true, Bool.not_false, Bool.false_eq_true, Option.join_some, List.head?_cons, List.tail_cons, set_loc, Option.getD_some, Option.getD_none, and_self, and_true, true_and, List.lookup, fr, Bool.true_and, Bool.false_and, Bool.and_true, Bool.and_false, Bool.and_self, Bool.true_or, Bool.false_or, Bool.or_true, Bool.or_false, e_fld, e_fldO, e_fldSet, e_gmFld, e_gmNil, e_gmCons, e_gmTup, e_gmKtup, e_meth, e_make, e_methT, c_fld, k_fld, set_fld, eq_self, cond_true, cond_false, true_or, or_true, false_or, or_false, hi, isStrD, hl, dLe_i, show decide ((2 : Int) ≤ s.cps.size) = false from decide_eq_false (by omega), decide_eq_false a1, List.mem_nil_iff]
    · simp -implicitDefEqProofs -dsimp only [e_seq, e_skip, e_never, e_ret, e_n, e_c, e_d, e_do, e_nil, e_cons, e_op2, e_un, e_chain, e_b, e_not, e_and, e_or, e_andV, e_orV, e_notV, e_if, e_ifS, e_call, e_callN, e_callF, e_fz, e_tup, e_tupZ, e_lst, e_set, e_asg, e_put, e_get2, e_mut, e_mtr, e_for, e_iter, e_over, e_lc, e_yes, e_pno, e_po, e_cut, e_par2, e_par3, e_catN, e_newT, e_name, e_loc, e_take, e_move, e_gname, c_d, c_loc, k_loc, cs_nil', cs_cons', fz_fro, fz_lst, fz_dT, bnd_some, bnd_none, Option.bind_some, Option.bind_none, Option.map_some, Option.map_none, List.getElem?_cons_zero, List.getElem?_cons_succ, List.length_cons, List.length_nil, if_true, List.map_cons, List.map_nil, Nat.reduceSub, List.replicate_zero, List.replicate_succ, List.append_nil, List.cons_append, List.nil_append, List.set_cons_zero, List.set_cons_succ, Nat.reduceAdd, Nat.reduceLT, Nat.reduceLeDiff, argsO_nil, argsO_d, argsO_loc, locs_nil, locs_d, locs_loc, nodup_nil', nodup_one, backE_nil, backE_d, backE_loc, wipeE_nil, wipeE_cons, calmE_nil, calmE_none, restE_nil, restE_cons, keep_0, keep_1, keep_2, keep_3, keep_4, own_lst, own_dT, own_fro, ite_true', ite_false', reduceIte, Bool.not_true, Bool.not_false, Bool.false_eq_true, Option.join_some, List.head?_cons, List.tail_cons, set_loc, Option.getD_some, Option.getD_none, and_self, and_true, true_and, List.lookup, fr, Bool.true_and, Bool.false_and, Bool.and_true, Bool.and_false, Bool.and_self, Bool.true_or, Bool.false_or, Bool.or_true, Bool.or_false, e_fld, e_fldO, e_fldSet, e_gmFld, e_gmNil, e_gmCons, e_gmTup, e_gmKtup, e_meth, e_make, e_methT, c_fld, k_fld, set_fld, eq_self, cond_true, cond_false, true_or, or_true, false_or, or_false, hi, isStrD, hl, dLe_i, show decide ((2 : Int) ≤ s.cps.size) = false from decide_eq_false (by omega), decide_eq_false a1, List.mem_nil_iff]
  | _ => simp -implicitDefEqProofs -dsimp only [e_seq, e_skip, e_never, e_ret, e_n, e_c, e_d, e_do, e_nil, e_cons, e_op2, e_un, e_chain, e_b, e_not, e_and, e_or, e_andV, e_orV, e_notV, e_if, e_ifS, e_call, e_callN, e_callF, e_fz, e_tup, e_tupZ, e_lst, e_set, e_asg, e_put, e_get2, e_mut, e_mtr, e_for, e_iter, e_over, e_lc, e_yes, e_pno, e_po, e_cut, e_par2, e_par3, e_catN, e_newT, e_name, e_loc, e_take, e_move, e_gname, c_d, c_loc, k_loc, cs_nil', cs_cons', fz_fro, fz_lst, fz_dT, bnd_some, bnd_none, Option.bind_some, Option.bind_none, Option.map_some, Option.map_none, List.getElem?_cons_zero, List.getElem?_cons_succ, List.length_cons, List.length_nil, if_true, List.map_cons, List.map_nil, Nat.reduceSub, List.replicate_zero, List.replicate_succ, List.append_nil, List.cons_append, List.nil_append, List.set_cons_zero, List.set_cons_succ, Nat.reduceAdd, Nat.reduceLT, Nat.reduceLeDiff, argsO_nil, argsO_d, argsO_loc, locs_nil, locs_d, locs_loc, nodup_nil', nodup_one, backE_nil, backE_d, backE_loc, wipeE_nil, wipeE_cons, calmE_nil, calmE_none, restE_nil, restE_cons, keep_0, keep_1, keep_2, keep_3, keep_4, own_lst, own_dT, own_fro, ite_true', ite_false', reduceIte, Bool.not_true, Bool.not_false, Bool.false_eq_true, Option.join_some, List.head?_cons, List.tail_cons, set_loc, Option.getD_some, Option.getD_none, and_self, and_true, true_and, List.lookup, fr, Bool.true_and, Bool.false_and, Bool.and_true, Bool.and_false, Bool.and_self, Bool.true_or, Bool.false_or, Bool.or_true, Bool.or_false, e_fld, e_fldO, e_fldSet, e_gmFld, e_gmNil, e_gmCons, e_gmTup, e_gmKtup, e_meth, e_make, e_methT, c_fld, k_fld, set_fld, eq_self, cond_true, cond_false, true_or, or_true, false_or, or_false, hi, isStrD, isRule, List.mem_nil_iff]
end K87
end
section
set_option Elab.async false
set_option linter.all false
set_option maxRecDepth 100000
set_option maxHeartbeats 1000000
set_option autoImplicit false
namespace K87
open PySem PySem.Spec PyProof.Rows L2 VL
def pairOk (h w n : Int) (d : D) : Bool := match VL.tupItems d with
  | some [p, k] => isPlace p h w && isWhole k 1 (n - 1)
  | _ => false
def placeOf (d : D) : Pt := match VL.tupItems d with
  | some [.int x, .int y] => (x, y)
  | _ => (0, 0)
def cellOf (d : D) : Pt := match VL.tupItems d with
  | some (p :: _) => placeOf p
  | _ => (0, 0)
def adj : List Pt → Bool
  | a :: b :: r => ltP a b && adj (b :: r)
  | _ => true
def isPaint (d : D) (h w n : Int) : Bool := match VL.tupItems d with
  | some xs => xs.all (pairOk h w n) && adj (xs.map cellOf)
  | none => false
theorem cut1 {d : D} {xs : List D} (q : VL.tupItems d = some xs) : ∃ e, dCut d (some 1) none = some e ∧ VL.tupItems e = some (xs.drop 1) := by
  have hc : cut xs (some 1) none = xs.drop 1 := by
    unfold cut
    rw [HT.sIx_none, show (some (1 : Int)) = some ((1 : Nat) : Int) from rfl, HT.sIx_nat]
    cases xs with
    | nil => rfl
    | cons x xs =>
      rw [Nat.min_eq_left (by simp)]
      rw [List.take_of_length_le (by simp)]
  cases d <;> cases q
  · exact ⟨_, rfl, by rw [hc]; rfl⟩
  · show ∃ e, (if HT.sIx xs.length 0 (some 1) = 0 ∧ HT.sIx xs.length xs.length none = xs.length then some (D.ktup xs) else some (.tup (cut xs (some 1) none))) = some e ∧ _
    by_cases g : HT.sIx xs.length 0 (some 1) = 0 ∧ HT.sIx xs.length xs.length none = xs.length
    · rw [if_pos g]
      refine ⟨_, rfl, ?_⟩
      have g := g.1
      rw [show (some (1 : Int)) = some ((1 : Nat) : Int) from rfl, HT.sIx_nat] at g
      have : xs = [] := by
        cases xs with
        | nil => rfl
        | cons x xs => rw [Nat.min_eq_left (by simp)] at g; cases g
      subst this; rfl
    · rw [if_neg g]
      exact ⟨_, rfl, by rw [hc]; rfl⟩
theorem zip_of {d e : D} {xs ys : List D} (q : VL.tupItems d = some xs) (r : VL.tupItems e = some ys) : zipI [d, e] = some (VL.zips xs ys) := by
  cases d <;> cases q <;> cases e <;> cases r <;> rfl
theorem dLt_place {p q : D} {a b c e : Int} (h1 : VL.tupItems p = some [.int a, .int b]) (h2 : VL.tupItems q = some [.int c, .int e]) : dLt p q = some (.bl (ltP (a, b) (c, e))) := by
  have key : (if PySem.W.alike (.tuple [.int a, .int b]) (.tuple [.int c, .int e]) = true ∧ pdNone (.tuple [.int a, .int b]) = false then some (D.bl (PySem.W.dataLt (.tuple [.int a, .int b]) (.tuple [.int c, .int e]))) else none) = some (.bl (ltP (a, b) (c, e))) := by
    rw [if_pos ⟨alike_pairs (p := (a, b)) (q := (c, e)), rfl⟩, PySem.W.dataLt_ii]; rfl
  cases p <;> cases h1 <;> cases q <;> cases h2 <;> exact key
theorem place_ints {p : D} {h w : Int} (e : isPlace p h w = true) : ∃ a b, VL.tupItems p = some [.int a, .int b] ∧ placeOf p = (a, b) ∧ (0 ≤ a ∧ a ≤ h - 1) ∧ 0 ≤ b ∧ b ≤ w - 1 := by
  unfold isPlace at e
  split at e
  · rename_i x y q
    rw [Bool.and_eq_true] at e
    obtain ⟨e1, e2⟩ := e
    cases x <;> try (cases e1; done)
    cases y <;> try (cases e2; done)
    rename_i a b
    refine ⟨a, b, q, by unfold placeOf; rw [q], ?_⟩
    simp only [isWhole, Bool.and_eq_true, decide_eq_true_eq] at e1 e2
    exact ⟨e1, e2⟩
  · cases e
theorem pair_ok {d : D} {h w n : Int} (e : pairOk h w n d = true) : ∃ p k, VL.tupItems d = some [p, k] ∧ isPlace p h w = true ∧ isWhole k 1 (n - 1) = true ∧ cellOf d = placeOf p := by
  unfold pairOk at e
  split at e
  · rename_i p k q
    rw [Bool.and_eq_true] at e
    exact ⟨p, k, q, e.1, e.2, by unfold cellOf; rw [q]⟩
  · cases e
theorem adj_sorted : ∀ {l : List Pt}, adj l = true → l.Pairwise fun a b => ltP a b = true
  | [], _ => .nil
  | [a], _ => by simp
  | a :: b :: r, h => by
    unfold adj at h
    rw [Bool.and_eq_true] at h
    have ih := adj_sorted h.2
    refine .cons (fun x hx => ?_) ih
    rcases List.mem_cons.mp hx with rfl | hx
    · exact h.1
    · exact ltP_trans h.1 (List.rel_of_pairwise_cons ih hx)
theorem sorted_adj : ∀ {l : List Pt}, l.Pairwise (fun a b => ltP a b = true) → adj l = true
  | [], _ => rfl
  | [a], _ => rfl
  | a :: b :: r, h => by
    unfold adj
    rw [Bool.and_eq_true]
    exact ⟨List.rel_of_pairwise_cons h List.mem_cons_self, sorted_adj (List.Pairwise.of_cons h)⟩
theorem adj_iff {l : List Pt} : adj l = decide (l = setSort l) := by
  rw [Bool.eq_iff_iff, decide_eq_true_eq]
  constructor
  · intro h; exact sorted_eq (adj_sorted h) (setSort_sorted l) fun x => mem_setSort.symm
  · intro h; rw [h]; exact sorted_adj (setSort_sorted l)
theorem adj_zip {α : Type} {f : α → Pt} : ∀ xs : List α, adj (xs.map f) = (xs.zip (xs.drop 1)).all fun p => ltP (f p.1) (f p.2)
  | [] => rfl
  | [a] => rfl
  | a :: b :: r => by
    have ih := adj_zip (f := f) (b :: r)
    show (ltP (f a) (f b) && adj ((b :: r).map f)) = _
    rw [ih]; rfl
/-- a paint that fits is not longer than the grid -/
theorem paint_len {xs : List D} {h w : Nat} {n : Int} (h1 : xs.all (pairOk h w n) = true) (h2 : adj (xs.map cellOf) = true) : xs.length ≤ h * w := by
  have := grid_len (h := h) (w := w) (adj_sorted h2) fun p hp => by
    obtain ⟨d, hd, rfl⟩ := List.mem_map.mp hp
    obtain ⟨p, k, q1, q2, q3, q4⟩ := pair_ok (List.all_eq_true.mp h1 d hd)
    obtain ⟨a, b, g1, g2, g3, g4⟩ := place_ints q2
    rw [q4, g2, mem_cells]
    exact ⟨⟨g3.1, by omega⟩, g4.1, by omega⟩
  rw [List.length_map] at this
  exact this
end K87
end
section
set_option Elab.async false
set_option linter.all false
set_option maxRecDepth 100000
set_option maxHeartbeats 1000000
set_option autoImplicit false
namespace K87
open PySem PySem.Spec PyProof.Rows L2 VL
def two (d : D) : Bool := isTupOf d 2 2
theorem two_iff {d : D} : two d = true ↔ ∃ x y, VL.tupItems d = some [x, y] := by
  unfold two isTupOf
  cases q : VL.tupItems d with
  | none => simp
  | some xs =>
    simp only [Bool.and_eq_true, decide_eq_true_eq, Option.some.injEq]
    constructor
    · intro l
      have l : xs.length = 2 := by omega
      rcases xs with _ | ⟨x, _ | ⟨y, _ | ⟨z, zs⟩⟩⟩ <;> simp at l
      exact ⟨x, y, rfl⟩
    · rintro ⟨x, y, rfl⟩; simp
theorem ok_two {d : D} {h w n : Int} (e : pairOk h w n d = true) : two d = true := by
  obtain ⟨p, k, q, _⟩ := pair_ok e
  exact two_iff.mpr ⟨p, k, q⟩
theorem r_fits_paint {k : Nat} {d : D} (s : SameOk (k + 4) d) {h w : Nat} (hh : h ≤ 20) (hw : w ≤ 20) (n : Int) : run_fits_paint [fr d, fr (.int h), fr (.int w), fr (.int n)] = some (fr (.bl (isPaint d h w n)), [none, none, none, none]) := by
  have e0 := r_is_tuple_of (same_okT s) 0 ((h : Int) * w)
  have hm : dMul (.int h) (.int w) = some (.int ((h : Int) * w)) := dMul_r (by omega)
  unfold run_fits_paint fnRun m_fits_paint
  cases q : VL.tupItems d with
  | none =>
    have e2 : isTupOf d 0 ((h : Int) * w) = false := by unfold isTupOf; rw [q]
    have e3 : isPaint d h w n = false := by unfold isPaint; rw [q]
    rw [e2] at e0
    rw [e3]
    simp -implicitDefEqProofs -dsimp only [e_seq, e_skip, e_never, e_ret, e_n, e_c, e_d, e_do, e_nil, e_cons, e_op2, e_un, e_chain, e_b, e_not, e_and, e_or, e_andV, e_orV, e_notV, e_if, e_ifS, e_call, e_callN, e_callF, e_fz, e_tup, e_tupZ, e_lst, e_set, e_asg, e_put, e_get2, e_mut, e_mtr, e_for, e_iter, e_over, e_lc, e_yes, e_pno, e_po, e_cut, e_par2, e_par3, e_catN, e_newT, e_name, e_loc, e_take, e_move, e_gname, c_d, c_loc, k_loc, cs_nil', cs_cons', fz_fro, fz_lst, fz_dT, bnd_some, bnd_none, Option.bind_some, Option.bind_none, Option.map_some, Option.map_none, List.getElem?_cons_zero, List.getElem?_cons_succ, List.length_cons, List.length_nil, if_true, List.map_cons, List.map_nil, Nat.reduceSub, List.replicate_zero, List.replicate_succ, List.append_nil, List.cons_append, List.nil_append, List.set_cons_zero, List.set_cons_succ, Nat.reduceAdd, Nat.reduceLT, Nat.reduceLeDiff, argsO_nil, argsO_d, argsO_loc, locs_nil, locs_d, locs_loc, nodup_nil', nodup_one, backE_nil, backE_d, backE_loc, wipeE_nil, wipeE_cons, calmE_nil, calmE_none, restE_nil, restE_cons, keep_0, keep_1, keep_2, keep_3, keep_4, own_lst, own_dT, own_fro, ite_true', ite_false', reduceIte, Bool.not_true, Bool.not_false, Bool.false_eq_true, Option.join_some, List.head?_cons, List.tail_cons, set_loc, Option.getD_some, Option.getD_none, and_self, and_true, true_and, List.lookup, fr, Bool.true_and, Bool.false_and, Bool.and_true, Bool.and_false, Bool.and_self, Bool.true_or, Bool.false_or, Bool.or_true, Bool.or_false, e_fld, e_fldO, e_fldSet, e_gmFld, e_gmNil, e_gmCons, e_gmTup, e_gmKtup, e_meth, e_make, e_methT, c_fld, k_fld, set_fld, eq_self, cond_true, cond_false, true_or, or_true, false_or, or_false, hm, e0, List.mem_nil_iff]
  | some xs =>
    have it := same_items s q
    have e3 : isPaint d h w n = (xs.all (pairOk h w n) && adj (xs.map cellOf)) := by unfold isPaint; rw [q]
    by_cases hl : xs.length ≤ h * w
    · have e2 : isTupOf d 0 ((h : Int) * w) = true := by
        unfold isTupOf; rw [q]
        simp only [Bool.and_eq_true, decide_eq_true_eq]
        exact ⟨by omega, by exact_mod_cast hl⟩
      rw [e2] at e0
      have sm : small xs.length = true := small_of (by have := Nat.mul_le_mul hh hw; omega)
      have lc1 := lc_all (own := [4]) (tm := gmName 4) (me := mFz (mCallF run_is_tuple_of (mCons (mD (mName 4)) (mCons (mD (mC (.int 2))) (mCons (mD (mC (.int 2))) (mNil)))))) (η := [some (fr d), some (fr (.int h)), some (fr (.int w)), some (fr (.int n)), none, none, none]) (fun z => .bl (two z)) xs fun z hz => by
        have r := r_is_tuple_of (same_okT (it z hz)) 2 2
        refine ⟨[some (fr d), some (fr (.int h)), some (fr (.int w)), some (fr (.int n)), some (fr z), none, none], [some (fr d), some (fr (.int h)), some (fr (.int w)), some (fr (.int n)), some (fr z), none, none], by simp -implicitDefEqProofs -dsimp only [e_seq, e_skip, e_never, e_ret, e_n, e_c, e_d, e_do, e_nil, e_cons, e_op2, e_un, e_chain, e_b, e_not, e_and, e_or, e_andV, e_orV, e_notV, e_if, e_ifS, e_call, e_callN, e_callF, e_fz, e_tup, e_tupZ, e_lst, e_set, e_asg, e_put, e_get2, e_mut, e_mtr, e_for, e_iter, e_over, e_lc, e_yes, e_pno, e_po, e_cut, e_par2, e_par3, e_catN, e_newT, e_name, e_loc, e_take, e_move, e_gname, c_d, c_loc, k_loc, cs_nil', cs_cons', fz_fro, fz_lst, fz_dT, bnd_some, bnd_none, Option.bind_some, Option.bind_none, Option.map_some, Option.map_none, List.getElem?_cons_zero, List.getElem?_cons_succ, List.length_cons, List.length_nil, if_true, List.map_cons, List.map_nil, Nat.reduceSub, List.replicate_zero, List.replicate_succ, List.append_nil, List.cons_append, List.nil_append, List.set_cons_zero, List.set_cons_succ, Nat.reduceAdd, Nat.reduceLT, Nat.reduceLeDiff, argsO_nil, argsO_d, argsO_loc, locs_nil, locs_d, locs_loc, nodup_nil', nodup_one, backE_nil, backE_d, backE_loc, wipeE_nil, wipeE_cons, calmE_nil, calmE_none, restE_nil, restE_cons, keep_0, keep_1, keep_2, keep_3, keep_4, own_lst, own_dT, own_fro, ite_true', ite_false', reduceIte, Bool.not_true, Bool.not_false, Bool.false_eq_true, Option.join_some, List.head?_cons, List.tail_cons, set_loc, Option.getD_some, Option.getD_none, and_self, and_true, true_and, List.lookup, fr, Bool.true_and, Bool.false_and, Bool.and_true, Bool.and_false, Bool.and_self, Bool.true_or, Bool.false_or, Bool.or_true, Bool.or_false, e_fld, e_fldO, e_fldSet, e_gmFld, e_gmNil, e_gmCons, e_gmTup, e_gmKtup, e_meth, e_make, e_methT, c_fld, k_fld, set_fld, eq_self, cond_true, cond_false, true_or, or_true, false_or, or_false], ?_, by simp -implicitDefEqProofs -dsimp only [e_seq, e_skip, e_never, e_ret, e_n, e_c, e_d, e_do, e_nil, e_cons, e_op2, e_un, e_chain, e_b, e_not, e_and, e_or, e_andV, e_orV, e_notV, e_if, e_ifS, e_call, e_callN, e_callF, e_fz, e_tup, e_tupZ, e_lst, e_set, e_asg, e_put, e_get2, e_mut, e_mtr, e_for, e_iter, e_over, e_lc, e_yes, e_pno, e_po, e_cut, e_par2, e_par3, e_catN, e_newT, e_name, e_loc, e_take, e_move, e_gname, c_d, c_loc, k_loc, cs_nil', cs_cons', fz_fro, fz_lst, fz_dT, bnd_some, bnd_none, Option.bind_some, Option.bind_none, Option.map_some, Option.map_none, List.getElem?_cons_zero, List.getElem?_cons_succ, List.length_cons, List.length_nil, if_true, List.map_cons, List.map_nil, Nat.reduceSub, List.replicate_zero, List.replicate_succ, List.append_nil, List.cons_append, List.nil_append, List.set_cons_zero, List.set_cons_succ, Nat.reduceAdd, Nat.reduceLT, Nat.reduceLeDiff, argsO_nil, argsO_d, argsO_loc, locs_nil, locs_d, locs_loc, nodup_nil', nodup_one, backE_nil, backE_d, backE_loc, wipeE_nil, wipeE_cons, calmE_nil, calmE_none, restE_nil, restE_cons, keep_0, keep_1, keep_2, keep_3, keep_4, own_lst, own_dT, own_fro, ite_true', ite_false', reduceIte, Bool.not_true, Bool.not_false, Bool.false_eq_true, Option.join_some, List.head?_cons, List.tail_cons, set_loc, Option.getD_some, Option.getD_none, and_self, and_true, true_and, List.lookup, fr, Bool.true_and, Bool.false_and, Bool.and_true, Bool.and_false, Bool.and_self, Bool.true_or, Bool.false_or, Bool.or_true, Bool.or_false, e_fld, e_fldO, e_fldSet, e_gmFld, e_gmNil, e_gmCons, e_gmTup, e_gmKtup, e_meth, e_make, e_methT, c_fld, k_fld, set_fld, eq_self, cond_true, cond_false, true_or, or_true, false_or, or_false]⟩
        simp -implicitDefEqProofs -dsimp only [e_seq, e_skip, e_never, e_ret, e_n, e_c, e_d, e_do, e_nil, e_cons, e_op2, e_un, e_chain, e_b, e_not, e_and, e_or, e_andV, e_orV, e_notV, e_if, e_ifS, e_call, e_callN, e_callF, e_fz, e_tup, e_tupZ, e_lst, e_set, e_asg, e_put, e_get2, e_mut, e_mtr, e_for, e_iter, e_over, e_lc, e_yes, e_pno, e_po, e_cut, e_par2, e_par3, e_catN, e_newT, e_name, e_loc, e_take, e_move, e_gname, c_d, c_loc, k_loc, cs_nil', cs_cons', fz_fro, fz_lst, fz_dT, bnd_some, bnd_none, Option.bind_some, Option.bind_none, Option.map_some, Option.map_none, List.getElem?_cons_zero, List.getElem?_cons_succ, List.length_cons, List.length_nil, if_true, List.map_cons, List.map_nil, Nat.reduceSub, List.replicate_zero, List.replicate_succ, List.append_nil, List.cons_append, List.nil_append, List.set_cons_zero, List.set_cons_succ, Nat.reduceAdd, Nat.reduceLT, Nat.reduceLeDiff, argsO_nil, argsO_d, argsO_loc, locs_nil, locs_d, locs_loc, nodup_nil', nodup_one, backE_nil, backE_d, backE_loc, wipeE_nil, wipeE_cons, calmE_nil, calmE_none, restE_nil, restE_cons, keep_0, keep_1, keep_2, keep_3, keep_4, own_lst, own_dT, own_fro, ite_true', ite_false', reduceIte, Bool.not_true, Bool.not_false, Bool.false_eq_true, Option.join_some, List.head?_cons, List.tail_cons, set_loc, Option.getD_some, Option.getD_none, and_self, and_true, true_and, List.lookup, fr, Bool.true_and, Bool.false_and, Bool.and_true, Bool.and_false, Bool.and_self, Bool.true_or, Bool.false_or, Bool.or_true, Bool.or_false, e_fld, e_fldO, e_fldSet, e_gmFld, e_gmNil, e_gmCons, e_gmTup, e_gmKtup, e_meth, e_make, e_methT, c_fld, k_fld, set_fld, eq_self, cond_true, cond_false, true_or, or_true, false_or, or_false, r, two]
      cases b1 : xs.all two with
      | false =>
        have : xs.all (pairOk h w n) = false := by
          cases c : xs.all (pairOk h w n) with
          | false => rfl
          | true =>
            have : xs.all two = true := List.all_eq_true.mpr fun z hz => ok_two (List.all_eq_true.mp c z hz)
            rw [b1] at this; cases this
        rw [e3, this]
        simp -implicitDefEqProofs -dsimp only [e_seq, e_skip, e_never, e_ret, e_n, e_c, e_d, e_do, e_nil, e_cons, e_op2, e_un, e_chain, e_b, e_not, e_and, e_or, e_andV, e_orV, e_notV, e_if, e_ifS, e_call, e_callN, e_callF, e_fz, e_tup, e_tupZ, e_lst, e_set, e_asg, e_put, e_get2, e_mut, e_mtr, e_for, e_iter, e_over, e_lc, e_yes, e_pno, e_po, e_cut, e_par2, e_par3, e_catN, e_newT, e_name, e_loc, e_take, e_move, e_gname, c_d, c_loc, k_loc, cs_nil', cs_cons', fz_fro, fz_lst, fz_dT, bnd_some, bnd_none, Option.bind_some, Option.bind_none, Option.map_some, Option.map_none, List.getElem?_cons_zero, List.getElem?_cons_succ, List.length_cons, List.length_nil, if_true, List.map_cons, List.map_nil, Nat.reduceSub, List.replicate_zero, List.replicate_succ, List.append_nil, List.cons_append, List.nil_append, List.set_cons_zero, List.set_cons_succ, Nat.reduceAdd, Nat.reduceLT, Nat.reduceLeDiff, argsO_nil, argsO_d, argsO_loc, locs_nil, locs_d, locs_loc, nodup_nil', nodup_one, backE_nil, backE_d, backE_loc, wipeE_nil, wipeE_cons, calmE_nil, calmE_none, restE_nil, restE_cons, keep_0, keep_1, keep_2, keep_3, keep_4, own_lst, own_dT, own_fro, ite_true', ite_false', reduceIte, Bool.not_true, Bool.not_false, Bool.false_eq_true, Option.join_some, List.head?_cons, List.tail_cons, set_loc, Option.getD_some, Option.getD_none, and_self, and_true, true_and, List.lookup, fr, Bool.true_and, Bool.false_and, Bool.and_true, Bool.and_false, Bool.and_self, Bool.true_or, Bool.false_or, Bool.or_true, Bool.or_false, e_fld, e_fldO, e_fldSet, e_gmFld, e_gmNil, e_gmCons, e_gmTup, e_gmKtup, e_meth, e_make, e_methT, c_fld, k_fld, set_fld, eq_self, cond_true, cond_false, true_or, or_true, false_or, or_false, hm, e0, items_of q, sm, lc1, all_bl, b1, List.mem_nil_iff]
      | true =>
        have lc2 := lc_all (own := [4]) (tm := gmName 4) (me := mAndV (mFz (mCallF run_fits_place (mCons (mD (mOp2 dIx (mLoc 4) (mD (mC (.int 0))))) (mCons (mD (mName 1)) (mCons (mD (mName 2)) (mNil)))))) (mFz (mCallF run_fits_whole (mCons (mD (mOp2 dIx (mLoc 4) (mD (mC (.int 1))))) (mCons (mD (mC (.int 1))) (mCons (mD (mOp2 dSub (mLoc 3) (mD (mC (.int 1))))) (mNil))))))) (η := [some (fr d), some (fr (.int h)), some (fr (.int w)), some (fr (.int n)), none, none, none]) (fun z => .bl (pairOk h w n z)) xs fun z hz => by
          obtain ⟨x, y, g⟩ := two_iff.mp (List.all_eq_true.mp b1 z hz)
          have iz := same_items (it z hz) g
          have r1 := r_fits_place (iz x List.mem_cons_self) h w
          have r2 := r_fits_whole (same_okT (iz y (List.mem_cons_of_mem _ List.mem_cons_self))) 1 (n - 1)
          have i0 : dIx z (.int 0) = some x := (dIx_of g).trans at_0
          have i1 : dIx z (.int 1) = some y := (dIx_of g).trans at_1
          have e : pairOk h w n z = (isPlace x h w && isWhole y 1 (n - 1)) := by unfold pairOk; rw [g]
          refine ⟨[some (fr d), some (fr (.int h)), some (fr (.int w)), some (fr (.int n)), some (fr z), none, none], [some (fr d), some (fr (.int h)), some (fr (.int w)), some (fr (.int n)), some (fr z), none, none], by simp -implicitDefEqProofs -dsimp only [e_seq, e_skip, e_never, e_ret, e_n, e_c, e_d, e_do, e_nil, e_cons, e_op2, e_un, e_chain, e_b, e_not, e_and, e_or, e_andV, e_orV, e_notV, e_if, e_ifS, e_call, e_callN, e_callF, e_fz, e_tup, e_tupZ, e_lst, e_set, e_asg, e_put, e_get2, e_mut, e_mtr, e_for, e_iter, e_over, e_lc, e_yes, e_pno, e_po, e_cut, e_par2, e_par3, e_catN, e_newT, e_name, e_loc, e_take, e_move, e_gname, c_d, c_loc, k_loc, cs_nil', cs_cons', fz_fro, fz_lst, fz_dT, bnd_some, bnd_none, Option.bind_some, Option.bind_none, Option.map_some, Option.map_none, List.getElem?_cons_zero, List.getElem?_cons_succ, List.length_cons, List.length_nil, if_true, List.map_cons, List.map_nil, Nat.reduceSub, List.replicate_zero, List.replicate_succ, List.append_nil, List.cons_append, List.nil_append, List.set_cons_zero, List.set_cons_succ, Nat.reduceAdd, Nat.reduceLT, Nat.reduceLeDiff, argsO_nil, argsO_d, argsO_loc, locs_nil, locs_d, locs_loc, nodup_nil', nodup_one, backE_nil, backE_d, backE_loc, wipeE_nil, wipeE_cons, calmE_nil, calmE_none, restE_nil, restE_cons, keep_0, keep_1, keep_2, keep_3, keep_4, own_lst, own_dT, own_fro, ite_true', ite_false', reduceIte, Bool.not_true, Bool.not_false, Bool.false_eq_true, Option.join_some, List.head?_cons, List.tail_cons, set_loc, Option.getD_some, Option.getD_none, and_self, and_true, true_and, List.lookup, fr, Bool.true_and, Bool.false_and, Bool.and_true, Bool.and_false, Bool.and_self, Bool.true_or, Bool.false_or, Bool.or_true, Bool.or_false, e_fld, e_fldO, e_fldSet, e_gmFld, e_gmNil, e_gmCons, e_gmTup, e_gmKtup, e_meth, e_make, e_methT, c_fld, k_fld, set_fld, eq_self, cond_true, cond_false, true_or, or_true, false_or, or_false], ?_, by simp -implicitDefEqProofs -dsimp only [e_seq, e_skip, e_never, e_ret, e_n, e_c, e_d, e_do, e_nil, e_cons, e_op2, e_un, e_chain, e_b, e_not, e_and, e_or, e_andV, e_orV, e_notV, e_if, e_ifS, e_call, e_callN, e_callF, e_fz, e_tup, e_tupZ, e_lst, e_set, e_asg, e_put, e_get2, e_mut, e_mtr, e_for, e_iter, e_over, e_lc, e_yes, e_pno, e_po, e_cut, e_par2, e_par3, e_catN, e_newT, e_name, e_loc, e_take, e_move, e_gname, c_d, c_loc, k_loc, cs_nil', cs_cons', fz_fro, fz_lst, fz_dT, bnd_some, bnd_none, Option.bind_some, Option.bind_none, Option.map_some, Option.map_none, List.getElem?_cons_zero, List.getElem?_cons_succ, List.length_cons, List.length_nil, if_true, List.map_cons, List.map_nil, Nat.reduceSub, List.replicate_zero, List.replicate_succ, List.append_nil, List.cons_append, List.nil_append, List.set_cons_zero, List.set_cons_succ, Nat.reduceAdd, Nat.reduceLT, Nat.reduceLeDiff, argsO_nil, argsO_d, argsO_loc, locs_nil, locs_d, locs_loc, nodup_nil', nodup_one, backE_nil, backE_d, backE_loc, wipeE_nil, wipeE_cons, calmE_nil, calmE_none, restE_nil, restE_cons, keep_0, keep_1, keep_2, keep_3, keep_4, own_lst, own_dT, own_fro, ite_true', ite_false', reduceIte, Bool.not_true, Bool.not_false, Bool.false_eq_true, Option.join_some, List.head?_cons, List.tail_cons, set_loc, Option.getD_some, Option.getD_none, and_self, and_true, true_and, List.lookup, fr, Bool.true_and, Bool.false_and, Bool.and_true, Bool.and_false, Bool.and_self, Bool.true_or, Bool.false_or, Bool.or_true, Bool.or_false, e_fld, e_fldO, e_fldSet, e_gmFld, e_gmNil, e_gmCons, e_gmTup, e_gmKtup, e_meth, e_make, e_methT, c_fld, k_fld, set_fld, eq_self, cond_true, cond_false, true_or, or_true, false_or, or_false]⟩
          rw [e]
          cases b : isPlace x h w <;> rw [b] at r1 <;> simp -implicitDefEqProofs -dsimp only [e_seq, e_skip, e_never, e_ret, e_n, e_c, e_d, e_do, e_nil, e_cons, e_op2, e_un, e_chain, e_b, e_not, e_and, e_or, e_andV, e_orV, e_notV, e_if, e_ifS, e_call, e_callN, e_callF, e_fz, e_tup, e_tupZ, e_lst, e_set, e_asg, e_put, e_get2, e_mut, e_mtr, e_for, e_iter, e_over, e_lc, e_yes, e_pno, e_po, e_cut, e_par2, e_par3, e_catN, e_newT, e_name, e_loc, e_take, e_move, e_gname, c_d, c_loc, k_loc, cs_nil', cs_cons', fz_fro, fz_lst, fz_dT, bnd_some, bnd_none, Option.bind_some, Option.bind_none, Option.map_some, Option.map_none, List.getElem?_cons_zero, List.getElem?_cons_succ, List.length_cons, List.length_nil, if_true, List.map_cons, List.map_nil, Nat.reduceSub, List.replicate_zero, List.replicate_succ, List.append_nil, List.cons_append, List.nil_append, List.set_cons_zero, List.set_cons_succ, Nat.reduceAdd, Nat.reduceLT, Nat.reduceLeDiff, argsO_nil, argsO_d, argsO_loc, locs_nil, locs_d, locs_loc, nodup_nil', nodup_one, backE_nil, backE_d, backE_loc, wipeE_nil, wipeE_cons, calmE_nil, calmE_none, restE_nil, restE_cons, keep_0, keep_1, keep_2, keep_3, keep_4, own_lst, own_dT, own_fro, ite_true', ite_false', reduceIte, Bool.not_true, Bool.not_false, Bool.false_eq_true, Option.join_some, List.head?_cons, List.tail_cons, set_loc, Option.getD_some, Option.getD_none, and_self, and_true, true_and, List.lookup, fr, Bool.true_and, Bool.false_and, Bool.and_true, Bool.and_false, Bool.and_self, Bool.true_or, Bool.false_or, Bool.or_true, Bool.or_false, e_fld, e_fldO, e_fldSet, e_gmFld, e_gmNil, e_gmCons, e_gmTup, e_gmKtup, e_meth, e_make, e_methT, c_fld, k_fld, set_fld, eq_self, cond_true, cond_false, true_or, or_true, false_or, or_false, i0, i1, r1, r2, dSub_i]
        cases b2 : xs.all (pairOk h w n) with
        | false =>
          rw [e3, b2]
          simp -implicitDefEqProofs -dsimp only [e_seq, e_skip, e_never, e_ret, e_n, e_c, e_d, e_do, e_nil, e_cons, e_op2, e_un, e_chain, e_b, e_not, e_and, e_or, e_andV, e_orV, e_notV, e_if, e_ifS, e_call, e_callN, e_callF, e_fz, e_tup, e_tupZ, e_lst, e_set, e_asg, e_put, e_get2, e_mut, e_mtr, e_for, e_iter, e_over, e_lc, e_yes, e_pno, e_po, e_cut, e_par2, e_par3, e_catN, e_newT, e_name, e_loc, e_take, e_move, e_gname, c_d, c_loc, k_loc, cs_nil', cs_cons', fz_fro, fz_lst, fz_dT, bnd_some, bnd_none, Option.bind_some, Option.bind_none, Option.map_some, Option.map_none, List.getElem?_cons_zero, List.getElem?_cons_succ, List.length_cons, List.length_nil, if_true, List.map_cons, List.map_nil, Nat.reduceSub, List.replicate_zero, List.replicate_succ, List.append_nil, List.cons_append, List.nil_append, List.set_cons_zero, List.set_cons_succ, Nat.reduceAdd, Nat.reduceLT, Nat.reduceLeDiff, argsO_nil, argsO_d, argsO_loc, locs_nil, locs_d, locs_loc, nodup_nil', nodup_one, backE_nil, backE_d, backE_loc, wipeE_nil, wipeE_cons, calmE_nil, calmE_none, restE_nil, restE_cons, keep_0, keep_1, keep_2, keep_3, keep_4, own_lst, own_dT, own_fro, ite_true', ite_false', reduceIte, Bool.not_true, Bool.not_false, Bool.false_eq_true, Option.join_some, List.head?_cons, List.tail_cons, set_loc, Option.getD_some, Option.getD_none, and_self, and_true, true_and, List.lookup, fr, Bool.true_and, Bool.false_and, Bool.and_true, Bool.and_false, Bool.and_self, Bool.true_or, Bool.false_or, Bool.or_true, Bool.or_false, e_fld, e_fldO, e_fldSet, e_gmFld, e_gmNil, e_gmCons, e_gmTup, e_gmKtup, e_meth, e_make, e_methT, c_fld, k_fld, set_fld, eq_self, cond_true, cond_false, true_or, or_true, false_or, or_false, hm, e0, items_of q, sm, lc1, all_bl, b1, lc2, b2, List.mem_nil_iff]
        | true =>
          rw [e3, b2]
          obtain ⟨e, c1, c2⟩ := cut1 q
          have zz := zip_of q c2
          have sz : small (VL.zips xs (xs.drop 1)).length = true := small_of (by
            unfold VL.zips; rw [List.length_map, List.length_zip]
            have := Nat.mul_le_mul hh hw
            omega)
          have lc3 := lc_all (own := [5, 6]) (tm := gmTup 2 (gmCons (gmName 5) (gmCons (gmName 6) (gmNil)))) (me := mOp2 dLt (mD (mOp2 dIx (mLoc 5) (mD (mC (.int 0))))) (mD (mOp2 dIx (mLoc 6) (mD (mC (.int 0)))))) (η := [some (fr d), some (fr (.int h)), some (fr (.int w)), some (fr (.int n)), none, none, none]) (fun z => match z with
            | .tup [x, y] => .bl (ltP (cellOf x) (cellOf y))
            | z => z) (VL.zips xs (xs.drop 1)) fun z hz => by
            unfold VL.zips at hz
            obtain ⟨⟨x, y⟩, hp, rfl⟩ := List.mem_map.mp hz
            have hx := (List.of_mem_zip hp).1
            have hy := List.mem_of_mem_drop (List.of_mem_zip hp).2
            obtain ⟨p1, k1, q1, q2, q3, q4⟩ := pair_ok (List.all_eq_true.mp b2 x hx)
            obtain ⟨p2, k2, u1, u2, u3, u4⟩ := pair_ok (List.all_eq_true.mp b2 y hy)
            obtain ⟨a, b, g1, g2, _⟩ := place_ints q2
            obtain ⟨a', b', g1', g2', _⟩ := place_ints u2
            have i0 : dIx x (.int 0) = some p1 := (dIx_of q1).trans at_0
            have i1 : dIx y (.int 0) = some p2 := (dIx_of u1).trans at_0
            have l := dLt_place g1 g1'
            refine ⟨[some (fr d), some (fr (.int h)), some (fr (.int w)), some (fr (.int n)), none, some (fr x), some (fr y)], [some (fr d), some (fr (.int h)), some (fr (.int w)), some (fr (.int n)), none, some (fr x), some (fr y)], by simp -implicitDefEqProofs -dsimp only [e_seq, e_skip, e_never, e_ret, e_n, e_c, e_d, e_do, e_nil, e_cons, e_op2, e_un, e_chain, e_b, e_not, e_and, e_or, e_andV, e_orV, e_notV, e_if, e_ifS, e_call, e_callN, e_callF, e_fz, e_tup, e_tupZ, e_lst, e_set, e_asg, e_put, e_get2, e_mut, e_mtr, e_for, e_iter, e_over, e_lc, e_yes, e_pno, e_po, e_cut, e_par2, e_par3, e_catN, e_newT, e_name, e_loc, e_take, e_move, e_gname, c_d, c_loc, k_loc, cs_nil', cs_cons', fz_fro, fz_lst, fz_dT, bnd_some, bnd_none, Option.bind_some, Option.bind_none, Option.map_some, Option.map_none, List.getElem?_cons_zero, List.getElem?_cons_succ, List.length_cons, List.length_nil, if_true, List.map_cons, List.map_nil, Nat.reduceSub, List.replicate_zero, List.replicate_succ, List.append_nil, List.cons_append, List.nil_append, List.set_cons_zero, List.set_cons_succ, Nat.reduceAdd, Nat.reduceLT, Nat.reduceLeDiff, argsO_nil, argsO_d, argsO_loc, locs_nil, locs_d, locs_loc, nodup_nil', nodup_one, backE_nil, backE_d, backE_loc, wipeE_nil, wipeE_cons, calmE_nil, calmE_none, restE_nil, restE_cons, keep_0, keep_1, keep_2, keep_3, keep_4, own_lst, own_dT, own_fro, ite_true', ite_false', reduceIte, Bool.not_true, Bool.not_false, Bool.false_eq_true, Option.join_some, List.head?_cons, List.tail_cons, set_loc, Option.getD_some, Option.getD_none, and_self, and_true, true_and, List.lookup, fr, Bool.true_and, Bool.false_and, Bool.and_true, Bool.and_false, Bool.and_self, Bool.true_or, Bool.false_or, Bool.or_true, Bool.or_false, e_fld, e_fldO, e_fldSet, e_gmFld, e_gmNil, e_gmCons, e_gmTup, e_gmKtup, e_meth, e_make, e_methT, c_fld, k_fld, set_fld, eq_self, cond_true, cond_false, true_or, or_true, false_or, or_false], ?_, by simp -implicitDefEqProofs -dsimp only [e_seq, e_skip, e_never, e_ret, e_n, e_c, e_d, e_do, e_nil, e_cons, e_op2, e_un, e_chain, e_b, e_not, e_and, e_or, e_andV, e_orV, e_notV, e_if, e_ifS, e_call, e_callN, e_callF, e_fz, e_tup, e_tupZ, e_lst, e_set, e_asg, e_put, e_get2, e_mut, e_mtr, e_for, e_iter, e_over, e_lc, e_yes, e_pno, e_po, e_cut, e_par2, e_par3, e_catN, e_newT, e_name, e_loc, e_take, e_move, e_gname, c_d, c_loc, k_loc, cs_nil', cs_cons', fz_fro, fz_lst, fz_dT, bnd_some, bnd_none, Option.bind_some, Option.bind_none, Option.map_some, Option.map_none, List.getElem?_cons_zero, List.getElem?_cons_succ, List.length_cons, List.length_nil, if_true, List.map_cons, List.map_nil, Nat.reduceSub, List.replicate_zero, List.replicate_succ, List.append_nil, List.cons_append, List.nil_append, List.set_cons_zero, List.set_cons_succ, Nat.reduceAdd, Nat.reduceLT, Nat.reduceLeDiff, argsO_nil, argsO_d, argsO_loc, locs_nil, locs_d, locs_loc, nodup_nil', nodup_one, backE_nil, backE_d, backE_loc, wipeE_nil, wipeE_cons, calmE_nil, calmE_none, restE_nil, restE_cons, keep_0, keep_1, keep_2, keep_3, keep_4, own_lst, own_dT, own_fro, ite_true', ite_false', reduceIte, Bool.not_true, Bool.not_false, Bool.false_eq_true, Option.join_some, List.head?_cons, List.tail_cons, set_loc, Option.getD_some, Option.getD_none, and_self, and_true, true_and, List.lookup, fr, Bool.true_and, Bool.false_and, Bool.and_true, Bool.and_false, Bool.and_self, Bool.true_or, Bool.false_or, Bool.or_true, Bool.or_false, e_fld, e_fldO, e_fldSet, e_gmFld, e_gmNil, e_gmCons, e_gmTup, e_gmKtup, e_meth, e_make, e_methT, c_fld, k_fld, set_fld, eq_self, cond_true, cond_false, true_or, or_true, false_or, or_false]⟩
            show _ = some (D.bl (ltP (cellOf x) (cellOf y)), _)
            rw [q4, u4, g2, g2']
            simp -implicitDefEqProofs -dsimp only [e_seq, e_skip, e_never, e_ret, e_n, e_c, e_d, e_do, e_nil, e_cons, e_op2, e_un, e_chain, e_b, e_not, e_and, e_or, e_andV, e_orV, e_notV, e_if, e_ifS, e_call, e_callN, e_callF, e_fz, e_tup, e_tupZ, e_lst, e_set, e_asg, e_put, e_get2, e_mut, e_mtr, e_for, e_iter, e_over, e_lc, e_yes, e_pno, e_po, e_cut, e_par2, e_par3, e_catN, e_newT, e_name, e_loc, e_take, e_move, e_gname, c_d, c_loc, k_loc, cs_nil', cs_cons', fz_fro, fz_lst, fz_dT, bnd_some, bnd_none, Option.bind_some, Option.bind_none, Option.map_some, Option.map_none, List.getElem?_cons_zero, List.getElem?_cons_succ, List.length_cons, List.length_nil, if_true, List.map_cons, List.map_nil, Nat.reduceSub, List.replicate_zero, List.replicate_succ, List.append_nil, List.cons_append, List.nil_append, List.set_cons_zero, List.set_cons_succ, Nat.reduceAdd, Nat.reduceLT, Nat.reduceLeDiff, argsO_nil, argsO_d, argsO_loc, locs_nil, locs_d, locs_loc, nodup_nil', nodup_one, backE_nil, backE_d, backE_loc, wipeE_nil, wipeE_cons, calmE_nil, calmE_none, restE_nil, restE_cons, keep_0, keep_1, keep_2, keep_3, keep_4, own_lst, own_dT, own_fro, ite_true', ite_false', reduceIte, Bool.not_true, Bool.not_false, Bool.false_eq_true, Option.join_some, List.head?_cons, List.tail_cons, set_loc, Option.getD_some, Option.getD_none, and_self, and_true, true_and, List.lookup, fr, Bool.true_and, Bool.false_and, Bool.and_true, Bool.and_false, Bool.and_self, Bool.true_or, Bool.false_or, Bool.or_true, Bool.or_false, e_fld, e_fldO, e_fldSet, e_gmFld, e_gmNil, e_gmCons, e_gmTup, e_gmKtup, e_meth, e_make, e_methT, c_fld, k_fld, set_fld, eq_self, cond_true, cond_false, true_or, or_true, false_or, or_false, i0, i1, l]
          have em : (VL.zips xs (xs.drop 1)).map (fun z => match z with
            | .tup [x, y] => D.bl (ltP (cellOf x) (cellOf y))
            | z => z) = (xs.zip (xs.drop 1)).map fun p => D.bl (ltP (cellOf p.1) (cellOf p.2)) := by
            unfold VL.zips
            rw [List.map_map]; rfl
          rw [em] at lc3
          have ea : fAll [.lst ((xs.zip (xs.drop 1)).map fun p => D.bl (ltP (cellOf p.1) (cellOf p.2)))] = some (.bl (adj (xs.map cellOf))) := by
            rw [all_bl (p := fun p : D × D => ltP (cellOf p.1) (cellOf p.2)), ← adj_zip]
          simp -implicitDefEqProofs -dsimp only [e_seq, e_skip, e_never, e_ret, e_n, e_c, e_d, e_do, e_nil, e_cons, e_op2, e_un, e_chain, e_b, e_not, e_and, e_or, e_andV, e_orV, e_notV, e_if, e_ifS, e_call, e_callN, e_callF, e_fz, e_tup, e_tupZ, e_lst, e_set, e_asg, e_put, e_get2, e_mut, e_mtr, e_for, e_iter, e_over, e_lc, e_yes, e_pno, e_po, e_cut, e_par2, e_par3, e_catN, e_newT, e_name, e_loc, e_take, e_move, e_gname, c_d, c_loc, k_loc, cs_nil', cs_cons', fz_fro, fz_lst, fz_dT, bnd_some, bnd_none, Option.bind_some, Option.bind_none, Option.map_some, Option.map_none, List.getElem?_cons_zero, List.getElem?_cons_succ, List.length_cons, List.length_nil, if_true, List.map_cons, List.map_nil, Nat.reduceSub, List.replicate_zero, List.replicate_succ, List.append_nil, List.cons_append, List.nil_append, List.set_cons_zero, List.set_cons_succ, Nat.reduceAdd, Nat.reduceLT, Nat.reduceLeDiff, argsO_nil, argsO_d, argsO_loc, locs_nil, locs_d, locs_loc, nodup_nil', nodup_one, backE_nil, backE_d, backE_loc, wipeE_nil, wipeE_cons, calmE_nil, calmE_none, restE_nil, restE_cons, keep_0, keep_1, keep_2, keep_3, keep_4, own_lst, own_dT, own_fro, ite_true', ite_false', reduceIte, Bool.not_true, Bool.not_false, Bool.false_eq_true, Option.join_some, List.head?_cons, List.tail_cons, set_loc, Option.getD_some, Option.getD_none, and_self, and_true, true_and, List.lookup, fr, Bool.true_and, Bool.false_and, Bool.and_true, Bool.and_false, Bool.and_self, Bool.true_or, Bool.false_or, Bool.or_true, Bool.or_false, e_fld, e_fldO, e_fldSet, e_gmFld, e_gmNil, e_gmCons, e_gmTup, e_gmKtup, e_meth, e_make, e_methT, c_fld, k_fld, set_fld, eq_self, cond_true, cond_false, true_or, or_true, false_or, or_false, hm, e0, items_of q, sm, lc1, all_bl, b1, lc2, b2, c1, zz, sz, lc3, ea, List.mem_nil_iff]
    · have e2 : isTupOf d 0 ((h : Int) * w) = false := by
        unfold isTupOf; rw [q]
        simp only
        rw [Bool.and_eq_false_iff, decide_eq_false_iff_not, decide_eq_false_iff_not]
        right
        intro g
        exact hl (by exact_mod_cast g)
      have e4 : (xs.all (pairOk h w n) && adj (xs.map cellOf)) = false := by
        cases c : (xs.all (pairOk h w n) && adj (xs.map cellOf)) with
        | false => rfl
        | true =>
          rw [Bool.and_eq_true] at c
          exact absurd (paint_len c.1 c.2) hl
      rw [e2] at e0
      rw [e3, e4]
      simp -implicitDefEqProofs -dsimp only [e_seq, e_skip, e_never, e_ret, e_n, e_c, e_d, e_do, e_nil, e_cons, e_op2, e_un, e_chain, e_b, e_not, e_and, e_or, e_andV, e_orV, e_notV, e_if, e_ifS, e_call, e_callN, e_callF, e_fz, e_tup, e_tupZ, e_lst, e_set, e_asg, e_put, e_get2, e_mut, e_mtr, e_for, e_iter, e_over, e_lc, e_yes, e_pno, e_po, e_cut, e_par2, e_par3, e_catN, e_newT, e_name, e_loc, e_take, e_move, e_gname, c_d, c_loc, k_loc, cs_nil', cs_cons', fz_fro, fz_lst, fz_dT, bnd_some, bnd_none, Option.bind_some, Option.bind_none, Option.map_some, Option.map_none, List.getElem?_cons_zero, List.getElem?_cons_succ, List.length_cons, List.length_nil, if_true, List.map_cons, List.map_nil, Nat.reduceSub, List.replicate_zero, List.replicate_succ, List.append_nil, List.cons_append, List.nil_append, List.set_cons_zero, List.set_cons_succ, Nat.reduceAdd, Nat.reduceLT, Nat.reduceLeDiff, argsO_nil, argsO_d, argsO_loc, locs_nil, locs_d, locs_loc, nodup_nil', nodup_one, backE_nil, backE_d, backE_loc, wipeE_nil, wipeE_cons, calmE_nil, calmE_none, restE_nil, restE_cons, keep_0, keep_1, keep_2, keep_3, keep_4, own_lst, own_dT, own_fro, ite_true', ite_false', reduceIte, Bool.not_true, Bool.not_false, Bool.false_eq_true, Option.join_some, List.head?_cons, List.tail_cons, set_loc, Option.getD_some, Option.getD_none, and_self, and_true, true_and, List.lookup, fr, Bool.true_and, Bool.false_and, Bool.and_true, Bool.and_false, Bool.and_self, Bool.true_or, Bool.false_or, Bool.or_true, Bool.or_false, e_fld, e_fldO, e_fldSet, e_gmFld, e_gmNil, e_gmCons, e_gmTup, e_gmKtup, e_meth, e_make, e_methT, c_fld, k_fld, set_fld, eq_self, cond_true, cond_false, true_or, or_true, false_or, or_false, hm, e0, List.mem_nil_iff]
end K87
end
section
set_option Elab.async false
set_option linter.all false
set_option maxRecDepth 100000
set_option maxHeartbeats 1000000
set_option autoImplicit false
namespace K87
open PySem PySem.Spec PyProof.Rows L2 VL
def lenS : D → Int
  | .str s => s.cps.size
  | _ => 0
def intOf : D → Int
  | .int i => i
  | _ => 0
def isAnt (d : D) : Bool := match VL.tupItems d with
  | some [R, H, W, c, e, P] => isRule R && (isWhole H 1 20 && (isWhole W 1 20 && (isPlace c (intOf H) (intOf W) && (isWhole e 0 3 && isPaint P (intOf H) (intOf W) (lenS R)))))
  | _ => false
theorem six {xs : List D} (h : xs.length = 6) : ∃ a b c d e f, xs = [a, b, c, d, e, f] := by
  match xs, h with
  | [a, b, c, d, e, f], _ => exact ⟨a, b, c, d, e, f, rfl⟩
theorem ant_not_six {d : D} {xs : List D} (q : VL.tupItems d = some xs) (h : xs.length ≠ 6) : isAnt d = false := by
  unfold isAnt; rw [q]
  split
  · rename_i e; cases e; exact absurd rfl h
  · rfl
theorem rule_str {d : D} (h : isRule d = true) : ∃ s, d = .str s ∧ 2 ≤ s.cps.size ∧ s.cps.size ≤ 6 := by
  cases d <;> try (cases h; done)
  rename_i s
  have e1 : isRule (.str s) = (decide (2 ≤ s.cps.size) && (decide (s.cps.size ≤ 6) && s.cps.toList.all isLr)) := rfl
  rw [e1, Bool.and_eq_true, Bool.and_eq_true, decide_eq_true_eq, decide_eq_true_eq] at h
  exact ⟨s, rfl, h.1, h.2.1⟩
theorem whole_int {d : D} {lo hi : Int} (h : isWhole d lo hi = true) : ∃ i, d = .int i ∧ lo ≤ i ∧ i ≤ hi := by
  cases d <;> try (cases h; done)
  rename_i i
  simp only [isWhole, Bool.and_eq_true, decide_eq_true_eq] at h
  exact ⟨i, rfl, h.1, h.2⟩
theorem r_fits_ant {k : Nat} {d : D} (s : SameOk (k + 5) d) : run_fits_ant [fr d] = some (fr (.bl (isAnt d)), [none]) := by
  have e0 := r_is_tuple_of (same_okT s) 6 6
  unfold run_fits_ant fnRun m_fits_ant
  cases q : VL.tupItems d with
  | none =>
    have e2 : isTupOf d 6 6 = false := by unfold isTupOf; rw [q]
    have e3 : isAnt d = false := by unfold isAnt; rw [q]
    rw [e2] at e0
    rw [e3]
    simp -implicitDefEqProofs -dsimp only [e_seq, e_skip, e_never, e_ret, e_n, e_c, e_d, e_do, e_nil, e_cons, e_op2, e_un, e_chain, e_b, e_not, e_and, e_or, e_andV, e_orV, e_notV, e_if, e_ifS, e_call, e_callN, e_callF, e_fz, e_tup, e_tupZ, e_lst, e_set, e_asg, e_put, e_get2, e_mut, e_mtr, e_for, e_iter, e_over, e_lc, e_yes, e_pno, e_po, e_cut, e_par2, e_par3, e_catN, e_newT, e_name, e_loc, e_take, e_move, e_gname, c_d, c_loc, k_loc, cs_nil', cs_cons', fz_fro, fz_lst, fz_dT, bnd_some, bnd_none, Option.bind_some, Option.bind_none, Option.map_some, Option.map_none, List.getElem?_cons_zero, List.getElem?_cons_succ, List.length_cons, List.length_nil, if_true, List.map_cons, List.map_nil, Nat.reduceSub, List.replicate_zero, List.replicate_succ, List.append_nil, List.cons_append, List.nil_append, List.set_cons_zero, List.set_cons_succ, Nat.reduceAdd, Nat.reduceLT, Nat.reduceLeDiff, argsO_nil, argsO_d, argsO_loc, locs_nil, locs_d, locs_loc, nodup_nil', nodup_one, backE_nil, backE_d, backE_loc, wipeE_nil, wipeE_cons, calmE_nil, calmE_none, restE_nil, restE_cons, keep_0, keep_1, keep_2, keep_3, keep_4, own_lst, own_dT, own_fro, ite_true', ite_false', reduceIte, Bool.not_true, Bool.not_false, Bool.false_eq_true, Option.join_some, List.head?_cons, List.tail_cons, set_loc, Option.getD_some, Option.getD_none, and_self, and_true, true_and, List.lookup, fr, Bool.true_and, Bool.false_and, Bool.and_true, Bool.and_false, Bool.and_self, Bool.true_or, Bool.false_or, Bool.or_true, Bool.or_false, e_fld, e_fldO, e_fldSet, e_gmFld, e_gmNil, e_gmCons, e_gmTup, e_gmKtup, e_meth, e_make, e_methT, c_fld, k_fld, set_fld, eq_self, cond_true, cond_false, true_or, or_true, false_or, or_false, e0, List.mem_nil_iff]
  | some xs =>
    have e2 : isTupOf d 6 6 = (decide ((6 : Int) ≤ xs.length) && decide ((xs.length : Int) ≤ 6)) := by unfold isTupOf; rw [q]
    by_cases l : xs.length = 6
    · obtain ⟨R, H, W, c, e, P, rfl⟩ := six l
      have it := same_items s q
      have e3 : isAnt d = (isRule R && (isWhole H 1 20 && (isWhole W 1 20 && (isPlace c (intOf H) (intOf W) && (isWhole e 0 3 && isPaint P (intOf H) (intOf W) (lenS R)))))) := by unfold isAnt; rw [q]
      have e4 : isTupOf d 6 6 = true := by rw [e2]; rfl
      rw [e4] at e0
      rw [e3]
      have i0 : dIx d (.int 0) = some R := (dIx_of q).trans at_0
      have i1 : dIx d (.int 1) = some H := (dIx_of q).trans at_1
      have i2 : dIx d (.int 2) = some W := (dIx_of q).trans at_2
      have i3 : dIx d (.int 3) = some c := (dIx_of q).trans at_3
      have i4 : dIx d (.int 4) = some e := (dIx_of q).trans at_4
      have i5 : dIx d (.int 5) = some P := (dIx_of q).trans at_5
      have rR := r_fits_rule (it R (by simp))
      have rH := r_fits_whole (same_okT (it H (by simp))) 1 20
      have rW := r_fits_whole (same_okT (it W (by simp))) 1 20
      have re := r_fits_whole (same_okT (it e (by simp))) 0 3
      cases b0 : isRule R with
      | false => rw [b0] at rR; simp -implicitDefEqProofs -dsimp only [e_seq, e_skip, e_never, e_ret, e_n, e_c, e_d, e_do, e_nil, e_cons, e_op2, e_un, e_chain, e_b, e_not, e_and, e_or, e_andV, e_orV, e_notV, e_if, e_ifS, e_call, e_callN, e_callF, e_fz, e_tup, e_tupZ, e_lst, e_set, e_asg, e_put, e_get2, e_mut, e_mtr, e_for, e_iter, e_over, e_lc, e_yes, e_pno, e_po, e_cut, e_par2, e_par3, e_catN, e_newT, e_name, e_loc, e_take, e_move, e_gname, c_d, c_loc, k_loc, cs_nil', cs_cons', fz_fro, fz_lst, fz_dT, bnd_some, bnd_none, Option.bind_some, Option.bind_none, Option.map_some, Option.map_none, List.getElem?_cons_zero, List.getElem?_cons_succ, List.length_cons, List.length_nil, if_true, List.map_cons, List.map_nil, Nat.reduceSub, List.replicate_zero, List.replicate_succ, List.append_nil, List.cons_append, List.nil_append, List.set_cons_zero, List.set_cons_succ, Nat.reduceAdd, Nat.reduceLT, Nat.reduceLeDiff, argsO_nil, argsO_d, argsO_loc, locs_nil, locs_d, locs_loc, nodup_nil', nodup_one, backE_nil, backE_d, backE_loc, wipeE_nil, wipeE_cons, calmE_nil, calmE_none, restE_nil, restE_cons, keep_0, keep_1, keep_2, keep_3, keep_4, own_lst, own_dT, own_fro, ite_true', ite_false', reduceIte, Bool.not_true, Bool.not_false, Bool.false_eq_true, Option.join_some, List.head?_cons, List.tail_cons, set_loc, Option.getD_some, Option.getD_none, and_self, and_true, true_and, List.lookup, fr, Bool.true_and, Bool.false_and, Bool.and_true, Bool.and_false, Bool.and_self, Bool.true_or, Bool.false_or, Bool.or_true, Bool.or_false, e_fld, e_fldO, e_fldSet, e_gmFld, e_gmNil, e_gmCons, e_gmTup, e_gmKtup, e_meth, e_make, e_methT, c_fld, k_fld, set_fld, eq_self, cond_true, cond_false, true_or, or_true, false_or, or_false, e0, i0, rR, List.mem_nil_iff]
      | true =>
        rw [b0] at rR
        obtain ⟨z, rfl, z0, z1⟩ := rule_str b0
        have rl : fLen [.str z] = some (.int z.cps.size) := len_s (by show z.cps.size ≤ _; omega)
        cases b1 : isWhole H 1 20 with
        | false => rw [b1] at rH; simp -implicitDefEqProofs -dsimp only [e_seq, e_skip, e_never, e_ret, e_n, e_c, e_d, e_do, e_nil, e_cons, e_op2, e_un, e_chain, e_b, e_not, e_and, e_or, e_andV, e_orV, e_notV, e_if, e_ifS, e_call, e_callN, e_callF, e_fz, e_tup, e_tupZ, e_lst, e_set, e_asg, e_put, e_get2, e_mut, e_mtr, e_for, e_iter, e_over, e_lc, e_yes, e_pno, e_po, e_cut, e_par2, e_par3, e_catN, e_newT, e_name, e_loc, e_take, e_move, e_gname, c_d, c_loc, k_loc, cs_nil', cs_cons', fz_fro, fz_lst, fz_dT, bnd_some, bnd_none, Option.bind_some, Option.bind_none, Option.map_some, Option.map_none, List.getElem?_cons_zero, List.getElem?_cons_succ, List.length_cons, List.length_nil, if_true, List.map_cons, List.map_nil, Nat.reduceSub, List.replicate_zero, List.replicate_succ, List.append_nil, List.cons_append, List.nil_append, List.set_cons_zero, List.set_cons_succ, Nat.reduceAdd, Nat.reduceLT, Nat.reduceLeDiff, argsO_nil, argsO_d, argsO_loc, locs_nil, locs_d, locs_loc, nodup_nil', nodup_one, backE_nil, backE_d, backE_loc, wipeE_nil, wipeE_cons, calmE_nil, calmE_none, restE_nil, restE_cons, keep_0, keep_1, keep_2, keep_3, keep_4, own_lst, own_dT, own_fro, ite_true', ite_false', reduceIte, Bool.not_true, Bool.not_false, Bool.false_eq_true, Option.join_some, List.head?_cons, List.tail_cons, set_loc, Option.getD_some, Option.getD_none, and_self, and_true, true_and, List.lookup, fr, Bool.true_and, Bool.false_and, Bool.and_true, Bool.and_false, Bool.and_self, Bool.true_or, Bool.false_or, Bool.or_true, Bool.or_false, e_fld, e_fldO, e_fldSet, e_gmFld, e_gmNil, e_gmCons, e_gmTup, e_gmKtup, e_meth, e_make, e_methT, c_fld, k_fld, set_fld, eq_self, cond_true, cond_false, true_or, or_true, false_or, or_false, e0, i0, i1, rR, rH, List.mem_nil_iff]
        | true =>
          rw [b1] at rH
          obtain ⟨h, rfl, h0, h1⟩ := whole_int b1
          obtain ⟨h, rfl⟩ := Int.eq_ofNat_of_zero_le (show 0 ≤ h by omega)
          cases b2 : isWhole W 1 20 with
          | false => rw [b2] at rW; simp -implicitDefEqProofs -dsimp only [e_seq, e_skip, e_never, e_ret, e_n, e_c, e_d, e_do, e_nil, e_cons, e_op2, e_un, e_chain, e_b, e_not, e_and, e_or, e_andV, e_orV, e_notV, e_if, e_ifS, e_call, e_callN, e_callF, e_fz, e_tup, e_tupZ, e_lst, e_set, e_asg, e_put, e_get2, e_mut, e_mtr, e_for, e_iter, e_over, e_lc, e_yes, e_pno, e_po, e_cut, e_par2, e_par3, e_catN, e_newT, e_name, e_loc, e_take, e_move, e_gname, c_d, c_loc, k_loc, cs_nil', cs_cons', fz_fro, fz_lst, fz_dT, bnd_some, bnd_none, Option.bind_some, Option.bind_none, Option.map_some, Option.map_none, List.getElem?_cons_zero, List.getElem?_cons_succ, List.length_cons, List.length_nil, if_true, List.map_cons, List.map_nil, Nat.reduceSub, List.replicate_zero, List.replicate_succ, List.append_nil, List.cons_append, List.nil_append, List.set_cons_zero, List.set_cons_succ, Nat.reduceAdd, Nat.reduceLT, Nat.reduceLeDiff, argsO_nil, argsO_d, argsO_loc, locs_nil, locs_d, locs_loc, nodup_nil', nodup_one, backE_nil, backE_d, backE_loc, wipeE_nil, wipeE_cons, calmE_nil, calmE_none, restE_nil, restE_cons, keep_0, keep_1, keep_2, keep_3, keep_4, own_lst, own_dT, own_fro, ite_true', ite_false', reduceIte, Bool.not_true, Bool.not_false, Bool.false_eq_true, Option.join_some, List.head?_cons, List.tail_cons, set_loc, Option.getD_some, Option.getD_none, and_self, and_true, true_and, List.lookup, fr, Bool.true_and, Bool.false_and, Bool.and_true, Bool.and_false, Bool.and_self, Bool.true_or, Bool.false_or, Bool.or_true, Bool.or_false, e_fld, e_fldO, e_fldSet, e_gmFld, e_gmNil, e_gmCons, e_gmTup, e_gmKtup, e_meth, e_make, e_methT, c_fld, k_fld, set_fld, eq_self, cond_true, cond_false, true_or, or_true, false_or, or_false, e0, i0, i1, i2, rR, rH, rW, List.mem_nil_iff]
          | true =>
            rw [b2] at rW
            obtain ⟨w, rfl, w0, w1⟩ := whole_int b2
            obtain ⟨w, rfl⟩ := Int.eq_ofNat_of_zero_le (show 0 ≤ w by omega)
            have rc := r_fits_place (it c (by simp)) h w
            simp only [intOf, lenS]
            cases b3 : isPlace c h w with
            | false => rw [b3] at rc; simp -implicitDefEqProofs -dsimp only [e_seq, e_skip, e_never, e_ret, e_n, e_c, e_d, e_do, e_nil, e_cons, e_op2, e_un, e_chain, e_b, e_not, e_and, e_or, e_andV, e_orV, e_notV, e_if, e_ifS, e_call, e_callN, e_callF, e_fz, e_tup, e_tupZ, e_lst, e_set, e_asg, e_put, e_get2, e_mut, e_mtr, e_for, e_iter, e_over, e_lc, e_yes, e_pno, e_po, e_cut, e_par2, e_par3, e_catN, e_newT, e_name, e_loc, e_take, e_move, e_gname, c_d, c_loc, k_loc, cs_nil', cs_cons', fz_fro, fz_lst, fz_dT, bnd_some, bnd_none, Option.bind_some, Option.bind_none, Option.map_some, Option.map_none, List.getElem?_cons_zero, List.getElem?_cons_succ, List.length_cons, List.length_nil, if_true, List.map_cons, List.map_nil, Nat.reduceSub, List.replicate_zero, List.replicate_succ, List.append_nil, List.cons_append, List.nil_append, List.set_cons_zero, List.set_cons_succ, Nat.reduceAdd, Nat.reduceLT, Nat.reduceLeDiff, argsO_nil, argsO_d, argsO_loc, locs_nil, locs_d, locs_loc, nodup_nil', nodup_one, backE_nil, backE_d, backE_loc, wipeE_nil, wipeE_cons, calmE_nil, calmE_none, restE_nil, restE_cons, keep_0, keep_1, keep_2, keep_3, keep_4, own_lst, own_dT, own_fro, ite_true', ite_false', reduceIte, Bool.not_true, Bool.not_false, Bool.false_eq_true, Option.join_some, List.head?_cons, List.tail_cons, set_loc, Option.getD_some, Option.getD_none, and_self, and_true, true_and, List.lookup, fr, Bool.true_and, Bool.false_and, Bool.and_true, Bool.and_false, Bool.and_self, Bool.true_or, Bool.false_or, Bool.or_true, Bool.or_false, e_fld, e_fldO, e_fldSet, e_gmFld, e_gmNil, e_gmCons, e_gmTup, e_gmKtup, e_meth, e_make, e_methT, c_fld, k_fld, set_fld, eq_self, cond_true, cond_false, true_or, or_true, false_or, or_false, e0, i0, i1, i2, i3, rR, rH, rW, rc, List.mem_nil_iff]
            | true =>
              rw [b3] at rc
              cases b4 : isWhole e 0 3 with
              | false => rw [b4] at re; simp -implicitDefEqProofs -dsimp only [e_seq, e_skip, e_never, e_ret, e_n, e_c, e_d, e_do, e_nil, e_cons, e_op2, e_un, e_chain, e_b, e_not, e_and, e_or, e_andV, e_orV, e_notV, e_if, e_ifS, e_call, e_callN, e_callF, e_fz, e_tup, e_tupZ, e_lst, e_set, e_asg, e_put, e_get2, e_mut, e_mtr, e_for, e_iter, e_over, e_lc, e_yes, e_pno, e_po, e_cut, e_par2, e_par3, e_catN, e_newT, e_name, e_loc, e_take, e_move, e_gname, c_d, c_loc, k_loc, cs_nil', cs_cons', fz_fro, fz_lst, fz_dT, bnd_some, bnd_none, Option.bind_some, Option.bind_none, Option.map_some, Option.map_none, List.getElem?_cons_zero, List.getElem?_cons_succ, List.length_cons, List.length_nil, if_true, List.map_cons, List.map_nil, Nat.reduceSub, List.replicate_zero, List.replicate_succ, List.append_nil, List.cons_append, List.nil_append, List.set_cons_zero, List.set_cons_succ, Nat.reduceAdd, Nat.reduceLT, Nat.reduceLeDiff, argsO_nil, argsO_d, argsO_loc, locs_nil, locs_d, locs_loc, nodup_nil', nodup_one, backE_nil, backE_d, backE_loc, wipeE_nil, wipeE_cons, calmE_nil, calmE_none, restE_nil, restE_cons, keep_0, keep_1, keep_2, keep_3, keep_4, own_lst, own_dT, own_fro, ite_true', ite_false', reduceIte, Bool.not_true, Bool.not_false, Bool.false_eq_true, Option.join_some, List.head?_cons, List.tail_cons, set_loc, Option.getD_some, Option.getD_none, and_self, and_true, true_and, List.lookup, fr, Bool.true_and, Bool.false_and, Bool.and_true, Bool.and_false, Bool.and_self, Bool.true_or, Bool.false_or, Bool.or_true, Bool.or_false, e_fld, e_fldO, e_fldSet, e_gmFld, e_gmNil, e_gmCons, e_gmTup, e_gmKtup, e_meth, e_make, e_methT, c_fld, k_fld, set_fld, eq_self, cond_true, cond_false, true_or, or_true, false_or, or_false, e0, i0, i1, i2, i3, i4, rR, rH, rW, rc, re, List.mem_nil_iff]
              | true =>
                rw [b4] at re
                have rP := r_fits_paint (it P (by simp)) (h := h) (w := w) (by omega) (by omega) z.cps.size
                simp -implicitDefEqProofs -dsimp only [e_seq, e_skip, e_never, e_ret, e_n, e_c, e_d, e_do, e_nil, e_cons, e_op2, e_un, e_chain, e_b, e_not, e_and, e_or, e_andV, e_orV, e_notV, e_if, e_ifS, e_call, e_callN, e_callF, e_fz, e_tup, e_tupZ, e_lst, e_set, e_asg, e_put, e_get2, e_mut, e_mtr, e_for, e_iter, e_over, e_lc, e_yes, e_pno, e_po, e_cut, e_par2, e_par3, e_catN, e_newT, e_name, e_loc, e_take, e_move, e_gname, c_d, c_loc, k_loc, cs_nil', cs_cons', fz_fro, fz_lst, fz_dT, bnd_some, bnd_none, Option.bind_some, Option.bind_none, Option.map_some, Option.map_none, List.getElem?_cons_zero, List.getElem?_cons_succ, List.length_cons, List.length_nil, if_true, List.map_cons, List.map_nil, Nat.reduceSub, List.replicate_zero, List.replicate_succ, List.append_nil, List.cons_append, List.nil_append, List.set_cons_zero, List.set_cons_succ, Nat.reduceAdd, Nat.reduceLT, Nat.reduceLeDiff, argsO_nil, argsO_d, argsO_loc, locs_nil, locs_d, locs_loc, nodup_nil', nodup_one, backE_nil, backE_d, backE_loc, wipeE_nil, wipeE_cons, calmE_nil, calmE_none, restE_nil, restE_cons, keep_0, keep_1, keep_2, keep_3, keep_4, own_lst, own_dT, own_fro, ite_true', ite_false', reduceIte, Bool.not_true, Bool.not_false, Bool.false_eq_true, Option.join_some, List.head?_cons, List.tail_cons, set_loc, Option.getD_some, Option.getD_none, and_self, and_true, true_and, List.lookup, fr, Bool.true_and, Bool.false_and, Bool.and_true, Bool.and_false, Bool.and_self, Bool.true_or, Bool.false_or, Bool.or_true, Bool.or_false, e_fld, e_fldO, e_fldSet, e_gmFld, e_gmNil, e_gmCons, e_gmTup, e_gmKtup, e_meth, e_make, e_methT, c_fld, k_fld, set_fld, eq_self, cond_true, cond_false, true_or, or_true, false_or, or_false, e0, i0, i1, i2, i3, i4, i5, rR, rH, rW, rc, re, rl, rP, List.mem_nil_iff]
    · have e4 : isTupOf d 6 6 = false := by
        rw [e2, Bool.and_eq_false_iff, decide_eq_false_iff_not, decide_eq_false_iff_not]; omega
      rw [e4] at e0
      rw [ant_not_six q l]
      simp -implicitDefEqProofs -dsimp only [e_seq, e_skip, e_never, e_ret, e_n, e_c, e_d, e_do, e_nil, e_cons, e_op2, e_un, e_chain, e_b, e_not, e_and, e_or, e_andV, e_orV, e_notV, e_if, e_ifS, e_call, e_callN, e_callF, e_fz, e_tup, e_tupZ, e_lst, e_set, e_asg, e_put, e_get2, e_mut, e_mtr, e_for, e_iter, e_over, e_lc, e_yes, e_pno, e_po, e_cut, e_par2, e_par3, e_catN, e_newT, e_name, e_loc, e_take, e_move, e_gname, c_d, c_loc, k_loc, cs_nil', cs_cons', fz_fro, fz_lst, fz_dT, bnd_some, bnd_none, Option.bind_some, Option.bind_none, Option.map_some, Option.map_none, List.getElem?_cons_zero, List.getElem?_cons_succ, List.length_cons, List.length_nil, if_true, List.map_cons, List.map_nil, Nat.reduceSub, List.replicate_zero, List.replicate_succ, List.append_nil, List.cons_append, List.nil_append, List.set_cons_zero, List.set_cons_succ, Nat.reduceAdd, Nat.reduceLT, Nat.reduceLeDiff, argsO_nil, argsO_d, argsO_loc, locs_nil, locs_d, locs_loc, nodup_nil', nodup_one, backE_nil, backE_d, backE_loc, wipeE_nil, wipeE_cons, calmE_nil, calmE_none, restE_nil, restE_cons, keep_0, keep_1, keep_2, keep_3, keep_4, own_lst, own_dT, own_fro, ite_true', ite_false', reduceIte, Bool.not_true, Bool.not_false, Bool.false_eq_true, Option.join_some, List.head?_cons, List.tail_cons, set_loc, Option.getD_some, Option.getD_none, and_self, and_true, true_and, List.lookup, fr, Bool.true_and, Bool.false_and, Bool.and_true, Bool.and_false, Bool.and_self, Bool.true_or, Bool.false_or, Bool.or_true, Bool.or_false, e_fld, e_fldO, e_fldSet, e_gmFld, e_gmNil, e_gmCons, e_gmTup, e_gmKtup, e_meth, e_make, e_methT, c_fld, k_fld, set_fld, eq_self, cond_true, cond_false, true_or, or_true, false_or, or_false, e0, List.mem_nil_iff]
theorem r_need_ant {k : Nat} {d : D} (s : SameOk (k + 5) d) (h : isAnt d = true) : run_need_ant [fr d] = some (fr .non, [none]) := by
  have e := r_fits_ant s
  rw [h] at e
  unfold run_need_ant fnRun m_need_ant
  simp -implicitDefEqProofs -dsimp only [e_seq, e_skip, e_never, e_ret, e_n, e_c, e_d, e_do, e_nil, e_cons, e_op2, e_un, e_chain, e_b, e_not, e_and, e_or, e_andV, e_orV, e_notV, e_if, e_ifS, e_call, e_callN, e_callF, e_fz, e_tup, e_tupZ, e_lst, e_set, e_asg, e_put, e_get2, e_mut, e_mtr, e_for, e_iter, e_over, e_lc, e_yes, e_pno, e_po, e_cut, e_par2, e_par3, e_catN, e_newT, e_name, e_loc, e_take, e_move, e_gname, c_d, c_loc, k_loc, cs_nil', cs_cons', fz_fro, fz_lst, fz_dT, bnd_some, bnd_none, Option.bind_some, Option.bind_none, Option.map_some, Option.map_none, List.getElem?_cons_zero, List.getElem?_cons_succ, List.length_cons, List.length_nil, if_true, List.map_cons, List.map_nil, Nat.reduceSub, List.replicate_zero, List.replicate_succ, List.append_nil, List.cons_append, List.nil_append, List.set_cons_zero, List.set_cons_succ, Nat.reduceAdd, Nat.reduceLT, Nat.reduceLeDiff, argsO_nil, argsO_d, argsO_loc, locs_nil, locs_d, locs_loc, nodup_nil', nodup_one, backE_nil, backE_d, backE_loc, wipeE_nil, wipeE_cons, calmE_nil, calmE_none, restE_nil, restE_cons, keep_0, keep_1, keep_2, keep_3, keep_4, own_lst, own_dT, own_fro, ite_true', ite_false', reduceIte, Bool.not_true, Bool.not_false, Bool.false_eq_true, Option.join_some, List.head?_cons, List.tail_cons, set_loc, Option.getD_some, Option.getD_none, and_self, and_true, true_and, List.lookup, fr, Bool.true_and, Bool.false_and, Bool.and_true, Bool.and_false, Bool.and_self, Bool.true_or, Bool.false_or, Bool.or_true, Bool.or_false, e_fld, e_fldO, e_fldSet, e_gmFld, e_gmNil, e_gmCons, e_gmTup, e_gmKtup, e_meth, e_make, e_methT, c_fld, k_fld, set_fld, eq_self, cond_true, cond_false, true_or, or_true, false_or, or_false, e, List.mem_nil_iff]
theorem r_need_many {i a b : Int} (h0 : a ≤ i) (h1 : i ≤ b) : run_need_many [fr (.int i), fr (.int a), fr (.int b)] = some (fr .non, [none, none, none]) := by
  have e := r_fits_whole (d := .int i) rfl a b
  have e1 : isWhole (.int i) a b = true := by
    show (decide (a ≤ i) && decide (i ≤ b)) = true
    rw [decide_eq_true h0, decide_eq_true h1]; rfl
  rw [e1] at e
  unfold run_need_many fnRun m_need_many
  simp -implicitDefEqProofs -dsimp only [e_seq, e_skip, e_never, e_ret, e_n, e_c, e_d, e_do, e_nil, e_cons, e_op2, e_un, e_chain, e_b, e_not, e_and, e_or, e_andV, e_orV, e_notV, e_if, e_ifS, e_call, e_callN, e_callF, e_fz, e_tup, e_tupZ, e_lst, e_set, e_asg, e_put, e_get2, e_mut, e_mtr, e_for, e_iter, e_over, e_lc, e_yes, e_pno, e_po, e_cut, e_par2, e_par3, e_catN, e_newT, e_name, e_loc, e_take, e_move, e_gname, c_d, c_loc, k_loc, cs_nil', cs_cons', fz_fro, fz_lst, fz_dT, bnd_some, bnd_none, Option.bind_some, Option.bind_none, Option.map_some, Option.map_none, List.getElem?_cons_zero, List.getElem?_cons_succ, List.length_cons, List.length_nil, if_true, List.map_cons, List.map_nil, Nat.reduceSub, List.replicate_zero, List.replicate_succ, List.append_nil, List.cons_append, List.nil_append, List.set_cons_zero, List.set_cons_succ, Nat.reduceAdd, Nat.reduceLT, Nat.reduceLeDiff, argsO_nil, argsO_d, argsO_loc, locs_nil, locs_d, locs_loc, nodup_nil', nodup_one, backE_nil, backE_d, backE_loc, wipeE_nil, wipeE_cons, calmE_nil, calmE_none, restE_nil, restE_cons, keep_0, keep_1, keep_2, keep_3, keep_4, own_lst, own_dT, own_fro, ite_true', ite_false', reduceIte, Bool.not_true, Bool.not_false, Bool.false_eq_true, Option.join_some, List.head?_cons, List.tail_cons, set_loc, Option.getD_some, Option.getD_none, and_self, and_true, true_and, List.lookup, fr, Bool.true_and, Bool.false_and, Bool.and_true, Bool.and_false, Bool.and_self, Bool.true_or, Bool.false_or, Bool.or_true, Bool.or_false, e_fld, e_fldO, e_fldSet, e_gmFld, e_gmNil, e_gmCons, e_gmTup, e_gmKtup, e_meth, e_make, e_methT, c_fld, k_fld, set_fld, eq_self, cond_true, cond_false, true_or, or_true, false_or, or_false, e, List.mem_nil_iff]
/-! ### an ant that was built is one -/
theorem same_up {k : Nat} {d : D} (h : SameOk k d) : SameOk (k + 1) d := by
  induction h with
  | non => exact .non
  | bl => exact .bl
  | int => exact .int
  | str h => exact .str h
  | tup _ l ih => exact .tup ih l
  | ktup _ l ih => exact .ktup ih l
  | lst _ l ih => exact .lst ih l
theorem same_le {k m : Nat} {d : D} (h : SameOk k d) (l : k ≤ m) : SameOk m d := by
  obtain ⟨n, rfl⟩ := Nat.exists_eq_add_of_le l
  induction n with
  | zero => exact h
  | succ n ih => exact same_up (ih (by omega))
theorem len_paint {A : Ant} (h : Ok A) : (pairsD D.int (paintT A)).length ≤ 1000000 := by
  unfold pairsD
  rw [List.length_map]
  exact Nat.le_trans (tab_len h (tab_paint h)) (by decide)
theorem same_pair {p : Pt} {k : Nat} : SameOk (k + 2) (VL.pairD p) := .tup (fun x hx => by
  have hx : x = .int p.1 ∨ x = .int p.2 := by simpa using hx
  rcases hx with rfl | rfl <;> exact .int) (by decide : 2 ≤ 1000000)
theorem same_paint {A : Ant} (h : Ok A) : SameOk 4 (.ktup (pairsD D.int (paintT A))) := .ktup (fun x hx => by
  unfold pairsD at hx
  obtain ⟨p, _, rfl⟩ := List.mem_map.mp hx
  refine .tup (fun y hy => ?_) (by decide : 2 ≤ 1000000)
  have hy : y = VL.pairD p.1 ∨ y = .int p.2 := by simpa using hy
  rcases hy with rfl | rfl
  · exact same_pair
  · exact .int) (len_paint h)
theorem same_rule {A : Ant} (h : Ok A) {k : Nat} : SameOk (k + 1) (.str (ruleS A.bs)) := .str (by
  have n6 := h.n6
  show (ruleS A.bs).cps.size ≤ _
  rw [size_rule]; omega)
theorem same_cell {x y : Int} {k : Nat} : SameOk (k + 2) (.tup [.int x, .int y]) := same_pair (p := (x, y))
theorem same_antD {A : Ant} (h : Ok A) : SameOk 5 (antD A) := .tup (fun x hx => by
  have hx : x = .str (ruleS A.bs) ∨ x = .int A.h ∨ x = .int A.w ∨ x = .tup [.int A.r, .int A.c] ∨ x = .int A.hd ∨ x = .ktup (pairsD .int (paintT A)) := by simpa using hx
  rcases hx with rfl | rfl | rfl | rfl | rfl | rfl
  · exact same_rule h
  · exact .int
  · exact .int
  · exact same_cell
  · exact .int
  · exact same_paint h) (by decide : 6 ≤ 1000000)
theorem rule_ok {A : Ant} (h : Ok A) : isRule (.str (ruleS A.bs)) = true := by
  have n2 := h.n2
  have n6 := h.n6
  have e1 : isRule (.str (ruleS A.bs)) = (decide (2 ≤ (ruleS A.bs).cps.size) && (decide ((ruleS A.bs).cps.size ≤ 6) && (ruleS A.bs).cps.toList.all isLr)) := rfl
  rw [e1, size_rule, decide_eq_true n2, decide_eq_true n6]
  have : (ruleS A.bs).cps.toList = A.bs.map sgn := by simp [ruleS]
  rw [this]
  show (A.bs.map sgn).all isLr = true
  rw [List.all_eq_true]
  intro c hc
  obtain ⟨b, _, rfl⟩ := List.mem_map.mp hc
  cases b <;> decide
theorem cellOf_pairs {A : Ant} : (pairsD D.int (paintT A)).map cellOf = pts A := by
  unfold pairsD paintT
  rw [List.map_map, List.map_map]
  conv => rhs; rw [← List.map_id (pts A)]
  exact List.map_congr_left fun p _ => rfl
theorem paint_ok {A : Ant} (h : Ok A) : isPaint (.ktup (pairsD .int (paintT A))) A.h A.w A.bs.length = true := by
  show ((pairsD D.int (paintT A)).all (pairOk A.h A.w A.bs.length) && adj ((pairsD D.int (paintT A)).map cellOf)) = true
  rw [Bool.and_eq_true]
  constructor
  · rw [List.all_eq_true]
    intro x hx
    unfold pairsD paintT at hx
    rw [List.map_map] at hx
    obtain ⟨p, hp, rfl⟩ := List.mem_map.mp hx
    have hp := (mem_pts h).mp hp
    have c := mem_cells.mp (h.k2 p hp)
    have k1 := h.k1 p
    show ((decide (0 ≤ p.1) && decide (p.1 ≤ A.h - 1)) && (decide (0 ≤ p.2) && decide (p.2 ≤ A.w - 1)) && (decide (1 ≤ A.col p) && decide (A.col p ≤ A.bs.length - 1))) = true
    simp only [Bool.and_eq_true, decide_eq_true_eq]
    omega
  · rw [cellOf_pairs]
    exact sorted_adj ptsOf_sorted
theorem place_ok {A : Ant} (h : Ok A) : isPlace (.tup [.int A.r, .int A.c]) A.h A.w = true := by
  have r0 := h.r0
  have r1 := h.r1
  have c0 := h.c0
  have c1 := h.c1
  show ((decide (0 ≤ A.r) && decide (A.r ≤ A.h - 1)) && (decide (0 ≤ A.c) && decide (A.c ≤ A.w - 1))) = true
  simp only [Bool.and_eq_true, decide_eq_true_eq]
  omega
theorem isAnt_antD {A : Ant} (h : Ok A) : isAnt (antD A) = true := by
  have e : isAnt (antD A) = (isRule (.str (ruleS A.bs)) && (isWhole (.int A.h) 1 20 && (isWhole (.int A.w) 1 20 && (isPlace (.tup [.int A.r, .int A.c]) A.h A.w && (isWhole (.int A.hd) 0 3 && isPaint (.ktup (pairsD .int (paintT A))) A.h A.w ((ruleS A.bs).cps.size : Nat)))))) := rfl
  have h1 := h.h1
  have h2 := h.h2
  have w1 := h.w1
  have w2 := h.w2
  have d0 := h.d0
  have d1 := h.d1
  have e1 : isWhole (.int A.h) 1 20 = true := by
    show (decide (1 ≤ (A.h : Int)) && decide ((A.h : Int) ≤ 20)) = true
    simp only [Bool.and_eq_true, decide_eq_true_eq]; omega
  have e2 : isWhole (.int A.w) 1 20 = true := by
    show (decide (1 ≤ (A.w : Int)) && decide ((A.w : Int) ≤ 20)) = true
    simp only [Bool.and_eq_true, decide_eq_true_eq]; omega
  have e3 : isWhole (.int A.hd) 0 3 = true := by
    show (decide (0 ≤ A.hd) && decide (A.hd ≤ 3)) = true
    simp only [Bool.and_eq_true, decide_eq_true_eq]; omega
  rw [e, rule_ok h, e1, e2, place_ok h, e3, size_rule, paint_ok h]
  rfl
/-! ### the calls -/
theorem r_ant_after {C : Addr} {A : Ant} (h : Ok A) {n : Nat} (hn : n ≤ 5000) : run_ant_after C [fr (antD A), fr (.int n)] = some (fr (antD (steps A n)), [none, none]) := by
  have e1 := r_need_ant (k := 0) (same_antD h) (isAnt_antD h)
  have e4 := r_need_many (i := n) (a := -5000) (b := 5000) (by omega) (by omega)
  obtain ⟨T, t, e2⟩ := r_moved_in (C := C) h (n := n) (by omega)
  have e3 := r_ant (C := C) (ok_steps h n) t
  unfold run_ant_after fnRun m_ant_after
  simp -implicitDefEqProofs -dsimp only [e_seq, e_skip, e_never, e_ret, e_n, e_c, e_d, e_do, e_nil, e_cons, e_op2, e_un, e_chain, e_b, e_not, e_and, e_or, e_andV, e_orV, e_notV, e_if, e_ifS, e_call, e_callN, e_callF, e_fz, e_tup, e_tupZ, e_lst, e_set, e_asg, e_put, e_get2, e_mut, e_mtr, e_for, e_iter, e_over, e_lc, e_yes, e_pno, e_po, e_cut, e_par2, e_par3, e_catN, e_newT, e_name, e_loc, e_take, e_move, e_gname, c_d, c_loc, k_loc, cs_nil', cs_cons', fz_fro, fz_lst, fz_dT, bnd_some, bnd_none, Option.bind_some, Option.bind_none, Option.map_some, Option.map_none, List.getElem?_cons_zero, List.getElem?_cons_succ, List.length_cons, List.length_nil, if_true, List.map_cons, List.map_nil, Nat.reduceSub, List.replicate_zero, List.replicate_succ, List.append_nil, List.cons_append, List.nil_append, List.set_cons_zero, List.set_cons_succ, Nat.reduceAdd, Nat.reduceLT, Nat.reduceLeDiff, argsO_nil, argsO_d, argsO_loc, locs_nil, locs_d, locs_loc, nodup_nil', nodup_one, backE_nil, backE_d, backE_loc, wipeE_nil, wipeE_cons, calmE_nil, calmE_none, restE_nil, restE_cons, keep_0, keep_1, keep_2, keep_3, keep_4, own_lst, own_dT, own_fro, ite_true', ite_false', reduceIte, Bool.not_true, Bool.not_false, Bool.false_eq_true, Option.join_some, List.head?_cons, List.tail_cons, set_loc, Option.getD_some, Option.getD_none, and_self, and_true, true_and, List.lookup, fr, Bool.true_and, Bool.false_and, Bool.and_true, Bool.and_false, Bool.and_self, Bool.true_or, Bool.false_or, Bool.or_true, Bool.or_false, e_fld, e_fldO, e_fldSet, e_gmFld, e_gmNil, e_gmCons, e_gmTup, e_gmKtup, e_meth, e_make, e_methT, c_fld, k_fld, set_fld, eq_self, cond_true, cond_false, true_or, or_true, false_or, or_false, e1, dNeg_i, e4, e2, b_ant, e3, List.mem_nil_iff]
theorem r_ant_before {C : Addr} {A : Ant} (h : Ok A) {n : Nat} (hn : n ≤ 5000) : run_ant_after C [fr (antD A), fr (.int (-(n : Int)))] = some (fr (antD (backs A n)), [none, none]) := by
  have e1 := r_need_ant (k := 0) (same_antD h) (isAnt_antD h)
  have e4 := r_need_many (i := -(n : Int)) (a := -5000) (b := 5000) (by omega) (by omega)
  obtain ⟨T, t, e2⟩ := r_moved_back (C := C) h (n := n) (by omega)
  have e3 := r_ant (C := C) (ok_backs h n) t
  unfold run_ant_after fnRun m_ant_after
  simp -implicitDefEqProofs -dsimp only [e_seq, e_skip, e_never, e_ret, e_n, e_c, e_d, e_do, e_nil, e_cons, e_op2, e_un, e_chain, e_b, e_not, e_and, e_or, e_andV, e_orV, e_notV, e_if, e_ifS, e_call, e_callN, e_callF, e_fz, e_tup, e_tupZ, e_lst, e_set, e_asg, e_put, e_get2, e_mut, e_mtr, e_for, e_iter, e_over, e_lc, e_yes, e_pno, e_po, e_cut, e_par2, e_par3, e_catN, e_newT, e_name, e_loc, e_take, e_move, e_gname, c_d, c_loc, k_loc, cs_nil', cs_cons', fz_fro, fz_lst, fz_dT, bnd_some, bnd_none, Option.bind_some, Option.bind_none, Option.map_some, Option.map_none, List.getElem?_cons_zero, List.getElem?_cons_succ, List.length_cons, List.length_nil, if_true, List.map_cons, List.map_nil, Nat.reduceSub, List.replicate_zero, List.replicate_succ, List.append_nil, List.cons_append, List.nil_append, List.set_cons_zero, List.set_cons_succ, Nat.reduceAdd, Nat.reduceLT, Nat.reduceLeDiff, argsO_nil, argsO_d, argsO_loc, locs_nil, locs_d, locs_loc, nodup_nil', nodup_one, backE_nil, backE_d, backE_loc, wipeE_nil, wipeE_cons, calmE_nil, calmE_none, restE_nil, restE_cons, keep_0, keep_1, keep_2, keep_3, keep_4, own_lst, own_dT, own_fro, ite_true', ite_false', reduceIte, Bool.not_true, Bool.not_false, Bool.false_eq_true, Option.join_some, List.head?_cons, List.tail_cons, set_loc, Option.getD_some, Option.getD_none, and_self, and_true, true_and, List.lookup, fr, Bool.true_and, Bool.false_and, Bool.and_true, Bool.and_false, Bool.and_self, Bool.true_or, Bool.false_or, Bool.or_true, Bool.or_false, e_fld, e_fldO, e_fldSet, e_gmFld, e_gmNil, e_gmCons, e_gmTup, e_gmKtup, e_meth, e_make, e_methT, c_fld, k_fld, set_fld, eq_self, cond_true, cond_false, true_or, or_true, false_or, or_false, e1, dNeg_i, e4, e2, b_ant, e3, List.mem_nil_iff]
/-! ### equal to itself -/
theorem eqv_same {k : Nat} {d : D} (h : SameOk k d) : ∀ n, k ≤ n → ∃ p, toP n d = some p ∧ PyData.eqv p p = true := by
  have all : ∀ {k n : Nat} (xs : List D), (∀ x ∈ xs, ∀ n, k ≤ n → ∃ p, toP n x = some p ∧ PyData.eqv p p = true) → k ≤ n → ∃ ps, toPs n xs = some ps ∧ PyData.eqvAll ps ps = true := by
    intro k n xs h hn
    induction xs with
    | nil => exact ⟨[], by simp [toPs], by simp [PyData.eqvAll]⟩
    | cons x xs ih =>
      obtain ⟨ps, e1, e2⟩ := ih fun y hy => h y (List.mem_cons_of_mem _ hy)
      obtain ⟨p, e3, e4⟩ := h x List.mem_cons_self n hn
      refine ⟨p :: ps, ?_, ?_⟩
      · unfold toPs; rw [e3, e1]; rfl
      · simp [PyData.eqvAll, e2, e4]
  induction h with
  | non => intro n _; exact ⟨.none, by unfold toP; rfl, by simp [PyData.eqv]⟩
  | bl => intro n _; exact ⟨.bool _, by unfold toP; rfl, by simp [PyData.eqv]⟩
  | int => intro n _; exact ⟨.int _, by unfold toP; rfl, by simp [PyData.eqv]⟩
  | str _ => intro n _; exact ⟨.str _, by unfold toP; rfl, by simp [PyData.eqv]⟩
  | tup _ _ ih =>
    intro n hn
    obtain ⟨n, rfl⟩ := Nat.exists_eq_add_of_le' (show 1 ≤ n by omega)
    obtain ⟨ps, e1, e2⟩ := all _ ih (show _ ≤ n by omega)
    exact ⟨.tuple ps, by unfold toP; rw [e1]; rfl, by simp [PyData.eqv, e2]⟩
  | ktup _ _ ih =>
    intro n hn
    obtain ⟨n, rfl⟩ := Nat.exists_eq_add_of_le' (show 1 ≤ n by omega)
    obtain ⟨ps, e1, e2⟩ := all _ ih (show _ ≤ n by omega)
    exact ⟨.tuple ps, by unfold toP; rw [e1]; rfl, by simp [PyData.eqv, e2]⟩
  | lst _ _ ih =>
    intro n hn
    obtain ⟨n, rfl⟩ := Nat.exists_eq_add_of_le' (show 1 ≤ n by omega)
    obtain ⟨ps, e1, e2⟩ := all _ ih (show _ ≤ n by omega)
    exact ⟨.list ps, by unfold toP; rw [e1]; rfl, by simp [PyData.eqv, e2]⟩
theorem dNe_same {k : Nat} {d : D} (h : SameOk k d) (hk : k ≤ 60) : dNe d d = some (.bl false) := by
  obtain ⟨p, e1, e2⟩ := eqv_same h 60 hk
  unfold dNe
  rw [e1]
  show some (D.bl (!PyData.eqv p p)) = _
  rw [e2]; rfl
end K87
end
section
set_option Elab.async false
set_option linter.all false
set_option maxRecDepth 100000
set_option maxHeartbeats 1000000
set_option autoImplicit false
namespace K87
open PySem PySem.Spec PyProof.Rows L2 VL
theorem some_int {a b : Int} {xs : List Int} (P : Int → Prop) (ha : 0 ≤ a) (h0 : xs ≠ []) (hl : xs.length < 1073741824) (hP : ∀ x ∈ xs, P x) : ∃ x a' b' : Int, P x ∧ 0 ≤ a' ∧ run__law_some [cupO a b, fr (.lst (xs.map D.int))] = some (fr (.int x), [some (cupO a' b'), none]) := by
  obtain ⟨n, x, a', b', hn, hx, ha', e⟩ := r_some (b := b) (xs := xs.map D.int) ha (by simpa using h0) (by simpa using hl)
  have hm := List.mem_of_getElem? hx
  obtain ⟨i, hi, rfl⟩ := List.mem_map.mp hm
  exact ⟨i, a', b', hP i hi, ha', e⟩
def bitS (b : Bool) : Str := ⟨#[sgn b]⟩
theorem bits_of : ∀ zs : List D, (∀ z ∈ zs, ∃ c : Bool, z = .str (bitS c)) → ∃ bs : List Bool, zs = (bs.map bitS).map D.str
  | [], _ => ⟨[], rfl⟩
  | z :: zs, h => by
    obtain ⟨c, rfl⟩ := h z List.mem_cons_self
    obtain ⟨bs, rfl⟩ := bits_of zs fun y hy => h y (List.mem_cons_of_mem _ hy)
    exact ⟨c :: bs, rfl⟩
theorem join_bits : ∀ bs : List Bool, Txt.join "" (bs.map bitS) = ruleS bs := by
  intro bs
  show PySem.Builtin.Str.glued _ _ = _
  rw [PySem.StrLaws.glued_eq_join]
  induction bs with
  | nil => rfl
  | cons b bs ih =>
    cases bs with
    | nil => rfl
    | cons c r =>
      show bitS b ++ ("" : Str) ++ Str.join "" (bitS c :: r.map bitS) = _
      rw [show Str.join "" (bitS c :: r.map bitS) = ruleS (c :: r) from ih]
      refine TL.ext_tl ?_
      rw [TL.tl_append, TL.tl_append]
      show TL.tl (bitS b) ++ TL.tl ("" : Str) ++ TL.tl (ruleS (c :: r)) = TL.tl (ruleS (b :: c :: r))
      unfold ruleS
      rw [TL.tl_mk, TL.tl_mk]
      rfl
theorem join_r {bs : List Bool} (h : bs.length ≤ 1000) : fJoin (.str "") [.lst ((bs.map bitS).map D.str)] = some (.str (ruleS bs)) := by
  show (strsD ((bs.map bitS).map D.str)).bind (fun ys => if (ys.map (·.length)).sum + ys.length * ("" : Str).length ≤ 16777216 then some (D.str (Txt.join "" ys)) else none) = _
  rw [strsD_map, Option.bind_some, join_bits]
  have e : ((bs.map bitS).map (·.length)).sum = bs.length := by
    clear h
    induction bs with
    | nil => rfl
    | cons b bs ih =>
      rw [List.map_cons, List.map_cons, List.sum_cons, ih]
      have : (bitS b).length = 1 := by cases b <;> rfl
      rw [this, List.length_cons]; omega
  have e2 : ("" : Str).length = 0 := by decide
  rw [e, e2, if_pos (by omega)]
section
variable {a b m : Int}
theorem la1 (ha : 0 ≤ a) : ∃ a' b' : Int, ∃ bs : List Bool, 0 ≤ a' ∧ 2 ≤ bs.length ∧ bs.length ≤ 6 ∧ st__law_ant_1 [some (cupO a b), some (fr (.int m)), none, none, none, none, none, none, none, none] = some (.nx, [some (cupO a' b'), some (fr (.int m)), some (fr (.str (ruleS bs))), none, none, none, none, none, none, none]) := by
  obtain ⟨j, a1, b1, hj, ha1, e1⟩ := some_int (b := b) (fun x => 1 ≤ x ∧ x ≤ 5) ha (xs := [1, 1, 5]) (by simp) (by decide) (by
    intro x hx
    have : x = 1 ∨ x = 1 ∨ x = 5 := by simpa using hx
    omega)
  have e1 : run__law_some [cupO a b, fr (.lst [.int 1, .int 1, .int 5])] = some (fr (.int j), [some (cupO a1 b1), none]) := e1
  obtain ⟨v, a2, b2, v0, v1, ha2, e2⟩ := r_roll (b := b1) ha1 (m := j) (by omega) (by omega)
  obtain ⟨v, rfl⟩ := Int.eq_ofNat_of_zero_le v0
  have e3 : rangeI1 [.int (2 + (v : Int))] = some (intsD 0 (2 + v)) := by
    rw [show (2 + (v : Int)) = ((2 + v : Nat) : Int) by omega]; exact range_n (by omega)
  obtain ⟨zs, η', e4, ⟨a3, b3, ha3, rfl⟩, hl, hz⟩ := lc_inv (own := [8]) (tm := gmName 8) (mt := mYes) (me := ce__law_ant_1) (fun η => ∃ a b, 0 ≤ a ∧ η = [some (cupO a b), some (fr (.int m)), none, none, none, none, none, none, none, none]) (fun z => ∃ c : Bool, z = .str (bitS c)) (intsD 0 (2 + v)) [some (cupO a2 b2), some (fr (.int m)), none, none, none, none, none, none, none, none] ⟨a2, b2, ha2, rfl⟩ fun d η hd ⟨a, b, ha, hη⟩ => by
    subst hη
    obtain ⟨n, x, a', b', hn, hx, ha', e⟩ := r_some (b := b) (xs := [.str "l", .str "r"]) ha (by simp) (by decide)
    have hc : ∃ c, x = .str (bitS c) := by
      have : x = .str "l" ∨ x = .str "r" := by simpa using List.mem_of_getElem? hx
      rcases this with rfl | rfl
      · exact ⟨false, rfl⟩
      · exact ⟨true, rfl⟩
    exact ⟨[some (cupO a b), some (fr (.int m)), none, none, none, none, none, none, some (fr d), none], [some (cupO a b), some (fr (.int m)), none, none, none, none, none, none, some (fr d), none], x, [some (cupO a' b'), some (fr (.int m)), none, none, none, none, none, none, some (fr d), none], by simp -implicitDefEqProofs -dsimp only [e_seq, e_skip, e_never, e_ret, e_n, e_c, e_d, e_do, e_nil, e_cons, e_op2, e_un, e_chain, e_b, e_not, e_and, e_or, e_andV, e_orV, e_notV, e_if, e_ifS, e_call, e_callN, e_callF, e_fz, e_tup, e_tupZ, e_lst, e_set, e_asg, e_put, e_get2, e_mut, e_mtr, e_for, e_iter, e_over, e_lc, e_yes, e_pno, e_po, e_cut, e_par2, e_par3, e_catN, e_newT, e_name, e_loc, e_take, e_move, e_gname, c_d, c_loc, k_loc, cs_nil', cs_cons', fz_fro, fz_lst, fz_dT, bnd_some, bnd_none, Option.bind_some, Option.bind_none, Option.map_some, Option.map_none, List.getElem?_cons_zero, List.getElem?_cons_succ, List.length_cons, List.length_nil, if_true, List.map_cons, List.map_nil, Nat.reduceSub, List.replicate_zero, List.replicate_succ, List.append_nil, List.cons_append, List.nil_append, List.set_cons_zero, List.set_cons_succ, Nat.reduceAdd, Nat.reduceLT, Nat.reduceLeDiff, argsO_nil, argsO_d, argsO_loc, locs_nil, locs_d, locs_loc, nodup_nil', nodup_one, backE_nil, backE_d, backE_loc, wipeE_nil, wipeE_cons, calmE_nil, calmE_none, restE_nil, restE_cons, keep_0, keep_1, keep_2, keep_3, keep_4, own_lst, own_dT, own_fro, ite_true', ite_false', reduceIte, Bool.not_true, Bool.not_false, Bool.false_eq_true, Option.join_some, List.head?_cons, List.tail_cons, set_loc, Option.getD_some, Option.getD_none, and_self, and_true, true_and, List.lookup, fr, Bool.true_and, Bool.false_and, Bool.and_true, Bool.and_false, Bool.and_self, Bool.true_or, Bool.false_or, Bool.or_true, Bool.or_false, e_fld, e_fldO, e_fldSet, e_gmFld, e_gmNil, e_gmCons, e_gmTup, e_gmKtup, e_meth, e_make, e_methT, c_fld, k_fld, set_fld, eq_self, cond_true, cond_false, true_or, or_true, false_or, or_false], rfl, by simp -implicitDefEqProofs -dsimp only [e_seq, e_skip, e_never, e_ret, e_n, e_c, e_d, e_do, e_nil, e_cons, e_op2, e_un, e_chain, e_b, e_not, e_and, e_or, e_andV, e_orV, e_notV, e_if, e_ifS, e_call, e_callN, e_callF, e_fz, e_tup, e_tupZ, e_lst, e_set, e_asg, e_put, e_get2, e_mut, e_mtr, e_for, e_iter, e_over, e_lc, e_yes, e_pno, e_po, e_cut, e_par2, e_par3, e_catN, e_newT, e_name, e_loc, e_take, e_move, e_gname, c_d, c_loc, k_loc, cs_nil', cs_cons', fz_fro, fz_lst, fz_dT, bnd_some, bnd_none, Option.bind_some, Option.bind_none, Option.map_some, Option.map_none, List.getElem?_cons_zero, List.getElem?_cons_succ, List.length_cons, List.length_nil, if_true, List.map_cons, List.map_nil, Nat.reduceSub, List.replicate_zero, List.replicate_succ, List.append_nil, List.cons_append, List.nil_append, List.set_cons_zero, List.set_cons_succ, Nat.reduceAdd, Nat.reduceLT, Nat.reduceLeDiff, argsO_nil, argsO_d, argsO_loc, locs_nil, locs_d, locs_loc, nodup_nil', nodup_one, backE_nil, backE_d, backE_loc, wipeE_nil, wipeE_cons, calmE_nil, calmE_none, restE_nil, restE_cons, keep_0, keep_1, keep_2, keep_3, keep_4, own_lst, own_dT, own_fro, ite_true', ite_false', reduceIte, Bool.not_true, Bool.not_false, Bool.false_eq_true, Option.join_some, List.head?_cons, List.tail_cons, set_loc, Option.getD_some, Option.getD_none, and_self, and_true, true_and, List.lookup, fr, Bool.true_and, Bool.false_and, Bool.and_true, Bool.and_false, Bool.and_self, Bool.true_or, Bool.false_or, Bool.or_true, Bool.or_false, e_fld, e_fldO, e_fldSet, e_gmFld, e_gmNil, e_gmCons, e_gmTup, e_gmKtup, e_meth, e_make, e_methT, c_fld, k_fld, set_fld, eq_self, cond_true, cond_false, true_or, or_true, false_or, or_false, ce__law_ant_1, e], hc, a', b', ha', by simp -implicitDefEqProofs -dsimp only [e_seq, e_skip, e_never, e_ret, e_n, e_c, e_d, e_do, e_nil, e_cons, e_op2, e_un, e_chain, e_b, e_not, e_and, e_or, e_andV, e_orV, e_notV, e_if, e_ifS, e_call, e_callN, e_callF, e_fz, e_tup, e_tupZ, e_lst, e_set, e_asg, e_put, e_get2, e_mut, e_mtr, e_for, e_iter, e_over, e_lc, e_yes, e_pno, e_po, e_cut, e_par2, e_par3, e_catN, e_newT, e_name, e_loc, e_take, e_move, e_gname, c_d, c_loc, k_loc, cs_nil', cs_cons', fz_fro, fz_lst, fz_dT, bnd_some, bnd_none, Option.bind_some, Option.bind_none, Option.map_some, Option.map_none, List.getElem?_cons_zero, List.getElem?_cons_succ, List.length_cons, List.length_nil, if_true, List.map_cons, List.map_nil, Nat.reduceSub, List.replicate_zero, List.replicate_succ, List.append_nil, List.cons_append, List.nil_append, List.set_cons_zero, List.set_cons_succ, Nat.reduceAdd, Nat.reduceLT, Nat.reduceLeDiff, argsO_nil, argsO_d, argsO_loc, locs_nil, locs_d, locs_loc, nodup_nil', nodup_one, backE_nil, backE_d, backE_loc, wipeE_nil, wipeE_cons, calmE_nil, calmE_none, restE_nil, restE_cons, keep_0, keep_1, keep_2, keep_3, keep_4, own_lst, own_dT, own_fro, ite_true', ite_false', reduceIte, Bool.not_true, Bool.not_false, Bool.false_eq_true, Option.join_some, List.head?_cons, List.tail_cons, set_loc, Option.getD_some, Option.getD_none, and_self, and_true, true_and, List.lookup, fr, Bool.true_and, Bool.false_and, Bool.and_true, Bool.and_false, Bool.and_self, Bool.true_or, Bool.false_or, Bool.or_true, Bool.or_false, e_fld, e_fldO, e_fldSet, e_gmFld, e_gmNil, e_gmCons, e_gmTup, e_gmKtup, e_meth, e_make, e_methT, c_fld, k_fld, set_fld, eq_self, cond_true, cond_false, true_or, or_true, false_or, or_false]⟩
  obtain ⟨bs, rfl⟩ := bits_of zs hz
  rw [len_ints, List.length_map, List.length_map] at hl
  have e5 := join_r (bs := bs) (by omega)
  have sm : small (intsD 0 (2 + v)).length = true := small_of (by rw [len_ints]; omega)
  refine ⟨a3, b3, bs, ha3, by omega, by omega, ?_⟩
  simp -implicitDefEqProofs -dsimp only [e_seq, e_skip, e_never, e_ret, e_n, e_c, e_d, e_do, e_nil, e_cons, e_op2, e_un, e_chain, e_b, e_not, e_and, e_or, e_andV, e_orV, e_notV, e_if, e_ifS, e_call, e_callN, e_callF, e_fz, e_tup, e_tupZ, e_lst, e_set, e_asg, e_put, e_get2, e_mut, e_mtr, e_for, e_iter, e_over, e_lc, e_yes, e_pno, e_po, e_cut, e_par2, e_par3, e_catN, e_newT, e_name, e_loc, e_take, e_move, e_gname, c_d, c_loc, k_loc, cs_nil', cs_cons', fz_fro, fz_lst, fz_dT, bnd_some, bnd_none, Option.bind_some, Option.bind_none, Option.map_some, Option.map_none, List.getElem?_cons_zero, List.getElem?_cons_succ, List.length_cons, List.length_nil, if_true, List.map_cons, List.map_nil, Nat.reduceSub, List.replicate_zero, List.replicate_succ, List.append_nil, List.cons_append, List.nil_append, List.set_cons_zero, List.set_cons_succ, Nat.reduceAdd, Nat.reduceLT, Nat.reduceLeDiff, argsO_nil, argsO_d, argsO_loc, locs_nil, locs_d, locs_loc, nodup_nil', nodup_one, backE_nil, backE_d, backE_loc, wipeE_nil, wipeE_cons, calmE_nil, calmE_none, restE_nil, restE_cons, keep_0, keep_1, keep_2, keep_3, keep_4, own_lst, own_dT, own_fro, ite_true', ite_false', reduceIte, Bool.not_true, Bool.not_false, Bool.false_eq_true, Option.join_some, List.head?_cons, List.tail_cons, set_loc, Option.getD_some, Option.getD_none, and_self, and_true, true_and, List.lookup, fr, Bool.true_and, Bool.false_and, Bool.and_true, Bool.and_false, Bool.and_self, Bool.true_or, Bool.false_or, Bool.or_true, Bool.or_false, e_fld, e_fldO, e_fldSet, e_gmFld, e_gmNil, e_gmCons, e_gmTup, e_gmKtup, e_meth, e_make, e_methT, c_fld, k_fld, set_fld, eq_self, cond_true, cond_false, true_or, or_true, false_or, or_false, st__law_ant_1, e1, e2, dAdd_i, e3, sm, e4, e5, show tyM "str" (.str "") = true from rfl]
theorem la2 {bs : List Bool} (ha : 0 ≤ a) (m1 : 1 ≤ m) (m2 : m ≤ 20) : ∃ a' b' : Int, ∃ h w : Nat, 0 ≤ a' ∧ 1 ≤ h ∧ (h : Int) ≤ m ∧ 1 ≤ w ∧ (w : Int) ≤ m ∧ st__law_ant_2 [some (cupO a b), some (fr (.int m)), some (fr (.str (ruleS bs))), none, none, none, none, none, none, none] = some (.nx, [some (cupO a' b'), some (fr (.int m)), some (fr (.str (ruleS bs))), some (fr (.int h)), some (fr (.int w)), none, none, none, none, none]) := by
  obtain ⟨v, a1, b1, v0, v1, ha1, e1⟩ := r_roll (b := b) ha (m := m) (by omega) (by omega)
  obtain ⟨u, a2, b2, u0, u1, ha2, e2⟩ := r_roll (b := b1) ha1 (m := m) (by omega) (by omega)
  obtain ⟨v, rfl⟩ := Int.eq_ofNat_of_zero_le v0
  obtain ⟨u, rfl⟩ := Int.eq_ofNat_of_zero_le u0
  refine ⟨a2, b2, 1 + v, 1 + u, ha2, by omega, by omega, by omega, by omega, ?_⟩
  have c1 : ((1 + v : Nat) : Int) = 1 + (v : Int) := by omega
  have c2 : ((1 + u : Nat) : Int) = 1 + (u : Int) := by omega
  rw [c1, c2]
  simp -implicitDefEqProofs -dsimp only [e_seq, e_skip, e_never, e_ret, e_n, e_c, e_d, e_do, e_nil, e_cons, e_op2, e_un, e_chain, e_b, e_not, e_and, e_or, e_andV, e_orV, e_notV, e_if, e_ifS, e_call, e_callN, e_callF, e_fz, e_tup, e_tupZ, e_lst, e_set, e_asg, e_put, e_get2, e_mut, e_mtr, e_for, e_iter, e_over, e_lc, e_yes, e_pno, e_po, e_cut, e_par2, e_par3, e_catN, e_newT, e_name, e_loc, e_take, e_move, e_gname, c_d, c_loc, k_loc, cs_nil', cs_cons', fz_fro, fz_lst, fz_dT, bnd_some, bnd_none, Option.bind_some, Option.bind_none, Option.map_some, Option.map_none, List.getElem?_cons_zero, List.getElem?_cons_succ, List.length_cons, List.length_nil, if_true, List.map_cons, List.map_nil, Nat.reduceSub, List.replicate_zero, List.replicate_succ, List.append_nil, List.cons_append, List.nil_append, List.set_cons_zero, List.set_cons_succ, Nat.reduceAdd, Nat.reduceLT, Nat.reduceLeDiff, argsO_nil, argsO_d, argsO_loc, locs_nil, locs_d, locs_loc, nodup_nil', nodup_one, backE_nil, backE_d, backE_loc, wipeE_nil, wipeE_cons, calmE_nil, calmE_none, restE_nil, restE_cons, keep_0, keep_1, keep_2, keep_3, keep_4, own_lst, own_dT, own_fro, ite_true', ite_false', reduceIte, Bool.not_true, Bool.not_false, Bool.false_eq_true, Option.join_some, List.head?_cons, List.tail_cons, set_loc, Option.getD_some, Option.getD_none, and_self, and_true, true_and, List.lookup, fr, Bool.true_and, Bool.false_and, Bool.and_true, Bool.and_false, Bool.and_self, Bool.true_or, Bool.false_or, Bool.or_true, Bool.or_false, e_fld, e_fldO, e_fldSet, e_gmFld, e_gmNil, e_gmCons, e_gmTup, e_gmKtup, e_meth, e_make, e_methT, c_fld, k_fld, set_fld, eq_self, cond_true, cond_false, true_or, or_true, false_or, or_false, st__law_ant_2, e1, e2, dAdd_i]
/-- a table of colours -/
structure Pnt (bs : List Bool) (h w : Nat) (T : List (Pt × Int)) : Prop where
  nd : (T.map (·.1)).Nodup
  ks : ∀ p ∈ T.map (·.1), p ∈ cells h w
  vs : ∀ p v, look T p = some v → 1 ≤ v ∧ v < bs.length
theorem la4 {bs : List Bool} {h w : Nat} (n2 : 2 ≤ bs.length) (n6 : bs.length ≤ 6) (ha : 0 ≤ a) (h1 : 1 ≤ h) (h2 : h ≤ 20) (w1 : 1 ≤ w) (w2 : w ≤ 20) : ∃ a' b' : Int, ∃ T x, 0 ≤ a' ∧ Pnt bs h w T ∧ T.length ≤ 12 ∧ st__law_ant_4 [some (cupO a b), some (fr (.int m)), some (fr (.str (ruleS bs))), some (fr (.int h)), some (fr (.int w)), some (.s (.dT [])), none, none, none, none] = some (.nx, [some (cupO a' b'), some (fr (.int m)), some (fr (.str (ruleS bs))), some (fr (.int h)), some (fr (.int w)), some (.s (.dT (gI .int T))), x, none, none, none]) := by
  obtain ⟨j, a1, b1, hj, ha1, e1⟩ := some_int (b := b) (fun x => 0 ≤ x ∧ x ≤ 12) ha (xs := [0, 3, 12]) (by simp) (by decide) (by
    intro x hx
    have : x = 0 ∨ x = 3 ∨ x = 12 := by simpa using hx
    omega)
  have e1 : run__law_some [cupO a b, fr (.lst [.int 0, .int 3, .int 12])] = some (fr (.int j), [some (cupO a1 b1), none]) := e1
  obtain ⟨j, rfl⟩ := Int.eq_ofNat_of_zero_le hj.1
  have e2 := range_n (n := j) (by omega)
  have key := loop_inv (tm := gmName 6) (body := fb__law_ant_1) (fun i η => ∃ a b T x, 0 ≤ a ∧ Pnt bs h w T ∧ T.length ≤ i ∧ η = [some (cupO a b), some (fr (.int m)), some (fr (.str (ruleS bs))), some (fr (.int h)), some (fr (.int w)), some (.s (.dT (gI .int T))), x, none, none, none]) (intsD 0 j) 0 [some (cupO a1 b1), some (fr (.int m)), some (fr (.str (ruleS bs))), some (fr (.int h)), some (fr (.int w)), some (.s (.dT [])), none, none, none, none] ⟨a1, b1, [], none, ha1, ⟨List.nodup_nil, (fun p hp => by cases hp), (fun p v hv => by cases hv)⟩, Nat.le_refl _, rfl⟩ fun i d η hd hI => by
    obtain ⟨a, b, T, x, ha, t, tl, rfl⟩ := hI
    have hi : i < j := by
      have := (List.getElem?_eq_some_iff.mp hd).1
      rw [len_ints] at this
      exact this
    obtain ⟨c, a1, b1, c0, c1, ha1, e1⟩ := r_roll (b := b) ha (m := bs.length - 1) (by omega) (by omega)
    obtain ⟨p, a2, b2, p0, p1, ha2, e2⟩ := r_roll (b := b1) ha1 (m := h) (by omega) (by omega)
    obtain ⟨q, a3, b3, q0, q1, ha3, e3⟩ := r_roll (b := b2) ha2 (m := w) (by omega) (by omega)
    have e4 : dPut (.dT (gI .int T)) (.tup [.int p, .int q]) (.int (1 + c)) = some (.dT (gI .int (putT T (p, q) (1 + c)))) := by
      show (if (gI D.int T).length < 16777216 then some (O1.dT (putT (gI .int T) (pk (p, q)) (.int (1 + c)))) else none) = _
      rw [len_gI, if_pos (by omega), putT_gI (f := D.int)]
    refine ⟨[some (cupO a b), some (fr (.int m)), some (fr (.str (ruleS bs))), some (fr (.int h)), some (fr (.int w)), some (.s (.dT (gI .int T))), some (fr d), none, none, none], [some (cupO a3 b3), some (fr (.int m)), some (fr (.str (ruleS bs))), some (fr (.int h)), some (fr (.int w)), some (.s (.dT (gI .int (putT T (p, q) (1 + c))))), some (fr d), none, none, none], by simp -implicitDefEqProofs -dsimp only [e_seq, e_skip, e_never, e_ret, e_n, e_c, e_d, e_do, e_nil, e_cons, e_op2, e_un, e_chain, e_b, e_not, e_and, e_or, e_andV, e_orV, e_notV, e_if, e_ifS, e_call, e_callN, e_callF, e_fz, e_tup, e_tupZ, e_lst, e_set, e_asg, e_put, e_get2, e_mut, e_mtr, e_for, e_iter, e_over, e_lc, e_yes, e_pno, e_po, e_cut, e_par2, e_par3, e_catN, e_newT, e_name, e_loc, e_take, e_move, e_gname, c_d, c_loc, k_loc, cs_nil', cs_cons', fz_fro, fz_lst, fz_dT, bnd_some, bnd_none, Option.bind_some, Option.bind_none, Option.map_some, Option.map_none, List.getElem?_cons_zero, List.getElem?_cons_succ, List.length_cons, List.length_nil, if_true, List.map_cons, List.map_nil, Nat.reduceSub, List.replicate_zero, List.replicate_succ, List.append_nil, List.cons_append, List.nil_append, List.set_cons_zero, List.set_cons_succ, Nat.reduceAdd, Nat.reduceLT, Nat.reduceLeDiff, argsO_nil, argsO_d, argsO_loc, locs_nil, locs_d, locs_loc, nodup_nil', nodup_one, backE_nil, backE_d, backE_loc, wipeE_nil, wipeE_cons, calmE_nil, calmE_none, restE_nil, restE_cons, keep_0, keep_1, keep_2, keep_3, keep_4, own_lst, own_dT, own_fro, ite_true', ite_false', reduceIte, Bool.not_true, Bool.not_false, Bool.false_eq_true, Option.join_some, List.head?_cons, List.tail_cons, set_loc, Option.getD_some, Option.getD_none, and_self, and_true, true_and, List.lookup, fr, Bool.true_and, Bool.false_and, Bool.and_true, Bool.and_false, Bool.and_self, Bool.true_or, Bool.false_or, Bool.or_true, Bool.or_false, e_fld, e_fldO, e_fldSet, e_gmFld, e_gmNil, e_gmCons, e_gmTup, e_gmKtup, e_meth, e_make, e_methT, c_fld, k_fld, set_fld, eq_self, cond_true, cond_false, true_or, or_true, false_or, or_false], .inl ?_, a3, b3, _, _, ha3, ⟨nodup_put t.nd, fun r hr => ?_, fun r v hv => ?_⟩, ?_, rfl⟩
    · simp -implicitDefEqProofs -dsimp only [e_seq, e_skip, e_never, e_ret, e_n, e_c, e_d, e_do, e_nil, e_cons, e_op2, e_un, e_chain, e_b, e_not, e_and, e_or, e_andV, e_orV, e_notV, e_if, e_ifS, e_call, e_callN, e_callF, e_fz, e_tup, e_tupZ, e_lst, e_set, e_asg, e_put, e_get2, e_mut, e_mtr, e_for, e_iter, e_over, e_lc, e_yes, e_pno, e_po, e_cut, e_par2, e_par3, e_catN, e_newT, e_name, e_loc, e_take, e_move, e_gname, c_d, c_loc, k_loc, cs_nil', cs_cons', fz_fro, fz_lst, fz_dT, bnd_some, bnd_none, Option.bind_some, Option.bind_none, Option.map_some, Option.map_none, List.getElem?_cons_zero, List.getElem?_cons_succ, List.length_cons, List.length_nil, if_true, List.map_cons, List.map_nil, Nat.reduceSub, List.replicate_zero, List.replicate_succ, List.append_nil, List.cons_append, List.nil_append, List.set_cons_zero, List.set_cons_succ, Nat.reduceAdd, Nat.reduceLT, Nat.reduceLeDiff, argsO_nil, argsO_d, argsO_loc, locs_nil, locs_d, locs_loc, nodup_nil', nodup_one, backE_nil, backE_d, backE_loc, wipeE_nil, wipeE_cons, calmE_nil, calmE_none, restE_nil, restE_cons, keep_0, keep_1, keep_2, keep_3, keep_4, own_lst, own_dT, own_fro, ite_true', ite_false', reduceIte, Bool.not_true, Bool.not_false, Bool.false_eq_true, Option.join_some, List.head?_cons, List.tail_cons, set_loc, Option.getD_some, Option.getD_none, and_self, and_true, true_and, List.lookup, fr, Bool.true_and, Bool.false_and, Bool.and_true, Bool.and_false, Bool.and_self, Bool.true_or, Bool.false_or, Bool.or_true, Bool.or_false, e_fld, e_fldO, e_fldSet, e_gmFld, e_gmNil, e_gmCons, e_gmTup, e_gmKtup, e_meth, e_make, e_methT, c_fld, k_fld, set_fld, eq_self, cond_true, cond_false, true_or, or_true, false_or, or_false, fb__law_ant_1, st__law_ant_3, len_rule n6, dSub_i, e1, dAdd_i, e2, e3, e4]
    · rw [keys_put] at hr
      split at hr
      · exact t.ks r hr
      · rcases List.mem_append.mp hr with hr | hr
        · exact t.ks r hr
        · rw [List.mem_singleton] at hr; subst hr; exact mem_cells.mpr ⟨⟨p0, p1⟩, q0, q1⟩
    · rw [look_put] at hv
      split at hv
      · cases hv; omega
      · exact t.vs r v hv
    · exact Nat.le_trans len_put (by omega)
  obtain ⟨η', e3, a2, b2, T, x, ha2, t, tl, rfl⟩ := key
  rw [len_ints] at tl
  refine ⟨a2, b2, T, x, ha2, t, by omega, ?_⟩
  simp -implicitDefEqProofs -dsimp only [e_seq, e_skip, e_never, e_ret, e_n, e_c, e_d, e_do, e_nil, e_cons, e_op2, e_un, e_chain, e_b, e_not, e_and, e_or, e_andV, e_orV, e_notV, e_if, e_ifS, e_call, e_callN, e_callF, e_fz, e_tup, e_tupZ, e_lst, e_set, e_asg, e_put, e_get2, e_mut, e_mtr, e_for, e_iter, e_over, e_lc, e_yes, e_pno, e_po, e_cut, e_par2, e_par3, e_catN, e_newT, e_name, e_loc, e_take, e_move, e_gname, c_d, c_loc, k_loc, cs_nil', cs_cons', fz_fro, fz_lst, fz_dT, bnd_some, bnd_none, Option.bind_some, Option.bind_none, Option.map_some, Option.map_none, List.getElem?_cons_zero, List.getElem?_cons_succ, List.length_cons, List.length_nil, if_true, List.map_cons, List.map_nil, Nat.reduceSub, List.replicate_zero, List.replicate_succ, List.append_nil, List.cons_append, List.nil_append, List.set_cons_zero, List.set_cons_succ, Nat.reduceAdd, Nat.reduceLT, Nat.reduceLeDiff, argsO_nil, argsO_d, argsO_loc, locs_nil, locs_d, locs_loc, nodup_nil', nodup_one, backE_nil, backE_d, backE_loc, wipeE_nil, wipeE_cons, calmE_nil, calmE_none, restE_nil, restE_cons, keep_0, keep_1, keep_2, keep_3, keep_4, own_lst, own_dT, own_fro, ite_true', ite_false', reduceIte, Bool.not_true, Bool.not_false, Bool.false_eq_true, Option.join_some, List.head?_cons, List.tail_cons, set_loc, Option.getD_some, Option.getD_none, and_self, and_true, true_and, List.lookup, fr, Bool.true_and, Bool.false_and, Bool.and_true, Bool.and_false, Bool.and_self, Bool.true_or, Bool.false_or, Bool.or_true, Bool.or_false, e_fld, e_fldO, e_fldSet, e_gmFld, e_gmNil, e_gmCons, e_gmTup, e_gmKtup, e_meth, e_make, e_methT, c_fld, k_fld, set_fld, eq_self, cond_true, cond_false, true_or, or_true, false_or, or_false, st__law_ant_4, e1, e2, e3]
/-- the ant that was built -/
def antOf (bs : List Bool) (h w : Nat) (r c d : Int) (T : List (Pt × Int)) : Ant := ⟨bs, h, w, r, c, d, fun p => (look T p).getD 0⟩
theorem ok_antOf {bs : List Bool} {h w : Nat} {r c d : Int} {T : List (Pt × Int)} (n2 : 2 ≤ bs.length) (n6 : bs.length ≤ 6) (h1 : 1 ≤ h) (h2 : h ≤ 20) (w1 : 1 ≤ w) (w2 : w ≤ 20) (r0 : 0 ≤ r) (r1 : r < h) (c0 : 0 ≤ c) (c1 : c < w) (d0 : 0 ≤ d) (d1 : d < 4) (t : Pnt bs h w T) : Ok (antOf bs h w r c d T) ∧ Tab (antOf bs h w r c d T) T := by
  refine ⟨⟨n2, n6, h1, h2, w1, w2, r0, r1, c0, c1, d0, d1, fun p => ?_, fun p => ?_, fun p hp => ?_⟩, t.nd, t.ks, fun p => ?_⟩
  · show 0 ≤ (look T p).getD 0
    cases q : look T p with
    | none => exact Int.le_refl _
    | some v => have := t.vs p v q; show 0 ≤ v; omega
  · show (look T p).getD 0 < bs.length
    cases q : look T p with
    | none => show (0 : Int) < _; omega
    | some v => exact (t.vs p v q).2
  · have hp : 0 < (look T p).getD 0 := hp
    cases q : look T p with
    | none => rw [q] at hp; exact absurd hp (by decide)
    | some v => exact t.ks p (look_some.mp ⟨v, q⟩)
  · show look T p = if 0 < (look T p).getD 0 then some ((look T p).getD 0) else none
    cases q : look T p with
    | none => rfl
    | some v =>
      have := t.vs p v q
      show some v = if 0 < v then some v else none
      rw [if_pos (by omega)]
theorem la6 {bs : List Bool} {h w : Nat} {r c : Int} {T : List (Pt × Int)} {x : Option O} (n2 : 2 ≤ bs.length) (n6 : bs.length ≤ 6) (ha : 0 ≤ a) (h1 : 1 ≤ h) (h2 : h ≤ 20) (w1 : 1 ≤ w) (w2 : w ≤ 20) (r0 : 0 ≤ r) (r1 : r < h) (c0 : 0 ≤ c) (c1 : c < w) (t : Pnt bs h w T) (tl : T.length ≤ 12) : ∃ A, ∃ a' b' : Int, ∃ η', Ok A ∧ 0 ≤ a' ∧ (pts A).length ≤ 12 ∧ st__law_ant_6 [some (cupO a b), some (fr (.int m)), some (fr (.str (ruleS bs))), some (fr (.int h)), some (fr (.int w)), some (.s (.dT (gI .int T))), x, some (fr (.tup [.int r, .int c])), none, none] = some (.rt (fr (antD A)), some (cupO a' b') :: some (fr (.int m)) :: η') := by
  obtain ⟨d, a1, b1, d0, d1, ha1, e1⟩ := r_roll (b := b) ha (m := 4) (by omega) (by omega)
  obtain ⟨hk, tb⟩ := ok_antOf (r := r) (c := c) (d := d) n2 n6 h1 h2 w1 w2 r0 r1 c0 c1 d0 d1 t
  have om := out_map hk tb
  have e2 := sorted_dT (f := D.int) t.nd (by omega)
  rw [om] at e2
  have pl : (pts (antOf bs h w r c d T)).length ≤ 12 := by
    rw [← om, (setSort_perm t.nd).length_eq, List.length_map]; exact tl
  refine ⟨antOf bs h w r c d T, a1, b1, [some (fr (.str (ruleS bs))), some (fr (.int h)), some (fr (.int w)), some (.s (.dT (gI .int T))), x, some (fr (.tup [.int r, .int c])), none, none], hk, ha1, pl, ?_⟩
  have lc : lcLoop [9] (gmName 9) mYes ce__law_ant_2 ((pts (antOf bs h w r c d T)).map VL.pairD) [some (cupO a1 b1), some (fr (.int m)), some (fr (.str (ruleS bs))), some (fr (.int h)), some (fr (.int w)), some (.s (.dT (gI .int T))), x, some (fr (.tup [.int r, .int c])), none, none] = some (pairsD .int (paintT (antOf bs h w r c d T)), [some (cupO a1 b1), some (fr (.int m)), some (fr (.str (ruleS bs))), some (fr (.int h)), some (fr (.int w)), some (.s (.dT (gI .int T))), x, some (fr (.tup [.int r, .int c])), none, none]) := by
    have := lc_all (own := [9]) (tm := gmName 9) (me := ce__law_ant_2) (η := [some (cupO a1 b1), some (fr (.int m)), some (fr (.str (ruleS bs))), some (fr (.int h)), some (fr (.int w)), some (.s (.dT (gI .int T))), x, some (fr (.tup [.int r, .int c])), none, none]) (fun d' => match d' with
      | .tup [.int x, .int y] => .tup [d', .int ((antOf bs h w r c d T).col (x, y))]
      | d' => d') ((pts (antOf bs h w r c d T)).map VL.pairD) fun d' hd => by
      obtain ⟨p, hp, rfl⟩ := List.mem_map.mp hd
      have hp := (mem_pts hk).mp hp
      have e2 : dIx (.dT (gI .int T)) (VL.pairD p) = some (.int ((antOf bs h w r c d T).col p)) := by
        show (some (getT (gI D.int T) (pk p))).bind id = _
        rw [getT_gI, tb.lk, if_pos hp]; rfl
      refine ⟨[some (cupO a1 b1), some (fr (.int m)), some (fr (.str (ruleS bs))), some (fr (.int h)), some (fr (.int w)), some (.s (.dT (gI .int T))), x, some (fr (.tup [.int r, .int c])), none, some (fr (VL.pairD p))], [some (cupO a1 b1), some (fr (.int m)), some (fr (.str (ruleS bs))), some (fr (.int h)), some (fr (.int w)), some (.s (.dT (gI .int T))), x, some (fr (.tup [.int r, .int c])), none, some (fr (VL.pairD p))], by simp -implicitDefEqProofs -dsimp only [e_seq, e_skip, e_never, e_ret, e_n, e_c, e_d, e_do, e_nil, e_cons, e_op2, e_un, e_chain, e_b, e_not, e_and, e_or, e_andV, e_orV, e_notV, e_if, e_ifS, e_call, e_callN, e_callF, e_fz, e_tup, e_tupZ, e_lst, e_set, e_asg, e_put, e_get2, e_mut, e_mtr, e_for, e_iter, e_over, e_lc, e_yes, e_pno, e_po, e_cut, e_par2, e_par3, e_catN, e_newT, e_name, e_loc, e_take, e_move, e_gname, c_d, c_loc, k_loc, cs_nil', cs_cons', fz_fro, fz_lst, fz_dT, bnd_some, bnd_none, Option.bind_some, Option.bind_none, Option.map_some, Option.map_none, List.getElem?_cons_zero, List.getElem?_cons_succ, List.length_cons, List.length_nil, if_true, List.map_cons, List.map_nil, Nat.reduceSub, List.replicate_zero, List.replicate_succ, List.append_nil, List.cons_append, List.nil_append, List.set_cons_zero, List.set_cons_succ, Nat.reduceAdd, Nat.reduceLT, Nat.reduceLeDiff, argsO_nil, argsO_d, argsO_loc, locs_nil, locs_d, locs_loc, nodup_nil', nodup_one, backE_nil, backE_d, backE_loc, wipeE_nil, wipeE_cons, calmE_nil, calmE_none, restE_nil, restE_cons, keep_0, keep_1, keep_2, keep_3, keep_4, own_lst, own_dT, own_fro, ite_true', ite_false', reduceIte, Bool.not_true, Bool.not_false, Bool.false_eq_true, Option.join_some, List.head?_cons, List.tail_cons, set_loc, Option.getD_some, Option.getD_none, and_self, and_true, true_and, List.lookup, fr, Bool.true_and, Bool.false_and, Bool.and_true, Bool.and_false, Bool.and_self, Bool.true_or, Bool.false_or, Bool.or_true, Bool.or_false, e_fld, e_fldO, e_fldSet, e_gmFld, e_gmNil, e_gmCons, e_gmTup, e_gmKtup, e_meth, e_make, e_methT, c_fld, k_fld, set_fld, eq_self, cond_true, cond_false, true_or, or_true, false_or, or_false], ?_, by simp -implicitDefEqProofs -dsimp only [e_seq, e_skip, e_never, e_ret, e_n, e_c, e_d, e_do, e_nil, e_cons, e_op2, e_un, e_chain, e_b, e_not, e_and, e_or, e_andV, e_orV, e_notV, e_if, e_ifS, e_call, e_callN, e_callF, e_fz, e_tup, e_tupZ, e_lst, e_set, e_asg, e_put, e_get2, e_mut, e_mtr, e_for, e_iter, e_over, e_lc, e_yes, e_pno, e_po, e_cut, e_par2, e_par3, e_catN, e_newT, e_name, e_loc, e_take, e_move, e_gname, c_d, c_loc, k_loc, cs_nil', cs_cons', fz_fro, fz_lst, fz_dT, bnd_some, bnd_none, Option.bind_some, Option.bind_none, Option.map_some, Option.map_none, List.getElem?_cons_zero, List.getElem?_cons_succ, List.length_cons, List.length_nil, if_true, List.map_cons, List.map_nil, Nat.reduceSub, List.replicate_zero, List.replicate_succ, List.append_nil, List.cons_append, List.nil_append, List.set_cons_zero, List.set_cons_succ, Nat.reduceAdd, Nat.reduceLT, Nat.reduceLeDiff, argsO_nil, argsO_d, argsO_loc, locs_nil, locs_d, locs_loc, nodup_nil', nodup_one, backE_nil, backE_d, backE_loc, wipeE_nil, wipeE_cons, calmE_nil, calmE_none, restE_nil, restE_cons, keep_0, keep_1, keep_2, keep_3, keep_4, own_lst, own_dT, own_fro, ite_true', ite_false', reduceIte, Bool.not_true, Bool.not_false, Bool.false_eq_true, Option.join_some, List.head?_cons, List.tail_cons, set_loc, Option.getD_some, Option.getD_none, and_self, and_true, true_and, List.lookup, fr, Bool.true_and, Bool.false_and, Bool.and_true, Bool.and_false, Bool.and_self, Bool.true_or, Bool.false_or, Bool.or_true, Bool.or_false, e_fld, e_fldO, e_fldSet, e_gmFld, e_gmNil, e_gmCons, e_gmTup, e_gmKtup, e_meth, e_make, e_methT, c_fld, k_fld, set_fld, eq_self, cond_true, cond_false, true_or, or_true, false_or, or_false]⟩
      simp -implicitDefEqProofs -dsimp only [e_seq, e_skip, e_never, e_ret, e_n, e_c, e_d, e_do, e_nil, e_cons, e_op2, e_un, e_chain, e_b, e_not, e_and, e_or, e_andV, e_orV, e_notV, e_if, e_ifS, e_call, e_callN, e_callF, e_fz, e_tup, e_tupZ, e_lst, e_set, e_asg, e_put, e_get2, e_mut, e_mtr, e_for, e_iter, e_over, e_lc, e_yes, e_pno, e_po, e_cut, e_par2, e_par3, e_catN, e_newT, e_name, e_loc, e_take, e_move, e_gname, c_d, c_loc, k_loc, cs_nil', cs_cons', fz_fro, fz_lst, fz_dT, bnd_some, bnd_none, Option.bind_some, Option.bind_none, Option.map_some, Option.map_none, List.getElem?_cons_zero, List.getElem?_cons_succ, List.length_cons, List.length_nil, if_true, List.map_cons, List.map_nil, Nat.reduceSub, List.replicate_zero, List.replicate_succ, List.append_nil, List.cons_append, List.nil_append, List.set_cons_zero, List.set_cons_succ, Nat.reduceAdd, Nat.reduceLT, Nat.reduceLeDiff, argsO_nil, argsO_d, argsO_loc, locs_nil, locs_d, locs_loc, nodup_nil', nodup_one, backE_nil, backE_d, backE_loc, wipeE_nil, wipeE_cons, calmE_nil, calmE_none, restE_nil, restE_cons, keep_0, keep_1, keep_2, keep_3, keep_4, own_lst, own_dT, own_fro, ite_true', ite_false', reduceIte, Bool.not_true, Bool.not_false, Bool.false_eq_true, Option.join_some, List.head?_cons, List.tail_cons, set_loc, Option.getD_some, Option.getD_none, and_self, and_true, true_and, List.lookup, fr, Bool.true_and, Bool.false_and, Bool.and_true, Bool.and_false, Bool.and_self, Bool.true_or, Bool.false_or, Bool.or_true, Bool.or_false, e_fld, e_fldO, e_fldSet, e_gmFld, e_gmNil, e_gmCons, e_gmTup, e_gmKtup, e_meth, e_make, e_methT, c_fld, k_fld, set_fld, eq_self, cond_true, cond_false, true_or, or_true, false_or, or_false, ce__law_ant_2, e2]
      rfl
    rw [this, List.map_map]
    unfold pairsD paintT
    rw [List.map_map]; rfl
  have sm : small ((pts (antOf bs h w r c d T)).map VL.pairD).length = true := small_of (by rw [List.length_map]; omega)
  simp -implicitDefEqProofs -dsimp only [e_seq, e_skip, e_never, e_ret, e_n, e_c, e_d, e_do, e_nil, e_cons, e_op2, e_un, e_chain, e_b, e_not, e_and, e_or, e_andV, e_orV, e_notV, e_if, e_ifS, e_call, e_callN, e_callF, e_fz, e_tup, e_tupZ, e_lst, e_set, e_asg, e_put, e_get2, e_mut, e_mtr, e_for, e_iter, e_over, e_lc, e_yes, e_pno, e_po, e_cut, e_par2, e_par3, e_catN, e_newT, e_name, e_loc, e_take, e_move, e_gname, c_d, c_loc, k_loc, cs_nil', cs_cons', fz_fro, fz_lst, fz_dT, bnd_some, bnd_none, Option.bind_some, Option.bind_none, Option.map_some, Option.map_none, List.getElem?_cons_zero, List.getElem?_cons_succ, List.length_cons, List.length_nil, if_true, List.map_cons, List.map_nil, Nat.reduceSub, List.replicate_zero, List.replicate_succ, List.append_nil, List.cons_append, List.nil_append, List.set_cons_zero, List.set_cons_succ, Nat.reduceAdd, Nat.reduceLT, Nat.reduceLeDiff, argsO_nil, argsO_d, argsO_loc, locs_nil, locs_d, locs_loc, nodup_nil', nodup_one, backE_nil, backE_d, backE_loc, wipeE_nil, wipeE_cons, calmE_nil, calmE_none, restE_nil, restE_cons, keep_0, keep_1, keep_2, keep_3, keep_4, own_lst, own_dT, own_fro, ite_true', ite_false', reduceIte, Bool.not_true, Bool.not_false, Bool.false_eq_true, Option.join_some, List.head?_cons, List.tail_cons, set_loc, Option.getD_some, Option.getD_none, and_self, and_true, true_and, List.lookup, fr, Bool.true_and, Bool.false_and, Bool.and_true, Bool.and_false, Bool.and_self, Bool.true_or, Bool.false_or, Bool.or_true, Bool.or_false, e_fld, e_fldO, e_fldSet, e_gmFld, e_gmNil, e_gmCons, e_gmTup, e_gmKtup, e_meth, e_make, e_methT, c_fld, k_fld, set_fld, eq_self, cond_true, cond_false, true_or, or_true, false_or, or_false, st__law_ant_6, e1, e2, itemsI, sm, lc, tupz_l]
  rfl
end
theorem r_law_ant {a b m : Int} (ha : 0 ≤ a) (m1 : 1 ≤ m) (m2 : m ≤ 20) : ∃ A, ∃ a' b' : Int, Ok A ∧ 0 ≤ a' ∧ (pts A).length ≤ 12 ∧ run__law_ant [cupO a b, fr (.int m)] = some (fr (antD A), [some (cupO a' b'), none]) := by
  obtain ⟨a1, b1, bs, ha1, n2, n6, e1⟩ := la1 (b := b) (m := m) ha
  obtain ⟨a2, b2, h, w, ha2, h1, h2, w1, w2, e2⟩ := la2 (b := b1) (m := m) (bs := bs) ha1 m1 m2
  obtain ⟨a3, b3, T, x, ha3, t, tl, e3⟩ := la4 (b := b2) (m := m) n2 n6 ha2 h1 (by omega) w1 (by omega)
  obtain ⟨r, a4, b4, r0, r1, ha4, e4⟩ := r_roll (b := b3) ha3 (m := h) (by omega) (by omega)
  obtain ⟨c, a5, b5, c0, c1, ha5, e5⟩ := r_roll (b := b4) ha4 (m := w) (by omega) (by omega)
  obtain ⟨A, a6, b6, η', hk, ha6, pl, e6⟩ := la6 (b := b5) (m := m) (x := x) n2 n6 ha5 h1 (by omega) w1 (by omega) r0 r1 c0 c1 t tl
  refine ⟨A, a6, b6, hk, ha6, pl, ?_⟩
  unfold run__law_ant fnRun m__law_ant
  simp -implicitDefEqProofs -dsimp only [e_seq, e_skip, e_never, e_ret, e_n, e_c, e_d, e_do, e_nil, e_cons, e_op2, e_un, e_chain, e_b, e_not, e_and, e_or, e_andV, e_orV, e_notV, e_if, e_ifS, e_call, e_callN, e_callF, e_fz, e_tup, e_tupZ, e_lst, e_set, e_asg, e_put, e_get2, e_mut, e_mtr, e_for, e_iter, e_over, e_lc, e_yes, e_pno, e_po, e_cut, e_par2, e_par3, e_catN, e_newT, e_name, e_loc, e_take, e_move, e_gname, c_d, c_loc, k_loc, cs_nil', cs_cons', fz_fro, fz_lst, fz_dT, bnd_some, bnd_none, Option.bind_some, Option.bind_none, Option.map_some, Option.map_none, List.getElem?_cons_zero, List.getElem?_cons_succ, List.length_cons, List.length_nil, if_true, List.map_cons, List.map_nil, Nat.reduceSub, List.replicate_zero, List.replicate_succ, List.append_nil, List.cons_append, List.nil_append, List.set_cons_zero, List.set_cons_succ, Nat.reduceAdd, Nat.reduceLT, Nat.reduceLeDiff, argsO_nil, argsO_d, argsO_loc, locs_nil, locs_d, locs_loc, nodup_nil', nodup_one, backE_nil, backE_d, backE_loc, wipeE_nil, wipeE_cons, calmE_nil, calmE_none, restE_nil, restE_cons, keep_0, keep_1, keep_2, keep_3, keep_4, own_lst, own_dT, own_fro, ite_true', ite_false', reduceIte, Bool.not_true, Bool.not_false, Bool.false_eq_true, Option.join_some, List.head?_cons, List.tail_cons, set_loc, Option.getD_some, Option.getD_none, and_self, and_true, true_and, List.lookup, fr, Bool.true_and, Bool.false_and, Bool.and_true, Bool.and_false, Bool.and_self, Bool.true_or, Bool.false_or, Bool.or_true, Bool.or_false, e_fld, e_fldO, e_fldSet, e_gmFld, e_gmNil, e_gmCons, e_gmTup, e_gmKtup, e_meth, e_make, e_methT, c_fld, k_fld, set_fld, eq_self, cond_true, cond_false, true_or, or_true, false_or, or_false, e1, e2, e3, st__law_ant_5, e4, e5, e6, List.mem_singleton]
  rfl
end K87
end
section
-- VLJ
set_option Elab.async false
set_option linter.all false
set_option maxRecDepth 100000
set_option maxHeartbeats 1000000
set_option autoImplicit false
namespace K87
open PySem PySem.Spec PyProof.Rows L2 VL
def ptA (A : Ant) : Pt := (A.r, A.c)
def walkP (A : Ant) (n : Nat) : List Pt := (List.range n).map fun j => ptA (steps A j)
theorem walk_len {A : Ant} {n : Nat} : (walkP A n).length = n := by unfold walkP; simp
theorem walk_succ {A : Ant} {n : Nat} : walkP A (n + 1) = walkP A n ++ [ptA (steps A n)] := by
  unfold walkP
  rw [List.range_succ, List.map_append]; rfl
theorem walk_take {A : Ant} {n : Nat} : (walkP A (n + 1)).take n = walkP A n := by
  rw [walk_succ]
  exact List.take_left' walk_len
theorem walk_at {A : Ant} {n i : Nat} (h : i < n) : (walkP A n)[i]? = some (ptA (steps A i)) := by
  unfold walkP
  rw [List.getElem?_map, List.getElem?_range h]; rfl
theorem cell_pt {A : Ant} : D.tup [.int A.r, .int A.c] = VL.pairD (ptA A) := rfl
theorem ant_need {A : Ant} (h : Ok A) : run_need_ant [fr (antD A)] = some (fr .non, [none]) := r_need_ant (k := 0) (same_antD h) (isAnt_antD h)
theorem r_trail {C : Addr} {A : Ant} (h : Ok A) {n : Nat} (hn : n ≤ 5000) : run_trail C [fr (antD A), fr (.int n)] = some (fr (.ktup ((walkP A (n + 1)).map VL.pairD)), [none, none]) := by
  have e1 := ant_need h
  have e2 := r_need_many (i := n) (a := 0) (b := 5000) (by omega) (by omega)
  have e3 := r_init (C := C) h
  obtain ⟨η', e4, T, x, t, rfl⟩ := loop_inv (tm := gmName 4) (body := fb_trail_1 C) (fun i η => ∃ T x, Tab (steps A i) T ∧ η = [some (fr (antD A)), some (fr (.int n)), some (.ins C (bx (steps A i) T)), some (.s (.lst ((walkP A (i + 1)).map VL.pairD))), x]) (intsD 0 n) 0 [some (fr (antD A)), some (fr (.int n)), some (.ins C (bx A (paintT A))), some (.s (.lst [.tup [.int A.r, .int A.c]])), none] ⟨paintT A, none, tab_paint h, rfl⟩ fun i d η hd hI => by
    obtain ⟨T, x, t, rfl⟩ := hI
    have hi : i < n := by
      have := (List.getElem?_eq_some_iff.mp hd).1
      rw [len_ints] at this; exact this
    rw [Nat.zero_add] at t ⊢
    obtain ⟨T', t', e⟩ := r_step (C := C) (ok_steps h i) t
    have ea : dAppend (.lst ((walkP A (i + 1)).map VL.pairD)) [.tup [.int (stepA (steps A i)).r, .int (stepA (steps A i)).c]] = some (.non, .lst ((walkP A (i + 1 + 1)).map VL.pairD)) := by
      show (if ((walkP A (i + 1)).map VL.pairD).length < 16777216 then some (D.non, O1.lst ((walkP A (i + 1)).map VL.pairD ++ [VL.pairD (ptA (steps A (i + 1)))])) else none) = _
      rw [if_pos (by rw [List.length_map, walk_len]; omega), walk_succ (n := i + 1), List.map_append]; rfl
    refine ⟨[some (fr (antD A)), some (fr (.int n)), some (.ins C (bx (steps A i) T)), some (.s (.lst ((walkP A (i + 1)).map VL.pairD))), some (fr d)], [some (fr (antD A)), some (fr (.int n)), some (.ins C (bx (stepA (steps A i)) T')), some (.s (.lst ((walkP A (i + 1 + 1)).map VL.pairD))), some (fr d)], by simp -implicitDefEqProofs -dsimp only [e_seq, e_skip, e_never, e_ret, e_n, e_c, e_d, e_do, e_nil, e_cons, e_op2, e_un, e_chain, e_b, e_not, e_and, e_or, e_andV, e_orV, e_notV, e_if, e_ifS, e_call, e_callN, e_callF, e_fz, e_tup, e_tupZ, e_lst, e_set, e_asg, e_put, e_get2, e_mut, e_mtr, e_for, e_iter, e_over, e_lc, e_yes, e_pno, e_po, e_cut, e_par2, e_par3, e_catN, e_newT, e_name, e_loc, e_take, e_move, e_gname, c_d, c_loc, k_loc, cs_nil', cs_cons', fz_fro, fz_lst, fz_dT, bnd_some, bnd_none, Option.bind_some, Option.bind_none, Option.map_some, Option.map_none, List.getElem?_cons_zero, List.getElem?_cons_succ, List.length_cons, List.length_nil, if_true, List.map_cons, List.map_nil, Nat.reduceSub, List.replicate_zero, List.replicate_succ, List.append_nil, List.cons_append, List.nil_append, List.set_cons_zero, List.set_cons_succ, Nat.reduceAdd, Nat.reduceLT, Nat.reduceLeDiff, argsO_nil, argsO_d, argsO_loc, locs_nil, locs_d, locs_loc, nodup_nil', nodup_one, backE_nil, backE_d, backE_loc, wipeE_nil, wipeE_cons, calmE_nil, calmE_none, restE_nil, restE_cons, keep_0, keep_1, keep_2, keep_3, keep_4, own_lst, own_dT, own_fro, ite_true', ite_false', reduceIte, Bool.not_true, Bool.not_false, Bool.false_eq_true, Option.join_some, List.head?_cons, List.tail_cons, set_loc, Option.getD_some, Option.getD_none, and_self, and_true, true_and, List.lookup, fr, Bool.true_and, Bool.false_and, Bool.and_true, Bool.and_false, Bool.and_self, Bool.true_or, Bool.false_or, Bool.or_true, Bool.or_false, e_fld, e_fldO, e_fldSet, e_gmFld, e_gmNil, e_gmCons, e_gmTup, e_gmKtup, e_meth, e_make, e_methT, c_fld, k_fld, set_fld, eq_self, cond_true, cond_false, true_or, or_true, false_or, or_false, e_lc2], .inl ?_, T', some (fr d), t', rfl⟩
    simp -implicitDefEqProofs -dsimp only [e_seq, e_skip, e_never, e_ret, e_n, e_c, e_d, e_do, e_nil, e_cons, e_op2, e_un, e_chain, e_b, e_not, e_and, e_or, e_andV, e_orV, e_notV, e_if, e_ifS, e_call, e_callN, e_callF, e_fz, e_tup, e_tupZ, e_lst, e_set, e_asg, e_put, e_get2, e_mut, e_mtr, e_for, e_iter, e_over, e_lc, e_yes, e_pno, e_po, e_cut, e_par2, e_par3, e_catN, e_newT, e_name, e_loc, e_take, e_move, e_gname, c_d, c_loc, k_loc, cs_nil', cs_cons', fz_fro, fz_lst, fz_dT, bnd_some, bnd_none, Option.bind_some, Option.bind_none, Option.map_some, Option.map_none, List.getElem?_cons_zero, List.getElem?_cons_succ, List.length_cons, List.length_nil, if_true, List.map_cons, List.map_nil, Nat.reduceSub, List.replicate_zero, List.replicate_succ, List.append_nil, List.cons_append, List.nil_append, List.set_cons_zero, List.set_cons_succ, Nat.reduceAdd, Nat.reduceLT, Nat.reduceLeDiff, argsO_nil, argsO_d, argsO_loc, locs_nil, locs_d, locs_loc, nodup_nil', nodup_one, backE_nil, backE_d, backE_loc, wipeE_nil, wipeE_cons, calmE_nil, calmE_none, restE_nil, restE_cons, keep_0, keep_1, keep_2, keep_3, keep_4, own_lst, own_dT, own_fro, ite_true', ite_false', reduceIte, Bool.not_true, Bool.not_false, Bool.false_eq_true, Option.join_some, List.head?_cons, List.tail_cons, set_loc, Option.getD_some, Option.getD_none, and_self, and_true, true_and, List.lookup, fr, Bool.true_and, Bool.false_and, Bool.and_true, Bool.and_false, Bool.and_self, Bool.true_or, Bool.false_or, Bool.or_true, Bool.or_false, e_fld, e_fldO, e_fldSet, e_gmFld, e_gmNil, e_gmCons, e_gmTup, e_gmKtup, e_meth, e_make, e_methT, c_fld, k_fld, set_fld, eq_self, cond_true, cond_false, true_or, or_true, false_or, or_false, e_lc2, fb_trail_1, b_step, e, st_trail_4, b_cell, ea, show ∀ xs, kindT "list" (.lst xs) = true from fun _ => rfl]
  rw [len_ints, Nat.zero_add] at e4
  have e5 := range_n (n := n) (by omega)
  unfold run_trail fnRun m_trail
  simp -implicitDefEqProofs -dsimp only [e_seq, e_skip, e_never, e_ret, e_n, e_c, e_d, e_do, e_nil, e_cons, e_op2, e_un, e_chain, e_b, e_not, e_and, e_or, e_andV, e_orV, e_notV, e_if, e_ifS, e_call, e_callN, e_callF, e_fz, e_tup, e_tupZ, e_lst, e_set, e_asg, e_put, e_get2, e_mut, e_mtr, e_for, e_iter, e_over, e_lc, e_yes, e_pno, e_po, e_cut, e_par2, e_par3, e_catN, e_newT, e_name, e_loc, e_take, e_move, e_gname, c_d, c_loc, k_loc, cs_nil', cs_cons', fz_fro, fz_lst, fz_dT, bnd_some, bnd_none, Option.bind_some, Option.bind_none, Option.map_some, Option.map_none, List.getElem?_cons_zero, List.getElem?_cons_succ, List.length_cons, List.length_nil, if_true, List.map_cons, List.map_nil, Nat.reduceSub, List.replicate_zero, List.replicate_succ, List.append_nil, List.cons_append, List.nil_append, List.set_cons_zero, List.set_cons_succ, Nat.reduceAdd, Nat.reduceLT, Nat.reduceLeDiff, argsO_nil, argsO_d, argsO_loc, locs_nil, locs_d, locs_loc, nodup_nil', nodup_one, backE_nil, backE_d, backE_loc, wipeE_nil, wipeE_cons, calmE_nil, calmE_none, restE_nil, restE_cons, keep_0, keep_1, keep_2, keep_3, keep_4, own_lst, own_dT, own_fro, ite_true', ite_false', reduceIte, Bool.not_true, Bool.not_false, Bool.false_eq_true, Option.join_some, List.head?_cons, List.tail_cons, set_loc, Option.getD_some, Option.getD_none, and_self, and_true, true_and, List.lookup, fr, Bool.true_and, Bool.false_and, Bool.and_true, Bool.and_false, Bool.and_self, Bool.true_or, Bool.false_or, Bool.or_true, Bool.or_false, e_fld, e_fldO, e_fldSet, e_gmFld, e_gmNil, e_gmCons, e_gmTup, e_gmKtup, e_meth, e_make, e_methT, c_fld, k_fld, set_fld, eq_self, cond_true, cond_false, true_or, or_true, false_or, or_false, e_lc2, st_trail_1, st_trail_2, st_trail_3, st_trail_5, e1, e2, e3, List.take_succ_cons, List.take_zero, b_cell, e5, e4, tupz_l, List.mem_nil_iff]
def visP (ps : List Pt) : List (Pt × Int) := (setSort ps).map fun p => (p, ((ps.count p : Nat) : Int))
def visD (ps : List Pt) : D := .ktup (pairsD .int (visP ps))
theorem vis_keys {ps : List Pt} : (visP ps).map (·.1) = setSort ps := by
  unfold visP
  rw [List.map_map]
  exact List.map_id _
theorem setSort_len {T : List (Pt × Int)} {ps : List Pt} (t : Tly T ps) : (setSort ps).length ≤ ps.length := by
  rw [← tly_sort t, (setSort_perm t.nd).length_eq, List.length_map]; exact t.ln
theorem kd_T {T : List (List Key × D)} : kindT "dict" (.dT T) = true := rfl
theorem r_visits {C : Addr} {A : Ant} (h : Ok A) {n : Nat} (hn : n ≤ 5000) : run_visits C [fr (antD A), fr (.int n)] = some (fr (visD (walkP A n)), [none, none]) ∧ (setSort (walkP A n)).length ≤ n := by
  have e1 := r_trail (C := C) h hn
  have e2 : dCut (.ktup ((walkP A (n + 1)).map VL.pairD)) none (some (n : Int)) = some (.tup ((walkP A n).map VL.pairD)) := by
    rw [dCut_k_to (by rw [List.length_map, walk_len]; omega), ← List.map_take, walk_take]
  obtain ⟨η', e3, T, x, t, hx, rfl⟩ := loop_inv (tm := gmName 4) (body := fb_visits_1 C) (fun i η => ∃ T x, Tly T ((walkP A n).take i) ∧ (x = none ∨ ∃ d, x = some (fr d)) ∧ η = [some (fr (antD A)), some (fr (.int n)), some (fr (.tup ((walkP A n).map VL.pairD))), some (.s (.dT (gI .int T))), x]) ((walkP A n).map VL.pairD) 0 [some (fr (antD A)), some (fr (.int n)), some (fr (.tup ((walkP A n).map VL.pairD))), some (.s (.dT [])), none] ⟨[], none, by rw [List.take_zero]; exact tly_nil, .inl rfl, rfl⟩ fun i d η hd hI => by
    obtain ⟨T, x, t, _, rfl⟩ := hI
    rw [Nat.zero_add] at t ⊢
    rw [List.getElem?_map] at hd
    obtain ⟨p, hp, rfl⟩ := Option.map_eq_some_iff.mp hd
    have tl := t.ln
    rw [List.length_take, walk_len] at tl
    have e4 := put_gI (T := T) (p := p) (v := (((walkP A n).take i).count p : Nat) + 1) (by omega)
    refine ⟨[some (fr (antD A)), some (fr (.int n)), some (fr (.tup ((walkP A n).map VL.pairD))), some (.s (.dT (gI .int T))), some (fr (VL.pairD p))], [some (fr (antD A)), some (fr (.int n)), some (fr (.tup ((walkP A n).map VL.pairD))), some (.s (.dT (gI .int (putT T p ((((walkP A n).take i).count p : Nat) + 1))))), some (fr (VL.pairD p))], by simp -implicitDefEqProofs -dsimp only [e_seq, e_skip, e_never, e_ret, e_n, e_c, e_d, e_do, e_nil, e_cons, e_op2, e_un, e_chain, e_b, e_not, e_and, e_or, e_andV, e_orV, e_notV, e_if, e_ifS, e_call, e_callN, e_callF, e_fz, e_tup, e_tupZ, e_lst, e_set, e_asg, e_put, e_get2, e_mut, e_mtr, e_for, e_iter, e_over, e_lc, e_yes, e_pno, e_po, e_cut, e_par2, e_par3, e_catN, e_newT, e_name, e_loc, e_take, e_move, e_gname, c_d, c_loc, k_loc, cs_nil', cs_cons', fz_fro, fz_lst, fz_dT, bnd_some, bnd_none, Option.bind_some, Option.bind_none, Option.map_some, Option.map_none, List.getElem?_cons_zero, List.getElem?_cons_succ, List.length_cons, List.length_nil, if_true, List.map_cons, List.map_nil, Nat.reduceSub, List.replicate_zero, List.replicate_succ, List.append_nil, List.cons_append, List.nil_append, List.set_cons_zero, List.set_cons_succ, Nat.reduceAdd, Nat.reduceLT, Nat.reduceLeDiff, argsO_nil, argsO_d, argsO_loc, locs_nil, locs_d, locs_loc, nodup_nil', nodup_one, backE_nil, backE_d, backE_loc, wipeE_nil, wipeE_cons, calmE_nil, calmE_none, restE_nil, restE_cons, keep_0, keep_1, keep_2, keep_3, keep_4, own_lst, own_dT, own_fro, ite_true', ite_false', reduceIte, Bool.not_true, Bool.not_false, Bool.false_eq_true, Option.join_some, List.head?_cons, List.tail_cons, set_loc, Option.getD_some, Option.getD_none, and_self, and_true, true_and, List.lookup, fr, Bool.true_and, Bool.false_and, Bool.and_true, Bool.and_false, Bool.and_self, Bool.true_or, Bool.false_or, Bool.or_true, Bool.or_false, e_fld, e_fldO, e_fldSet, e_gmFld, e_gmNil, e_gmCons, e_gmTup, e_gmKtup, e_meth, e_make, e_methT, c_fld, k_fld, set_fld, eq_self, cond_true, cond_false, true_or, or_true, false_or, or_false, e_lc2], .inl ?_, _, some (fr (VL.pairD p)), ?_, .inr ⟨_, rfl⟩, rfl⟩
    · simp -implicitDefEqProofs -dsimp only [e_seq, e_skip, e_never, e_ret, e_n, e_c, e_d, e_do, e_nil, e_cons, e_op2, e_un, e_chain, e_b, e_not, e_and, e_or, e_andV, e_orV, e_notV, e_if, e_ifS, e_call, e_callN, e_callF, e_fz, e_tup, e_tupZ, e_lst, e_set, e_asg, e_put, e_get2, e_mut, e_mtr, e_for, e_iter, e_over, e_lc, e_yes, e_pno, e_po, e_cut, e_par2, e_par3, e_catN, e_newT, e_name, e_loc, e_take, e_move, e_gname, c_d, c_loc, k_loc, cs_nil', cs_cons', fz_fro, fz_lst, fz_dT, bnd_some, bnd_none, Option.bind_some, Option.bind_none, Option.map_some, Option.map_none, List.getElem?_cons_zero, List.getElem?_cons_succ, List.length_cons, List.length_nil, if_true, List.map_cons, List.map_nil, Nat.reduceSub, List.replicate_zero, List.replicate_succ, List.append_nil, List.cons_append, List.nil_append, List.set_cons_zero, List.set_cons_succ, Nat.reduceAdd, Nat.reduceLT, Nat.reduceLeDiff, argsO_nil, argsO_d, argsO_loc, locs_nil, locs_d, locs_loc, nodup_nil', nodup_one, backE_nil, backE_d, backE_loc, wipeE_nil, wipeE_cons, calmE_nil, calmE_none, restE_nil, restE_cons, keep_0, keep_1, keep_2, keep_3, keep_4, own_lst, own_dT, own_fro, ite_true', ite_false', reduceIte, Bool.not_true, Bool.not_false, Bool.false_eq_true, Option.join_some, List.head?_cons, List.tail_cons, set_loc, Option.getD_some, Option.getD_none, and_self, and_true, true_and, List.lookup, fr, Bool.true_and, Bool.false_and, Bool.and_true, Bool.and_false, Bool.and_self, Bool.true_or, Bool.false_or, Bool.or_true, Bool.or_false, e_fld, e_fldO, e_fldSet, e_gmFld, e_gmNil, e_gmCons, e_gmTup, e_gmKtup, e_meth, e_make, e_methT, c_fld, k_fld, set_fld, eq_self, cond_true, cond_false, true_or, or_true, false_or, or_false, e_lc2, fb_visits_1, st_visits_2, isDict_T, dLook_pair, tly_get2 t, dAdd_i, e4]
    · rw [VL.take_next hp]; exact tly_add t p
  rw [List.length_map, walk_len, Nat.zero_add, List.take_of_length_le (by rw [walk_len]; exact Nat.le_refl _)] at t
  refine ⟨?_, by have := setSort_len t; rwa [walk_len] at this⟩
  have tl := t.ln
  rw [walk_len] at tl
  have e5 := sorted_dT (f := D.int) t.nd (by omega)
  rw [tly_sort t] at e5
  have lc : lcLoop [4] (gmName 4) mYes (ce_visits_1 C) ((setSort (walkP A n)).map VL.pairD) [some (fr (antD A)), some (fr (.int n)), some (fr (.tup ((walkP A n).map VL.pairD))), some (.s (.dT (gI .int T))), none] = some (pairsD .int (visP (walkP A n)), [some (fr (antD A)), some (fr (.int n)), some (fr (.tup ((walkP A n).map VL.pairD))), some (.s (.dT (gI .int T))), none]) := by
    have := lc_all (own := [4]) (tm := gmName 4) (me := ce_visits_1 C) (η := [some (fr (antD A)), some (fr (.int n)), some (fr (.tup ((walkP A n).map VL.pairD))), some (.s (.dT (gI .int T))), none]) (fun d => match d with
      | .tup [.int x, .int y] => .tup [d, .int (((walkP A n).count (x, y) : Nat) : Int)]
      | d => d) ((setSort (walkP A n)).map VL.pairD) fun d hd => by
      obtain ⟨p, hp, rfl⟩ := List.mem_map.mp hd
      have e2 := tly_ix t (mem_setSort.mp hp)
      refine ⟨[some (fr (antD A)), some (fr (.int n)), some (fr (.tup ((walkP A n).map VL.pairD))), some (.s (.dT (gI .int T))), some (fr (VL.pairD p))], [some (fr (antD A)), some (fr (.int n)), some (fr (.tup ((walkP A n).map VL.pairD))), some (.s (.dT (gI .int T))), some (fr (VL.pairD p))], by simp -implicitDefEqProofs -dsimp only [e_seq, e_skip, e_never, e_ret, e_n, e_c, e_d, e_do, e_nil, e_cons, e_op2, e_un, e_chain, e_b, e_not, e_and, e_or, e_andV, e_orV, e_notV, e_if, e_ifS, e_call, e_callN, e_callF, e_fz, e_tup, e_tupZ, e_lst, e_set, e_asg, e_put, e_get2, e_mut, e_mtr, e_for, e_iter, e_over, e_lc, e_yes, e_pno, e_po, e_cut, e_par2, e_par3, e_catN, e_newT, e_name, e_loc, e_take, e_move, e_gname, c_d, c_loc, k_loc, cs_nil', cs_cons', fz_fro, fz_lst, fz_dT, bnd_some, bnd_none, Option.bind_some, Option.bind_none, Option.map_some, Option.map_none, List.getElem?_cons_zero, List.getElem?_cons_succ, List.length_cons, List.length_nil, if_true, List.map_cons, List.map_nil, Nat.reduceSub, List.replicate_zero, List.replicate_succ, List.append_nil, List.cons_append, List.nil_append, List.set_cons_zero, List.set_cons_succ, Nat.reduceAdd, Nat.reduceLT, Nat.reduceLeDiff, argsO_nil, argsO_d, argsO_loc, locs_nil, locs_d, locs_loc, nodup_nil', nodup_one, backE_nil, backE_d, backE_loc, wipeE_nil, wipeE_cons, calmE_nil, calmE_none, restE_nil, restE_cons, keep_0, keep_1, keep_2, keep_3, keep_4, own_lst, own_dT, own_fro, ite_true', ite_false', reduceIte, Bool.not_true, Bool.not_false, Bool.false_eq_true, Option.join_some, List.head?_cons, List.tail_cons, set_loc, Option.getD_some, Option.getD_none, and_self, and_true, true_and, List.lookup, fr, Bool.true_and, Bool.false_and, Bool.and_true, Bool.and_false, Bool.and_self, Bool.true_or, Bool.false_or, Bool.or_true, Bool.or_false, e_fld, e_fldO, e_fldSet, e_gmFld, e_gmNil, e_gmCons, e_gmTup, e_gmKtup, e_meth, e_make, e_methT, c_fld, k_fld, set_fld, eq_self, cond_true, cond_false, true_or, or_true, false_or, or_false, e_lc2], ?_, by simp -implicitDefEqProofs -dsimp only [e_seq, e_skip, e_never, e_ret, e_n, e_c, e_d, e_do, e_nil, e_cons, e_op2, e_un, e_chain, e_b, e_not, e_and, e_or, e_andV, e_orV, e_notV, e_if, e_ifS, e_call, e_callN, e_callF, e_fz, e_tup, e_tupZ, e_lst, e_set, e_asg, e_put, e_get2, e_mut, e_mtr, e_for, e_iter, e_over, e_lc, e_yes, e_pno, e_po, e_cut, e_par2, e_par3, e_catN, e_newT, e_name, e_loc, e_take, e_move, e_gname, c_d, c_loc, k_loc, cs_nil', cs_cons', fz_fro, fz_lst, fz_dT, bnd_some, bnd_none, Option.bind_some, Option.bind_none, Option.map_some, Option.map_none, List.getElem?_cons_zero, List.getElem?_cons_succ, List.length_cons, List.length_nil, if_true, List.map_cons, List.map_nil, Nat.reduceSub, List.replicate_zero, List.replicate_succ, List.append_nil, List.cons_append, List.nil_append, List.set_cons_zero, List.set_cons_succ, Nat.reduceAdd, Nat.reduceLT, Nat.reduceLeDiff, argsO_nil, argsO_d, argsO_loc, locs_nil, locs_d, locs_loc, nodup_nil', nodup_one, backE_nil, backE_d, backE_loc, wipeE_nil, wipeE_cons, calmE_nil, calmE_none, restE_nil, restE_cons, keep_0, keep_1, keep_2, keep_3, keep_4, own_lst, own_dT, own_fro, ite_true', ite_false', reduceIte, Bool.not_true, Bool.not_false, Bool.false_eq_true, Option.join_some, List.head?_cons, List.tail_cons, set_loc, Option.getD_some, Option.getD_none, and_self, and_true, true_and, List.lookup, fr, Bool.true_and, Bool.false_and, Bool.and_true, Bool.and_false, Bool.and_self, Bool.true_or, Bool.false_or, Bool.or_true, Bool.or_false, e_fld, e_fldO, e_fldSet, e_gmFld, e_gmNil, e_gmCons, e_gmTup, e_gmKtup, e_meth, e_make, e_methT, c_fld, k_fld, set_fld, eq_self, cond_true, cond_false, true_or, or_true, false_or, or_false, e_lc2]⟩
      simp -implicitDefEqProofs -dsimp only [e_seq, e_skip, e_never, e_ret, e_n, e_c, e_d, e_do, e_nil, e_cons, e_op2, e_un, e_chain, e_b, e_not, e_and, e_or, e_andV, e_orV, e_notV, e_if, e_ifS, e_call, e_callN, e_callF, e_fz, e_tup, e_tupZ, e_lst, e_set, e_asg, e_put, e_get2, e_mut, e_mtr, e_for, e_iter, e_over, e_lc, e_yes, e_pno, e_po, e_cut, e_par2, e_par3, e_catN, e_newT, e_name, e_loc, e_take, e_move, e_gname, c_d, c_loc, k_loc, cs_nil', cs_cons', fz_fro, fz_lst, fz_dT, bnd_some, bnd_none, Option.bind_some, Option.bind_none, Option.map_some, Option.map_none, List.getElem?_cons_zero, List.getElem?_cons_succ, List.length_cons, List.length_nil, if_true, List.map_cons, List.map_nil, Nat.reduceSub, List.replicate_zero, List.replicate_succ, List.append_nil, List.cons_append, List.nil_append, List.set_cons_zero, List.set_cons_succ, Nat.reduceAdd, Nat.reduceLT, Nat.reduceLeDiff, argsO_nil, argsO_d, argsO_loc, locs_nil, locs_d, locs_loc, nodup_nil', nodup_one, backE_nil, backE_d, backE_loc, wipeE_nil, wipeE_cons, calmE_nil, calmE_none, restE_nil, restE_cons, keep_0, keep_1, keep_2, keep_3, keep_4, own_lst, own_dT, own_fro, ite_true', ite_false', reduceIte, Bool.not_true, Bool.not_false, Bool.false_eq_true, Option.join_some, List.head?_cons, List.tail_cons, set_loc, Option.getD_some, Option.getD_none, and_self, and_true, true_and, List.lookup, fr, Bool.true_and, Bool.false_and, Bool.and_true, Bool.and_false, Bool.and_self, Bool.true_or, Bool.false_or, Bool.or_true, Bool.or_false, e_fld, e_fldO, e_fldSet, e_gmFld, e_gmNil, e_gmCons, e_gmTup, e_gmKtup, e_meth, e_make, e_methT, c_fld, k_fld, set_fld, eq_self, cond_true, cond_false, true_or, or_true, false_or, or_false, e_lc2, ce_visits_1, e2]
      rfl
    rw [this, List.map_map]
    unfold pairsD visP
    rw [List.map_map]; rfl
  have sm : small ((setSort (walkP A n)).map VL.pairD).length = true := small_of (by
    rw [List.length_map]; have := setSort_len t; rw [walk_len] at this; omega)
  unfold run_visits fnRun m_visits
  rcases hx with rfl | ⟨o, rfl⟩ <;>
  (simp -implicitDefEqProofs -dsimp only [e_seq, e_skip, e_never, e_ret, e_n, e_c, e_d, e_do, e_nil, e_cons, e_op2, e_un, e_chain, e_b, e_not, e_and, e_or, e_andV, e_orV, e_notV, e_if, e_ifS, e_call, e_callN, e_callF, e_fz, e_tup, e_tupZ, e_lst, e_set, e_asg, e_put, e_get2, e_mut, e_mtr, e_for, e_iter, e_over, e_lc, e_yes, e_pno, e_po, e_cut, e_par2, e_par3, e_catN, e_newT, e_name, e_loc, e_take, e_move, e_gname, c_d, c_loc, k_loc, cs_nil', cs_cons', fz_fro, fz_lst, fz_dT, bnd_some, bnd_none, Option.bind_some, Option.bind_none, Option.map_some, Option.map_none, List.getElem?_cons_zero, List.getElem?_cons_succ, List.length_cons, List.length_nil, if_true, List.map_cons, List.map_nil, Nat.reduceSub, List.replicate_zero, List.replicate_succ, List.append_nil, List.cons_append, List.nil_append, List.set_cons_zero, List.set_cons_succ, Nat.reduceAdd, Nat.reduceLT, Nat.reduceLeDiff, argsO_nil, argsO_d, argsO_loc, locs_nil, locs_d, locs_loc, nodup_nil', nodup_one, backE_nil, backE_d, backE_loc, wipeE_nil, wipeE_cons, calmE_nil, calmE_none, restE_nil, restE_cons, keep_0, keep_1, keep_2, keep_3, keep_4, own_lst, own_dT, own_fro, ite_true', ite_false', reduceIte, Bool.not_true, Bool.not_false, Bool.false_eq_true, Option.join_some, List.head?_cons, List.tail_cons, set_loc, Option.getD_some, Option.getD_none, and_self, and_true, true_and, List.lookup, fr, Bool.true_and, Bool.false_and, Bool.and_true, Bool.and_false, Bool.and_self, Bool.true_or, Bool.false_or, Bool.or_true, Bool.or_false, e_fld, e_fldO, e_fldSet, e_gmFld, e_gmNil, e_gmCons, e_gmTup, e_gmKtup, e_meth, e_make, e_methT, c_fld, k_fld, set_fld, eq_self, cond_true, cond_false, true_or, or_true, false_or, or_false, e_lc2, st_visits_1, st_visits_3, e1, e2, items_of (d := .tup ((walkP A n).map VL.pairD)) rfl, e3, e5, itemsI, sm, lc, tupz_l, List.mem_nil_iff]
   rfl)
/-! ### turns -/
def rightN (A : Ant) (n : Nat) : Nat := ((List.range n).filter fun j => bit (steps A j) (here0 (steps A j))).length
theorem right_succ {A : Ant} {n : Nat} : (rightN A (n + 1) : Int) = rightN A n + if bit (steps A n) (here0 (steps A n)) then 1 else 0 := by
  unfold rightN
  rw [List.range_succ, List.filter_append, List.length_append]
  cases h : bit (steps A n) (here0 (steps A n)) <;> simp [h]
theorem steps_bs {A : Ant} : ∀ n, (steps A n).bs = A.bs
  | 0 => rfl
  | n + 1 => steps_bs n
theorem r_turns {C : Addr} {A : Ant} (h : Ok A) {n : Nat} (hn : n ≤ 5000) : run_turns_taken C [fr (antD A), fr (.int n)] = some (fr (.tup [.int ((n : Int) - rightN A n), .int (rightN A n)]), [none, none]) := by
  have e1 := ant_need h
  have e2 := r_need_many (i := n) (a := 0) (b := 5000) (by omega) (by omega)
  have e3 := r_init (C := C) h
  obtain ⟨η', e4, T, x, t, rfl⟩ := loop_inv (tm := gmName 4) (body := fb_turns_taken_1 C) (fun i η => ∃ T x, Tab (steps A i) T ∧ η = [some (fr (antD A)), some (fr (.int n)), some (.ins C (bx (steps A i) T)), some (fr (.int (rightN A i))), x]) (intsD 0 n) 0 [some (fr (antD A)), some (fr (.int n)), some (.ins C (bx A (paintT A))), some (fr (.int 0)), none] ⟨paintT A, none, tab_paint h, rfl⟩ fun i d η hd hI => by
    obtain ⟨T, x, t, rfl⟩ := hI
    rw [Nat.zero_add] at t ⊢
    have hB := ok_steps h i
    obtain ⟨T', t', e⟩ := r_step (C := C) hB t
    have hk0 : 0 ≤ here0 (steps A i) := hB.k0 _
    have hk1 : here0 (steps A i) < (steps A i).bs.length := hB.k1 _
    have r1 := rule_at hk0 hk1 hB.n6
    rw [show (steps A i).bs.getD (here0 (steps A i)).toNat false = bit (steps A i) (here0 (steps A i)) from rfl] at r1
    have rs := right_succ (A := A) (n := i)
    generalize bit (steps A i) (here0 (steps A i)) = b at r1 rs
    refine ⟨[some (fr (antD A)), some (fr (.int n)), some (.ins C (bx (steps A i) T)), some (fr (.int (rightN A i))), some (fr d)], [some (fr (antD A)), some (fr (.int n)), some (.ins C (bx (stepA (steps A i)) T')), some (fr (.int (rightN A (i + 1)))), some (fr d)], by simp -implicitDefEqProofs -dsimp only [e_seq, e_skip, e_never, e_ret, e_n, e_c, e_d, e_do, e_nil, e_cons, e_op2, e_un, e_chain, e_b, e_not, e_and, e_or, e_andV, e_orV, e_notV, e_if, e_ifS, e_call, e_callN, e_callF, e_fz, e_tup, e_tupZ, e_lst, e_set, e_asg, e_put, e_get2, e_mut, e_mtr, e_for, e_iter, e_over, e_lc, e_yes, e_pno, e_po, e_cut, e_par2, e_par3, e_catN, e_newT, e_name, e_loc, e_take, e_move, e_gname, c_d, c_loc, k_loc, cs_nil', cs_cons', fz_fro, fz_lst, fz_dT, bnd_some, bnd_none, Option.bind_some, Option.bind_none, Option.map_some, Option.map_none, List.getElem?_cons_zero, List.getElem?_cons_succ, List.length_cons, List.length_nil, if_true, List.map_cons, List.map_nil, Nat.reduceSub, List.replicate_zero, List.replicate_succ, List.append_nil, List.cons_append, List.nil_append, List.set_cons_zero, List.set_cons_succ, Nat.reduceAdd, Nat.reduceLT, Nat.reduceLeDiff, argsO_nil, argsO_d, argsO_loc, locs_nil, locs_d, locs_loc, nodup_nil', nodup_one, backE_nil, backE_d, backE_loc, wipeE_nil, wipeE_cons, calmE_nil, calmE_none, restE_nil, restE_cons, keep_0, keep_1, keep_2, keep_3, keep_4, own_lst, own_dT, own_fro, ite_true', ite_false', reduceIte, Bool.not_true, Bool.not_false, Bool.false_eq_true, Option.join_some, List.head?_cons, List.tail_cons, set_loc, Option.getD_some, Option.getD_none, and_self, and_true, true_and, List.lookup, fr, Bool.true_and, Bool.false_and, Bool.and_true, Bool.and_false, Bool.and_self, Bool.true_or, Bool.false_or, Bool.or_true, Bool.or_false, e_fld, e_fldO, e_fldSet, e_gmFld, e_gmNil, e_gmCons, e_gmTup, e_gmKtup, e_meth, e_make, e_methT, c_fld, k_fld, set_fld, eq_self, cond_true, cond_false, true_or, or_true, false_or, or_false, e_lc2], .inl ?_, T', some (fr d), t', rfl⟩
    rw [rs]
    cases b <;> simp -implicitDefEqProofs -dsimp only [e_seq, e_skip, e_never, e_ret, e_n, e_c, e_d, e_do, e_nil, e_cons, e_op2, e_un, e_chain, e_b, e_not, e_and, e_or, e_andV, e_orV, e_notV, e_if, e_ifS, e_call, e_callN, e_callF, e_fz, e_tup, e_tupZ, e_lst, e_set, e_asg, e_put, e_get2, e_mut, e_mtr, e_for, e_iter, e_over, e_lc, e_yes, e_pno, e_po, e_cut, e_par2, e_par3, e_catN, e_newT, e_name, e_loc, e_take, e_move, e_gname, c_d, c_loc, k_loc, cs_nil', cs_cons', fz_fro, fz_lst, fz_dT, bnd_some, bnd_none, Option.bind_some, Option.bind_none, Option.map_some, Option.map_none, List.getElem?_cons_zero, List.getElem?_cons_succ, List.length_cons, List.length_nil, if_true, List.map_cons, List.map_nil, Nat.reduceSub, List.replicate_zero, List.replicate_succ, List.append_nil, List.cons_append, List.nil_append, List.set_cons_zero, List.set_cons_succ, Nat.reduceAdd, Nat.reduceLT, Nat.reduceLeDiff, argsO_nil, argsO_d, argsO_loc, locs_nil, locs_d, locs_loc, nodup_nil', nodup_one, backE_nil, backE_d, backE_loc, wipeE_nil, wipeE_cons, calmE_nil, calmE_none, restE_nil, restE_cons, keep_0, keep_1, keep_2, keep_3, keep_4, own_lst, own_dT, own_fro, ite_true', ite_false', reduceIte, Bool.not_true, Bool.not_false, Bool.false_eq_true, Option.join_some, List.head?_cons, List.tail_cons, set_loc, Option.getD_some, Option.getD_none, and_self, and_true, true_and, List.lookup, fr, Bool.true_and, Bool.false_and, Bool.and_true, Bool.and_false, Bool.and_self, Bool.true_or, Bool.false_or, Bool.or_true, Bool.or_false, e_fld, e_fldO, e_fldSet, e_gmFld, e_gmNil, e_gmCons, e_gmTup, e_gmKtup, e_meth, e_make, e_methT, c_fld, k_fld, set_fld, eq_self, cond_true, cond_false, true_or, or_true, false_or, or_false, e_lc2, fb_turns_taken_1, st_turns_taken_4, b_rule, b_paint, b_cell, isDict_T, dLook_here, look_here hB t, r1, is_r, dAdd_i, b_step, e]
  rw [len_ints, Nat.zero_add] at e4
  have e5 := range_n (n := n) (by omega)
  unfold run_turns_taken fnRun m_turns_taken
  simp -implicitDefEqProofs -dsimp only [e_seq, e_skip, e_never, e_ret, e_n, e_c, e_d, e_do, e_nil, e_cons, e_op2, e_un, e_chain, e_b, e_not, e_and, e_or, e_andV, e_orV, e_notV, e_if, e_ifS, e_call, e_callN, e_callF, e_fz, e_tup, e_tupZ, e_lst, e_set, e_asg, e_put, e_get2, e_mut, e_mtr, e_for, e_iter, e_over, e_lc, e_yes, e_pno, e_po, e_cut, e_par2, e_par3, e_catN, e_newT, e_name, e_loc, e_take, e_move, e_gname, c_d, c_loc, k_loc, cs_nil', cs_cons', fz_fro, fz_lst, fz_dT, bnd_some, bnd_none, Option.bind_some, Option.bind_none, Option.map_some, Option.map_none, List.getElem?_cons_zero, List.getElem?_cons_succ, List.length_cons, List.length_nil, if_true, List.map_cons, List.map_nil, Nat.reduceSub, List.replicate_zero, List.replicate_succ, List.append_nil, List.cons_append, List.nil_append, List.set_cons_zero, List.set_cons_succ, Nat.reduceAdd, Nat.reduceLT, Nat.reduceLeDiff, argsO_nil, argsO_d, argsO_loc, locs_nil, locs_d, locs_loc, nodup_nil', nodup_one, backE_nil, backE_d, backE_loc, wipeE_nil, wipeE_cons, calmE_nil, calmE_none, restE_nil, restE_cons, keep_0, keep_1, keep_2, keep_3, keep_4, own_lst, own_dT, own_fro, ite_true', ite_false', reduceIte, Bool.not_true, Bool.not_false, Bool.false_eq_true, Option.join_some, List.head?_cons, List.tail_cons, set_loc, Option.getD_some, Option.getD_none, and_self, and_true, true_and, List.lookup, fr, Bool.true_and, Bool.false_and, Bool.and_true, Bool.and_false, Bool.and_self, Bool.true_or, Bool.false_or, Bool.or_true, Bool.or_false, e_fld, e_fldO, e_fldSet, e_gmFld, e_gmNil, e_gmCons, e_gmTup, e_gmKtup, e_meth, e_make, e_methT, c_fld, k_fld, set_fld, eq_self, cond_true, cond_false, true_or, or_true, false_or, or_false, e_lc2, st_turns_taken_1, st_turns_taken_2, st_turns_taken_3, st_turns_taken_5, st_turns_taken_6, e1, e2, e3, List.take_succ_cons, List.take_zero, e5, e4, dSub_i, List.mem_nil_iff]
/-! ### turned round -/
def revA (A : Ant) : Ant := headed (moved A (-1)) (A.hd + 2)
theorem ok_rev {A : Ant} (h : Ok A) : Ok (revA A) := ok_headed (ok_moved h _) _
def lrB (A : Ant) : Bool := decide (A.bs = [false, true]) || decide (A.bs = [true, false])
theorem rule_inj {a b : List Bool} (h : ruleS a = ruleS b) : a = b := by
  have := congrArg TL.tl h
  unfold ruleS at this
  rw [TL.tl_mk, TL.tl_mk] at this
  refine (List.map_inj_right fun x y e => ?_).mp this
  cases x <;> cases y <;> first | rfl | (exact absurd e (by decide))
theorem notIn_lr {A : Ant} : dNotIn (.str (ruleS A.bs)) (.tup [.str "lr", .str "rl"]) = some (.bl (!lrB A)) := by
  show some (D.bl (!([PyData.str "lr", .str "rl"].any fun z => PyData.eqv z (.str (ruleS A.bs))))) = _
  simp only [List.any_cons, List.any_nil, eqv_ss, Bool.or_false]
  have e1 : decide (("lr" : Str) = ruleS A.bs) = decide (A.bs = [false, true]) := decide_eq_decide.mpr ⟨fun h => (rule_inj (a := [false, true]) h).symm, fun h => by rw [h]; rfl⟩
  have e2 : decide (("rl" : Str) = ruleS A.bs) = decide (A.bs = [true, false]) := decide_eq_decide.mpr ⟨fun h => (rule_inj (a := [true, false]) h).symm, fun h => by rw [h]; rfl⟩
  rw [e1, e2]; rfl
theorem r_round {C : Addr} {A : Ant} (h : Ok A) : run_turned_round C [fr (antD A)] = some (fr (if lrB A = true then antD (revA A) else .non), [none]) := by
  have e1 := ant_need h
  have e2 : dIx (antD A) (.int 0) = some (.str (ruleS A.bs)) := rfl
  have e3 := r_init (C := C) h
  have e4 := r_move (C := C) (T := paintT A) h (k := -1) (by decide)
  have e5 := r_rest_of (n := A.hd + 2) (m := 4) (by decide) (by decide)
  have e6 := r_ant (C := C) (ok_rev h) (tab_headed (tab_moved (tab_paint h) (-1)) (A.hd + 2))
  have e6 : run_Box_ant C [.ins C (bx (headed (moved A (-1)) (A.hd + 2)) (paintT A))] = some (fr (antD (revA A)), [some (.ins C (bx (headed (moved A (-1)) (A.hd + 2)) (paintT A)))]) := e6
  have hh : (bx (moved A (-1)) (paintT A)).lookup ("heading" : Str) = some (.fro (.int A.hd)) := rfl
  unfold run_turned_round fnRun m_turned_round
  cases g : lrB A with
  | false => simp -implicitDefEqProofs -dsimp only [e_seq, e_skip, e_never, e_ret, e_n, e_c, e_d, e_do, e_nil, e_cons, e_op2, e_un, e_chain, e_b, e_not, e_and, e_or, e_andV, e_orV, e_notV, e_if, e_ifS, e_call, e_callN, e_callF, e_fz, e_tup, e_tupZ, e_lst, e_set, e_asg, e_put, e_get2, e_mut, e_mtr, e_for, e_iter, e_over, e_lc, e_yes, e_pno, e_po, e_cut, e_par2, e_par3, e_catN, e_newT, e_name, e_loc, e_take, e_move, e_gname, c_d, c_loc, k_loc, cs_nil', cs_cons', fz_fro, fz_lst, fz_dT, bnd_some, bnd_none, Option.bind_some, Option.bind_none, Option.map_some, Option.map_none, List.getElem?_cons_zero, List.getElem?_cons_succ, List.length_cons, List.length_nil, if_true, List.map_cons, List.map_nil, Nat.reduceSub, List.replicate_zero, List.replicate_succ, List.append_nil, List.cons_append, List.nil_append, List.set_cons_zero, List.set_cons_succ, Nat.reduceAdd, Nat.reduceLT, Nat.reduceLeDiff, argsO_nil, argsO_d, argsO_loc, locs_nil, locs_d, locs_loc, nodup_nil', nodup_one, backE_nil, backE_d, backE_loc, wipeE_nil, wipeE_cons, calmE_nil, calmE_none, restE_nil, restE_cons, keep_0, keep_1, keep_2, keep_3, keep_4, own_lst, own_dT, own_fro, ite_true', ite_false', reduceIte, Bool.not_true, Bool.not_false, Bool.false_eq_true, Option.join_some, List.head?_cons, List.tail_cons, set_loc, Option.getD_some, Option.getD_none, and_self, and_true, true_and, List.lookup, fr, Bool.true_and, Bool.false_and, Bool.and_true, Bool.and_false, Bool.and_self, Bool.true_or, Bool.false_or, Bool.or_true, Bool.or_false, e_fld, e_fldO, e_fldSet, e_gmFld, e_gmNil, e_gmCons, e_gmTup, e_gmKtup, e_meth, e_make, e_methT, c_fld, k_fld, set_fld, eq_self, cond_true, cond_false, true_or, or_true, false_or, or_false, e_lc2, st_turned_round_1, st_turned_round_2, e1, e2, notIn_lr, g, List.mem_nil_iff]
  | true => simp -implicitDefEqProofs -dsimp only [e_seq, e_skip, e_never, e_ret, e_n, e_c, e_d, e_do, e_nil, e_cons, e_op2, e_un, e_chain, e_b, e_not, e_and, e_or, e_andV, e_orV, e_notV, e_if, e_ifS, e_call, e_callN, e_callF, e_fz, e_tup, e_tupZ, e_lst, e_set, e_asg, e_put, e_get2, e_mut, e_mtr, e_for, e_iter, e_over, e_lc, e_yes, e_pno, e_po, e_cut, e_par2, e_par3, e_catN, e_newT, e_name, e_loc, e_take, e_move, e_gname, c_d, c_loc, k_loc, cs_nil', cs_cons', fz_fro, fz_lst, fz_dT, bnd_some, bnd_none, Option.bind_some, Option.bind_none, Option.map_some, Option.map_none, List.getElem?_cons_zero, List.getElem?_cons_succ, List.length_cons, List.length_nil, if_true, List.map_cons, List.map_nil, Nat.reduceSub, List.replicate_zero, List.replicate_succ, List.append_nil, List.cons_append, List.nil_append, List.set_cons_zero, List.set_cons_succ, Nat.reduceAdd, Nat.reduceLT, Nat.reduceLeDiff, argsO_nil, argsO_d, argsO_loc, locs_nil, locs_d, locs_loc, nodup_nil', nodup_one, backE_nil, backE_d, backE_loc, wipeE_nil, wipeE_cons, calmE_nil, calmE_none, restE_nil, restE_cons, keep_0, keep_1, keep_2, keep_3, keep_4, own_lst, own_dT, own_fro, ite_true', ite_false', reduceIte, Bool.not_true, Bool.not_false, Bool.false_eq_true, Option.join_some, List.head?_cons, List.tail_cons, set_loc, Option.getD_some, Option.getD_none, and_self, and_true, true_and, List.lookup, fr, Bool.true_and, Bool.false_and, Bool.and_true, Bool.and_false, Bool.and_self, Bool.true_or, Bool.false_or, Bool.or_true, Bool.or_false, e_fld, e_fldO, e_fldSet, e_gmFld, e_gmNil, e_gmCons, e_gmTup, e_gmKtup, e_meth, e_make, e_methT, c_fld, k_fld, set_fld, eq_self, cond_true, cond_false, true_or, or_true, false_or, or_false, e_lc2, st_turned_round_1, st_turned_round_2, st_turned_round_3, st_turned_round_4, st_turned_round_5, e1, e2, notIn_lr, g, e3, List.take_succ_cons, List.take_zero, dNeg_i, b_move, e4, hh, dAdd_i, e5, b_head, b_len, b_ant, e6, List.mem_nil_iff]
/-! ### not gone from -/
def freeP (A : Ant) (ps : List Pt) : List Pt := (cells A.h A.w).filter fun p => !decide (p ∈ ps)
theorem r_not_gone {C : Addr} {A : Ant} (h : Ok A) {n : Nat} (hn : n ≤ 5000) : run_not_gone_from C [fr (antD A), fr (.int n)] = some (fr (.ktup ((freeP A (walkP A n)).map VL.pairD)), [none, none]) := by
  have e1 := ant_need h
  have e2 := r_need_many (i := n) (a := 0) (b := 5000) (by omega) (by omega)
  obtain ⟨e3, sl⟩ := r_visits (C := C) h hn
  have h2 := h.h2
  have w2 := h.w2
  have nd : ((visP (walkP A n)).map (·.1)).Nodup := by rw [vis_keys]; exact sorted_nodup (setSort_sorted _)
  have e4 : fDictT [visD (walkP A n)] = some (.dT (gI .int (visP (walkP A n)))) := dict_k nd (by unfold visP; rw [List.length_map]; omega)
  have e5 : dIx (antD A) (.int 1) = some (.int A.h) := rfl
  have e6 : dIx (antD A) (.int 2) = some (.int A.w) := rfl
  have e7 := range_n (n := A.h) (by omega)
  have e8 := range_n (n := A.w) (by omega)
  have lc := lc2_map (own := [3, 4]) (vs1 := [4]) (tm := gmName 3) (mt := mYes) (mi1 := mOver rangeI1 (mCons (mOp2 dIx (mLoc 0) (mD (mC (.int 2)))) (mNil))) (tm1 := gmName 4) (mt1 := ct_not_gone_from_1 C) (me := ce_not_gone_from_1 C) (η := [some (fr (antD A)), some (fr (.int n)), some (fr (.dT (gI .int (visP (walkP A n))))), none, none]) (fun d => match d with
    | .int i => ((rowP i.toNat A.w).filter fun p => !decide (p ∈ walkP A n)).map VL.pairD
    | _ => []) (intsD 0 A.h) fun d hd => by
    unfold intsD at hd
    obtain ⟨i, hi, rfl⟩ := List.mem_map.mp hd
    rw [Int.zero_add]
    have lc := lc_filter (own := [4]) (tm := gmName 4) (mt := ct_not_gone_from_1 C) (me := ce_not_gone_from_1 C) (η := [some (fr (antD A)), some (fr (.int n)), some (fr (.dT (gI .int (visP (walkP A n))))), some (fr (.int i)), none]) (fun d => match d with
      | .int j => !decide (((i : Int), j) ∈ walkP A n)
      | _ => false) (fun d => .tup [.int i, d]) (intsD 0 A.w) fun d hd => by
      unfold intsD at hd
      obtain ⟨j, hj, rfl⟩ := List.mem_map.mp hd
      rw [Int.zero_add]
      have e9 := notIn_gI (f := D.int) (T := visP (walkP A n)) (p := ((i : Int), (j : Int)))
      rw [vis_keys] at e9
      have e9 : dNotIn (.tup [.int i, .int j]) (.dT (gI D.int (visP (walkP A n)))) = some (.bl (!decide (((i : Int), (j : Int)) ∈ walkP A n))) := by
        rw [show decide (((i : Int), (j : Int)) ∈ walkP A n) = decide (((i : Int), (j : Int)) ∈ setSort (walkP A n)) from decide_eq_decide.mpr mem_setSort.symm]
        exact e9
      exact ⟨[some (fr (antD A)), some (fr (.int n)), some (fr (.dT (gI .int (visP (walkP A n))))), some (fr (.int i)), some (fr (.int j))], [some (fr (antD A)), some (fr (.int n)), some (fr (.dT (gI .int (visP (walkP A n))))), some (fr (.int i)), some (fr (.int j))], by simp -implicitDefEqProofs -dsimp only [e_seq, e_skip, e_never, e_ret, e_n, e_c, e_d, e_do, e_nil, e_cons, e_op2, e_un, e_chain, e_b, e_not, e_and, e_or, e_andV, e_orV, e_notV, e_if, e_ifS, e_call, e_callN, e_callF, e_fz, e_tup, e_tupZ, e_lst, e_set, e_asg, e_put, e_get2, e_mut, e_mtr, e_for, e_iter, e_over, e_lc, e_yes, e_pno, e_po, e_cut, e_par2, e_par3, e_catN, e_newT, e_name, e_loc, e_take, e_move, e_gname, c_d, c_loc, k_loc, cs_nil', cs_cons', fz_fro, fz_lst, fz_dT, bnd_some, bnd_none, Option.bind_some, Option.bind_none, Option.map_some, Option.map_none, List.getElem?_cons_zero, List.getElem?_cons_succ, List.length_cons, List.length_nil, if_true, List.map_cons, List.map_nil, Nat.reduceSub, List.replicate_zero, List.replicate_succ, List.append_nil, List.cons_append, List.nil_append, List.set_cons_zero, List.set_cons_succ, Nat.reduceAdd, Nat.reduceLT, Nat.reduceLeDiff, argsO_nil, argsO_d, argsO_loc, locs_nil, locs_d, locs_loc, nodup_nil', nodup_one, backE_nil, backE_d, backE_loc, wipeE_nil, wipeE_cons, calmE_nil, calmE_none, restE_nil, restE_cons, keep_0, keep_1, keep_2, keep_3, keep_4, own_lst, own_dT, own_fro, ite_true', ite_false', reduceIte, Bool.not_true, Bool.not_false, Bool.false_eq_true, Option.join_some, List.head?_cons, List.tail_cons, set_loc, Option.getD_some, Option.getD_none, and_self, and_true, true_and, List.lookup, fr, Bool.true_and, Bool.false_and, Bool.and_true, Bool.and_false, Bool.and_self, Bool.true_or, Bool.false_or, Bool.or_true, Bool.or_false, e_fld, e_fldO, e_fldSet, e_gmFld, e_gmNil, e_gmCons, e_gmTup, e_gmKtup, e_meth, e_make, e_methT, c_fld, k_fld, set_fld, eq_self, cond_true, cond_false, true_or, or_true, false_or, or_false, e_lc2], by simp -implicitDefEqProofs -dsimp only [e_seq, e_skip, e_never, e_ret, e_n, e_c, e_d, e_do, e_nil, e_cons, e_op2, e_un, e_chain, e_b, e_not, e_and, e_or, e_andV, e_orV, e_notV, e_if, e_ifS, e_call, e_callN, e_callF, e_fz, e_tup, e_tupZ, e_lst, e_set, e_asg, e_put, e_get2, e_mut, e_mtr, e_for, e_iter, e_over, e_lc, e_yes, e_pno, e_po, e_cut, e_par2, e_par3, e_catN, e_newT, e_name, e_loc, e_take, e_move, e_gname, c_d, c_loc, k_loc, cs_nil', cs_cons', fz_fro, fz_lst, fz_dT, bnd_some, bnd_none, Option.bind_some, Option.bind_none, Option.map_some, Option.map_none, List.getElem?_cons_zero, List.getElem?_cons_succ, List.length_cons, List.length_nil, if_true, List.map_cons, List.map_nil, Nat.reduceSub, List.replicate_zero, List.replicate_succ, List.append_nil, List.cons_append, List.nil_append, List.set_cons_zero, List.set_cons_succ, Nat.reduceAdd, Nat.reduceLT, Nat.reduceLeDiff, argsO_nil, argsO_d, argsO_loc, locs_nil, locs_d, locs_loc, nodup_nil', nodup_one, backE_nil, backE_d, backE_loc, wipeE_nil, wipeE_cons, calmE_nil, calmE_none, restE_nil, restE_cons, keep_0, keep_1, keep_2, keep_3, keep_4, own_lst, own_dT, own_fro, ite_true', ite_false', reduceIte, Bool.not_true, Bool.not_false, Bool.false_eq_true, Option.join_some, List.head?_cons, List.tail_cons, set_loc, Option.getD_some, Option.getD_none, and_self, and_true, true_and, List.lookup, fr, Bool.true_and, Bool.false_and, Bool.and_true, Bool.and_false, Bool.and_self, Bool.true_or, Bool.false_or, Bool.or_true, Bool.or_false, e_fld, e_fldO, e_fldSet, e_gmFld, e_gmNil, e_gmCons, e_gmTup, e_gmKtup, e_meth, e_make, e_methT, c_fld, k_fld, set_fld, eq_self, cond_true, cond_false, true_or, or_true, false_or, or_false, e_lc2, ct_not_gone_from_1, e9], fun _ => ⟨[some (fr (antD A)), some (fr (.int n)), some (fr (.dT (gI .int (visP (walkP A n))))), some (fr (.int i)), some (fr (.int j))], by simp -implicitDefEqProofs -dsimp only [e_seq, e_skip, e_never, e_ret, e_n, e_c, e_d, e_do, e_nil, e_cons, e_op2, e_un, e_chain, e_b, e_not, e_and, e_or, e_andV, e_orV, e_notV, e_if, e_ifS, e_call, e_callN, e_callF, e_fz, e_tup, e_tupZ, e_lst, e_set, e_asg, e_put, e_get2, e_mut, e_mtr, e_for, e_iter, e_over, e_lc, e_yes, e_pno, e_po, e_cut, e_par2, e_par3, e_catN, e_newT, e_name, e_loc, e_take, e_move, e_gname, c_d, c_loc, k_loc, cs_nil', cs_cons', fz_fro, fz_lst, fz_dT, bnd_some, bnd_none, Option.bind_some, Option.bind_none, Option.map_some, Option.map_none, List.getElem?_cons_zero, List.getElem?_cons_succ, List.length_cons, List.length_nil, if_true, List.map_cons, List.map_nil, Nat.reduceSub, List.replicate_zero, List.replicate_succ, List.append_nil, List.cons_append, List.nil_append, List.set_cons_zero, List.set_cons_succ, Nat.reduceAdd, Nat.reduceLT, Nat.reduceLeDiff, argsO_nil, argsO_d, argsO_loc, locs_nil, locs_d, locs_loc, nodup_nil', nodup_one, backE_nil, backE_d, backE_loc, wipeE_nil, wipeE_cons, calmE_nil, calmE_none, restE_nil, restE_cons, keep_0, keep_1, keep_2, keep_3, keep_4, own_lst, own_dT, own_fro, ite_true', ite_false', reduceIte, Bool.not_true, Bool.not_false, Bool.false_eq_true, Option.join_some, List.head?_cons, List.tail_cons, set_loc, Option.getD_some, Option.getD_none, and_self, and_true, true_and, List.lookup, fr, Bool.true_and, Bool.false_and, Bool.and_true, Bool.and_false, Bool.and_self, Bool.true_or, Bool.false_or, Bool.or_true, Bool.or_false, e_fld, e_fldO, e_fldSet, e_gmFld, e_gmNil, e_gmCons, e_gmTup, e_gmKtup, e_meth, e_make, e_methT, c_fld, k_fld, set_fld, eq_self, cond_true, cond_false, true_or, or_true, false_or, or_false, e_lc2, ce_not_gone_from_1], by simp -implicitDefEqProofs -dsimp only [e_seq, e_skip, e_never, e_ret, e_n, e_c, e_d, e_do, e_nil, e_cons, e_op2, e_un, e_chain, e_b, e_not, e_and, e_or, e_andV, e_orV, e_notV, e_if, e_ifS, e_call, e_callN, e_callF, e_fz, e_tup, e_tupZ, e_lst, e_set, e_asg, e_put, e_get2, e_mut, e_mtr, e_for, e_iter, e_over, e_lc, e_yes, e_pno, e_po, e_cut, e_par2, e_par3, e_catN, e_newT, e_name, e_loc, e_take, e_move, e_gname, c_d, c_loc, k_loc, cs_nil', cs_cons', fz_fro, fz_lst, fz_dT, bnd_some, bnd_none, Option.bind_some, Option.bind_none, Option.map_some, Option.map_none, List.getElem?_cons_zero, List.getElem?_cons_succ, List.length_cons, List.length_nil, if_true, List.map_cons, List.map_nil, Nat.reduceSub, List.replicate_zero, List.replicate_succ, List.append_nil, List.cons_append, List.nil_append, List.set_cons_zero, List.set_cons_succ, Nat.reduceAdd, Nat.reduceLT, Nat.reduceLeDiff, argsO_nil, argsO_d, argsO_loc, locs_nil, locs_d, locs_loc, nodup_nil', nodup_one, backE_nil, backE_d, backE_loc, wipeE_nil, wipeE_cons, calmE_nil, calmE_none, restE_nil, restE_cons, keep_0, keep_1, keep_2, keep_3, keep_4, own_lst, own_dT, own_fro, ite_true', ite_false', reduceIte, Bool.not_true, Bool.not_false, Bool.false_eq_true, Option.join_some, List.head?_cons, List.tail_cons, set_loc, Option.getD_some, Option.getD_none, and_self, and_true, true_and, List.lookup, fr, Bool.true_and, Bool.false_and, Bool.and_true, Bool.and_false, Bool.and_self, Bool.true_or, Bool.false_or, Bool.or_true, Bool.or_false, e_fld, e_fldO, e_fldSet, e_gmFld, e_gmNil, e_gmCons, e_gmTup, e_gmKtup, e_meth, e_make, e_methT, c_fld, k_fld, set_fld, eq_self, cond_true, cond_false, true_or, or_true, false_or, or_false, e_lc2]⟩, fun _ => by simp -implicitDefEqProofs -dsimp only [e_seq, e_skip, e_never, e_ret, e_n, e_c, e_d, e_do, e_nil, e_cons, e_op2, e_un, e_chain, e_b, e_not, e_and, e_or, e_andV, e_orV, e_notV, e_if, e_ifS, e_call, e_callN, e_callF, e_fz, e_tup, e_tupZ, e_lst, e_set, e_asg, e_put, e_get2, e_mut, e_mtr, e_for, e_iter, e_over, e_lc, e_yes, e_pno, e_po, e_cut, e_par2, e_par3, e_catN, e_newT, e_name, e_loc, e_take, e_move, e_gname, c_d, c_loc, k_loc, cs_nil', cs_cons', fz_fro, fz_lst, fz_dT, bnd_some, bnd_none, Option.bind_some, Option.bind_none, Option.map_some, Option.map_none, List.getElem?_cons_zero, List.getElem?_cons_succ, List.length_cons, List.length_nil, if_true, List.map_cons, List.map_nil, Nat.reduceSub, List.replicate_zero, List.replicate_succ, List.append_nil, List.cons_append, List.nil_append, List.set_cons_zero, List.set_cons_succ, Nat.reduceAdd, Nat.reduceLT, Nat.reduceLeDiff, argsO_nil, argsO_d, argsO_loc, locs_nil, locs_d, locs_loc, nodup_nil', nodup_one, backE_nil, backE_d, backE_loc, wipeE_nil, wipeE_cons, calmE_nil, calmE_none, restE_nil, restE_cons, keep_0, keep_1, keep_2, keep_3, keep_4, own_lst, own_dT, own_fro, ite_true', ite_false', reduceIte, Bool.not_true, Bool.not_false, Bool.false_eq_true, Option.join_some, List.head?_cons, List.tail_cons, set_loc, Option.getD_some, Option.getD_none, and_self, and_true, true_and, List.lookup, fr, Bool.true_and, Bool.false_and, Bool.and_true, Bool.and_false, Bool.and_self, Bool.true_or, Bool.false_or, Bool.or_true, Bool.or_false, e_fld, e_fldO, e_fldSet, e_gmFld, e_gmNil, e_gmCons, e_gmTup, e_gmKtup, e_meth, e_make, e_methT, c_fld, k_fld, set_fld, eq_self, cond_true, cond_false, true_or, or_true, false_or, or_false, e_lc2]⟩
    have lc := lc.trans (congrArg (fun z => some (z, [some (fr (antD A)), some (fr (.int n)), some (fr (.dT (gI .int (visP (walkP A n))))), some (fr (.int i)), none])) (ints_row (i := i) (w := A.w) (fun p => !decide (p ∈ walkP A n))))
    exact ⟨[some (fr (antD A)), some (fr (.int n)), some (fr (.dT (gI .int (visP (walkP A n))))), some (fr (.int i)), none], [some (fr (antD A)), some (fr (.int n)), some (fr (.dT (gI .int (visP (walkP A n))))), some (fr (.int i)), none], intsD 0 A.w, [some (fr (antD A)), some (fr (.int n)), some (fr (.dT (gI .int (visP (walkP A n))))), some (fr (.int i)), none], [some (fr (antD A)), some (fr (.int n)), some (fr (.dT (gI .int (visP (walkP A n))))), some (fr (.int i)), none], by simp -implicitDefEqProofs -dsimp only [e_seq, e_skip, e_never, e_ret, e_n, e_c, e_d, e_do, e_nil, e_cons, e_op2, e_un, e_chain, e_b, e_not, e_and, e_or, e_andV, e_orV, e_notV, e_if, e_ifS, e_call, e_callN, e_callF, e_fz, e_tup, e_tupZ, e_lst, e_set, e_asg, e_put, e_get2, e_mut, e_mtr, e_for, e_iter, e_over, e_lc, e_yes, e_pno, e_po, e_cut, e_par2, e_par3, e_catN, e_newT, e_name, e_loc, e_take, e_move, e_gname, c_d, c_loc, k_loc, cs_nil', cs_cons', fz_fro, fz_lst, fz_dT, bnd_some, bnd_none, Option.bind_some, Option.bind_none, Option.map_some, Option.map_none, List.getElem?_cons_zero, List.getElem?_cons_succ, List.length_cons, List.length_nil, if_true, List.map_cons, List.map_nil, Nat.reduceSub, List.replicate_zero, List.replicate_succ, List.append_nil, List.cons_append, List.nil_append, List.set_cons_zero, List.set_cons_succ, Nat.reduceAdd, Nat.reduceLT, Nat.reduceLeDiff, argsO_nil, argsO_d, argsO_loc, locs_nil, locs_d, locs_loc, nodup_nil', nodup_one, backE_nil, backE_d, backE_loc, wipeE_nil, wipeE_cons, calmE_nil, calmE_none, restE_nil, restE_cons, keep_0, keep_1, keep_2, keep_3, keep_4, own_lst, own_dT, own_fro, ite_true', ite_false', reduceIte, Bool.not_true, Bool.not_false, Bool.false_eq_true, Option.join_some, List.head?_cons, List.tail_cons, set_loc, Option.getD_some, Option.getD_none, and_self, and_true, true_and, List.lookup, fr, Bool.true_and, Bool.false_and, Bool.and_true, Bool.and_false, Bool.and_self, Bool.true_or, Bool.false_or, Bool.or_true, Bool.or_false, e_fld, e_fldO, e_fldSet, e_gmFld, e_gmNil, e_gmCons, e_gmTup, e_gmKtup, e_meth, e_make, e_methT, c_fld, k_fld, set_fld, eq_self, cond_true, cond_false, true_or, or_true, false_or, or_false, e_lc2], rfl, by simp -implicitDefEqProofs -dsimp only [e_seq, e_skip, e_never, e_ret, e_n, e_c, e_d, e_do, e_nil, e_cons, e_op2, e_un, e_chain, e_b, e_not, e_and, e_or, e_andV, e_orV, e_notV, e_if, e_ifS, e_call, e_callN, e_callF, e_fz, e_tup, e_tupZ, e_lst, e_set, e_asg, e_put, e_get2, e_mut, e_mtr, e_for, e_iter, e_over, e_lc, e_yes, e_pno, e_po, e_cut, e_par2, e_par3, e_catN, e_newT, e_name, e_loc, e_take, e_move, e_gname, c_d, c_loc, k_loc, cs_nil', cs_cons', fz_fro, fz_lst, fz_dT, bnd_some, bnd_none, Option.bind_some, Option.bind_none, Option.map_some, Option.map_none, List.getElem?_cons_zero, List.getElem?_cons_succ, List.length_cons, List.length_nil, if_true, List.map_cons, List.map_nil, Nat.reduceSub, List.replicate_zero, List.replicate_succ, List.append_nil, List.cons_append, List.nil_append, List.set_cons_zero, List.set_cons_succ, Nat.reduceAdd, Nat.reduceLT, Nat.reduceLeDiff, argsO_nil, argsO_d, argsO_loc, locs_nil, locs_d, locs_loc, nodup_nil', nodup_one, backE_nil, backE_d, backE_loc, wipeE_nil, wipeE_cons, calmE_nil, calmE_none, restE_nil, restE_cons, keep_0, keep_1, keep_2, keep_3, keep_4, own_lst, own_dT, own_fro, ite_true', ite_false', reduceIte, Bool.not_true, Bool.not_false, Bool.false_eq_true, Option.join_some, List.head?_cons, List.tail_cons, set_loc, Option.getD_some, Option.getD_none, and_self, and_true, true_and, List.lookup, fr, Bool.true_and, Bool.false_and, Bool.and_true, Bool.and_false, Bool.and_self, Bool.true_or, Bool.false_or, Bool.or_true, Bool.or_false, e_fld, e_fldO, e_fldSet, e_gmFld, e_gmNil, e_gmCons, e_gmTup, e_gmKtup, e_meth, e_make, e_methT, c_fld, k_fld, set_fld, eq_self, cond_true, cond_false, true_or, or_true, false_or, or_false, e_lc2, e6, e8], lc, by simp -implicitDefEqProofs -dsimp only [e_seq, e_skip, e_never, e_ret, e_n, e_c, e_d, e_do, e_nil, e_cons, e_op2, e_un, e_chain, e_b, e_not, e_and, e_or, e_andV, e_orV, e_notV, e_if, e_ifS, e_call, e_callN, e_callF, e_fz, e_tup, e_tupZ, e_lst, e_set, e_asg, e_put, e_get2, e_mut, e_mtr, e_for, e_iter, e_over, e_lc, e_yes, e_pno, e_po, e_cut, e_par2, e_par3, e_catN, e_newT, e_name, e_loc, e_take, e_move, e_gname, c_d, c_loc, k_loc, cs_nil', cs_cons', fz_fro, fz_lst, fz_dT, bnd_some, bnd_none, Option.bind_some, Option.bind_none, Option.map_some, Option.map_none, List.getElem?_cons_zero, List.getElem?_cons_succ, List.length_cons, List.length_nil, if_true, List.map_cons, List.map_nil, Nat.reduceSub, List.replicate_zero, List.replicate_succ, List.append_nil, List.cons_append, List.nil_append, List.set_cons_zero, List.set_cons_succ, Nat.reduceAdd, Nat.reduceLT, Nat.reduceLeDiff, argsO_nil, argsO_d, argsO_loc, locs_nil, locs_d, locs_loc, nodup_nil', nodup_one, backE_nil, backE_d, backE_loc, wipeE_nil, wipeE_cons, calmE_nil, calmE_none, restE_nil, restE_cons, keep_0, keep_1, keep_2, keep_3, keep_4, own_lst, own_dT, own_fro, ite_true', ite_false', reduceIte, Bool.not_true, Bool.not_false, Bool.false_eq_true, Option.join_some, List.head?_cons, List.tail_cons, set_loc, Option.getD_some, Option.getD_none, and_self, and_true, true_and, List.lookup, fr, Bool.true_and, Bool.false_and, Bool.and_true, Bool.and_false, Bool.and_self, Bool.true_or, Bool.false_or, Bool.or_true, Bool.or_false, e_fld, e_fldO, e_fldSet, e_gmFld, e_gmNil, e_gmCons, e_gmTup, e_gmKtup, e_meth, e_make, e_methT, c_fld, k_fld, set_fld, eq_self, cond_true, cond_false, true_or, or_true, false_or, or_false, e_lc2]⟩
  have em : (intsD 0 A.h).flatMap (fun d => match d with
    | .int i => ((rowP i.toNat A.w).filter fun p => !decide (p ∈ walkP A n)).map VL.pairD
    | _ => []) = (freeP A (walkP A n)).map VL.pairD := by
    unfold freeP intsD
    rw [cells_rows, List.flatMap_map, List.filter_flatMap, List.map_flatMap]
    refine congrArg (fun f => (List.range A.h).flatMap f) (funext fun i => ?_)
    show ((rowP (0 + (i : Int)).toNat A.w).filter _).map _ = _
    rw [Int.zero_add, Int.toNat_natCast]
  rw [em] at lc
  have sm : small ((freeP A (walkP A n)).map VL.pairD).length = true := small_of (by
    rw [List.length_map]
    have := List.length_filter_le (fun p => !decide (p ∈ walkP A n)) (cells A.h A.w)
    rw [cells_len] at this
    have := Nat.mul_le_mul h2 w2
    unfold freeP; omega)
  unfold run_not_gone_from fnRun m_not_gone_from
  simp -implicitDefEqProofs -dsimp only [e_seq, e_skip, e_never, e_ret, e_n, e_c, e_d, e_do, e_nil, e_cons, e_op2, e_un, e_chain, e_b, e_not, e_and, e_or, e_andV, e_orV, e_notV, e_if, e_ifS, e_call, e_callN, e_callF, e_fz, e_tup, e_tupZ, e_lst, e_set, e_asg, e_put, e_get2, e_mut, e_mtr, e_for, e_iter, e_over, e_lc, e_yes, e_pno, e_po, e_cut, e_par2, e_par3, e_catN, e_newT, e_name, e_loc, e_take, e_move, e_gname, c_d, c_loc, k_loc, cs_nil', cs_cons', fz_fro, fz_lst, fz_dT, bnd_some, bnd_none, Option.bind_some, Option.bind_none, Option.map_some, Option.map_none, List.getElem?_cons_zero, List.getElem?_cons_succ, List.length_cons, List.length_nil, if_true, List.map_cons, List.map_nil, Nat.reduceSub, List.replicate_zero, List.replicate_succ, List.append_nil, List.cons_append, List.nil_append, List.set_cons_zero, List.set_cons_succ, Nat.reduceAdd, Nat.reduceLT, Nat.reduceLeDiff, argsO_nil, argsO_d, argsO_loc, locs_nil, locs_d, locs_loc, nodup_nil', nodup_one, backE_nil, backE_d, backE_loc, wipeE_nil, wipeE_cons, calmE_nil, calmE_none, restE_nil, restE_cons, keep_0, keep_1, keep_2, keep_3, keep_4, own_lst, own_dT, own_fro, ite_true', ite_false', reduceIte, Bool.not_true, Bool.not_false, Bool.false_eq_true, Option.join_some, List.head?_cons, List.tail_cons, set_loc, Option.getD_some, Option.getD_none, and_self, and_true, true_and, List.lookup, fr, Bool.true_and, Bool.false_and, Bool.and_true, Bool.and_false, Bool.and_self, Bool.true_or, Bool.false_or, Bool.or_true, Bool.or_false, e_fld, e_fldO, e_fldSet, e_gmFld, e_gmNil, e_gmCons, e_gmTup, e_gmKtup, e_meth, e_make, e_methT, c_fld, k_fld, set_fld, eq_self, cond_true, cond_false, true_or, or_true, false_or, or_false, e_lc2, st_not_gone_from_1, st_not_gone_from_2, st_not_gone_from_3, st_not_gone_from_4, e1, e2, e3, e4, e5, e7, lc, sm, tupz_l, List.mem_nil_iff]
end K87
end
section
-- VLJ
set_option Elab.async false
set_option linter.all false
set_option maxRecDepth 100000
set_option maxHeartbeats 1000000
set_option autoImplicit false
namespace K87
open PySem PySem.Spec PyProof.Rows L2 VL
/-! ### there and back -/
theorem dr_opp {d : Int} (h0 : 0 ≤ d) (h1 : d < 4) : dr ((d + 2) % 4) = -dr d ∧ dc ((d + 2) % 4) = -dc d := by
  rcases (by omega : d = 0 ∨ d = 1 ∨ d = 2 ∨ d = 3) with rfl | rfl | rfl | rfl <;> exact ⟨rfl, rfl⟩
theorem lr_bs {A : Ant} (l : lrB A = true) : A.bs = [false, true] ∨ A.bs = [true, false] := by
  unfold lrB at l
  rw [Bool.or_eq_true, decide_eq_true_eq, decide_eq_true_eq] at l
  exact l
theorem step_rev {A : Ant} (h : Ok A) (l : lrB A = true) : stepA (revA (stepA A)) = revA A := by
  have bs := lr_bs l
  have len : A.bs.length = 2 := by rcases bs with e | e <;> rw [e] <;> rfl
  have hr : (revA (stepA A)).r = A.r := mod_back h.r0 h.r1
  have hc : (revA (stepA A)).c = A.c := mod_back h.c0 h.c1
  have k0 := h.k0 (A.r, A.c)
  have k1 := h.k1 (A.r, A.c)
  rw [len] at k1
  have hk : here0 (revA (stepA A)) = (here0 A + 1) % 2 := by
    show colSet A.col (A.r, A.c) ((here0 A + 1) % A.bs.length) ((revA (stepA A)).r, (revA (stepA A)).c) = _
    rw [hr, hc, len]; exact colSet_self
  have k01 : here0 A = 0 ∨ here0 A = 1 := by unfold here0; omega
  have hb : turn (bit (revA (stepA A)) (here0 (revA (stepA A)))) = -turn (bit A (here0 A)) := by
    rw [hk]
    show turn (bit A ((here0 A + 1) % 2)) = _
    unfold bit
    rcases bs with e | e <;> rcases k01 with q | q <;> rw [e, q] <;> rfl
  have hd : ((revA (stepA A)).hd + turn (bit (revA (stepA A)) (here0 (revA (stepA A))))) % 4 = (A.hd + 2) % 4 := by
    rw [hb]
    show (((A.hd + turn (bit A (here0 A))) % 4 + 2) % 4 + -turn (bit A (here0 A))) % 4 = _
    generalize turn (bit A (here0 A)) = t
    omega
  obtain ⟨o1, o2⟩ := dr_opp h.d0 h.d1
  refine ant_ext rfl rfl rfl ?_ ?_ hd ?_
  · show ((revA (stepA A)).r + 1 * dr (((revA (stepA A)).hd + turn (bit (revA (stepA A)) (here0 (revA (stepA A))))) % 4)) % A.h = (A.r + -1 * dr A.hd) % A.h
    rw [hd, hr, o1, show 1 * -dr A.hd = -1 * dr A.hd by omega]
  · show ((revA (stepA A)).c + 1 * dc (((revA (stepA A)).hd + turn (bit (revA (stepA A)) (here0 (revA (stepA A))))) % 4)) % A.w = (A.c + -1 * dc A.hd) % A.w
    rw [hd, hc, o2, show 1 * -dc A.hd = -1 * dc A.hd by omega]
  · show colSet (colSet A.col (A.r, A.c) ((here0 A + 1) % A.bs.length)) ((revA (stepA A)).r, (revA (stepA A)).c) ((here0 (revA (stepA A)) + 1) % A.bs.length) = A.col
    rw [hr, hc, hk, len]
    refine colSet_set ?_
    show here0 A = _
    omega
theorem lr_steps {A : Ant} (l : lrB A = true) (n : Nat) : lrB (steps A n) = true := by
  unfold lrB; rw [steps_bs]; exact l
theorem rev_steps {A : Ant} (h : Ok A) (l : lrB A = true) (n : Nat) : ∀ j, j ≤ n → steps (revA (steps A n)) j = revA (steps A (n - j))
  | 0, _ => rfl
  | j + 1, hj => by
    show stepA (steps (revA (steps A n)) j) = _
    rw [rev_steps h l n j (by omega)]
    obtain ⟨m, hm⟩ : ∃ m, n - j = m + 1 := ⟨n - j - 1, by omega⟩
    rw [hm, show n - (j + 1) = m by omega]
    exact step_rev (ok_steps h m) (lr_steps l m)
theorem rev_rev {A : Ant} (h : Ok A) : revA (revA A) = A := by
  obtain ⟨o1, o2⟩ := dr_opp h.d0 h.d1
  have d0 := h.d0
  have d1 := h.d1
  refine ant_ext rfl rfl rfl ?_ ?_ ?_ rfl
  · show ((A.r + -1 * dr A.hd) % A.h + -1 * dr ((A.hd + 2) % 4)) % A.h = A.r
    rw [o1, Int.emod_add_emod, show A.r + -1 * dr A.hd + -1 * -dr A.hd = A.r by omega]
    exact Int.emod_eq_of_lt h.r0 h.r1
  · show ((A.c + -1 * dc A.hd) % A.w + -1 * dc ((A.hd + 2) % 4)) % A.w = A.c
    rw [o2, Int.emod_add_emod, show A.c + -1 * dc A.hd + -1 * -dc A.hd = A.c by omega]
    exact Int.emod_eq_of_lt h.c0 h.c1
  · show ((A.hd + 2) % 4 + 2) % 4 = A.hd
    omega
theorem rev_pt {A : Ant} (h : Ok A) : ptA (revA (stepA A)) = ptA A :=
  Prod.ext (mod_back h.r0 h.r1) (mod_back h.c0 h.c1)
theorem walk_rev {A : Ant} (h : Ok A) (l : lrB A = true) (n : Nat) : walkP (revA (steps A n)) n = (walkP A n).reverse := by
  refine List.ext_getElem? fun i => ?_
  by_cases hi : i < n
  · rw [walk_at hi, List.getElem?_reverse (by rw [walk_len]; exact hi), walk_len, walk_at (by omega), rev_steps h l n i (by omega)]
    obtain ⟨m, hm⟩ : ∃ m, n - i = m + 1 := ⟨n - i - 1, by omega⟩
    rw [hm, show n - 1 - i = m by omega]
    exact congrArg some (rev_pt (ok_steps h m))
  · rw [List.getElem?_eq_none (by rw [walk_len]; omega), List.getElem?_eq_none (by rw [List.length_reverse, walk_len]; omega)]
/-! ### lines -/
def lineD (A : Ant) (n : Nat) : List D := (List.range (n + 1)).map fun j => antD (steps A j)
theorem line_len {A : Ant} {n : Nat} : (lineD A n).length = n + 1 := by unfold lineD; simp
theorem line_succ {A : Ant} {n : Nat} : lineD A (n + 1) = lineD A n ++ [antD (steps A (n + 1))] := by
  unfold lineD
  rw [List.range_succ, List.map_append]; rfl
theorem line_last {A : Ant} {n : Nat} : atI (lineD A n) (-1) = some (antD (steps A n)) := by
  cases n with
  | zero => exact at_last (xs := [])
  | succ n => rw [line_succ]; exact at_last
theorem line_zip {A : Ant} {n : Nat} : VL.zips (lineD A n) ((lineD A n).drop 1) = (List.range n).map fun j => .tup [antD (steps A j), antD (steps A (j + 1))] := by
  refine List.ext_getElem? fun i => ?_
  unfold VL.zips
  rw [List.getElem?_map, List.getElem?_map]
  by_cases hi : i < n
  · rw [List.getElem?_range hi, (List.getElem?_zip_eq_some (z := (antD (steps A i), antD (steps A (i + 1))))).mpr ⟨?_, ?_⟩]
    · rfl
    · unfold lineD
      rw [List.getElem?_map, List.getElem?_range (by omega)]; rfl
    · unfold lineD
      rw [List.getElem?_drop, List.getElem?_map, List.getElem?_range (by omega), Nat.add_comm]; rfl
  · have e1 : ((lineD A n).zip ((lineD A n).drop 1))[i]? = none := List.getElem?_eq_none (by rw [List.length_zip, List.length_drop, line_len]; omega)
    rw [e1, List.getElem?_eq_none (by simpa using hi)]; rfl
theorem ant_4 {A : Ant} : dIx (antD A) (.int 4) = some (.int A.hd) := rfl
theorem ant_0 {A : Ant} : dIx (antD A) (.int 0) = some (.str (ruleS A.bs)) := rfl
theorem ant_1 {A : Ant} : dIx (antD A) (.int 1) = some (.int A.h) := rfl
theorem ant_2 {A : Ant} : dIx (antD A) (.int 2) = some (.int A.w) := rfl
theorem ant_3 {A : Ant} : dIx (antD A) (.int 3) = some (VL.pairD (ptA A)) := rfl
theorem cells_line {A : Ant} {n : Nat} : (lineD A n).map (fun d => match d with
    | .tup (_ :: _ :: _ :: c :: _) => c
    | d => d) = (walkP A (n + 1)).map VL.pairD := by
  unfold lineD walkP
  rw [List.map_map, List.map_map]; rfl
/-- turned right or not -/
theorem turn_right {A : Ant} (h : Ok A) : ((stepA A).hd - A.hd) % 4 = 1 ↔ bit A (here0 A) = true := by
  show ((A.hd + turn (bit A (here0 A))) % 4 - A.hd) % 4 = 1 ↔ _
  unfold turn
  cases bit A (here0 A) <;> simp only [if_true, Bool.false_eq_true, if_false, iff_true, iff_false] <;> omega
theorem stepsS {A : Ant} {j : Nat} : steps A (j + 1) = stepA (steps A j) := rfl
/-! ### the law, statement by statement -/
def Cm (x : Option O) : Prop := x = none ∨ ∃ d, x = some (fr d)
section
variable {C : Addr} {s0 s1 s2 s3 s4 s5 s6 s7 s8 s9 s10 s11 s12 s13 s14 s15 s16 s17 s18 s19 s20 : Option O} {a b : Int} {A : Ant} {n : Nat}
theorem u2 (ha : 0 ≤ a) : ∃ A, ∃ n : Nat, ∃ a' b' : Int, Ok A ∧ 0 ≤ a' ∧ n ≤ 60 ∧ st_law_2 C [s0, some (cupO a b), s2, s3, s4, s5, s6, s7, s8, s9, s10, s11, s12, s13, s14, s15, s16, s17, s18, s19, s20] = some (.nx, [s0, some (cupO a' b'), s2, some (fr (antD A)), some (fr (.int n)), s5, s6, s7, s8, s9, s10, s11, s12, s13, s14, s15, s16, s17, s18, s19, s20]) := by
  obtain ⟨j, a1, b1, hj, ha1, e1⟩ := some_int (b := b) (fun x => 1 ≤ x ∧ x ≤ 20) ha (xs := [2, 5, 12]) (by simp) (by decide) (by
    intro x hx
    have : x = 2 ∨ x = 5 ∨ x = 12 := by simpa using hx
    omega)
  have e1 : run__law_some [cupO a b, fr (.lst [.int 2, .int 5, .int 12])] = some (fr (.int j), [some (cupO a1 b1), none]) := e1
  obtain ⟨A, a2, b2, hA, ha2, pl, e2⟩ := r_law_ant (b := b1) (m := j) ha1 hj.1 hj.2
  obtain ⟨v, a3, b3, v0, v1, ha3, e3⟩ := r_roll (b := b2) ha2 (m := 60) (by decide) (by decide)
  obtain ⟨m, a4, b4, hm, ha4, e4⟩ := some_int (b := b3) (fun x => 0 ≤ x ∧ x ≤ 60) ha3 (xs := [0, 1, v]) (by simp) (by simp) (by
    intro x hx
    have : x = 0 ∨ x = 1 ∨ x = v := by simpa using hx
    omega)
  have e4 : run__law_some [cupO a3 b3, fr (.lst [.int 0, .int 1, .int v])] = some (fr (.int m), [some (cupO a4 b4), none]) := e4
  obtain ⟨n, rfl⟩ := Int.eq_ofNat_of_zero_le hm.1
  refine ⟨A, n, a4, b4, hA, ha4, by omega, ?_⟩
  simp -implicitDefEqProofs -dsimp only [e_seq, e_skip, e_never, e_ret, e_n, e_c, e_d, e_do, e_nil, e_cons, e_op2, e_un, e_chain, e_b, e_not, e_and, e_or, e_andV, e_orV, e_notV, e_if, e_ifS, e_call, e_callN, e_callF, e_fz, e_tup, e_tupZ, e_lst, e_set, e_asg, e_put, e_get2, e_mut, e_mtr, e_for, e_iter, e_over, e_lc, e_yes, e_pno, e_po, e_cut, e_par2, e_par3, e_catN, e_newT, e_name, e_loc, e_take, e_move, e_gname, c_d, c_loc, k_loc, cs_nil', cs_cons', fz_fro, fz_lst, fz_dT, bnd_some, bnd_none, Option.bind_some, Option.bind_none, Option.map_some, Option.map_none, List.getElem?_cons_zero, List.getElem?_cons_succ, List.length_cons, List.length_nil, if_true, List.map_cons, List.map_nil, Nat.reduceSub, List.replicate_zero, List.replicate_succ, List.append_nil, List.cons_append, List.nil_append, List.set_cons_zero, List.set_cons_succ, Nat.reduceAdd, Nat.reduceLT, Nat.reduceLeDiff, argsO_nil, argsO_d, argsO_loc, locs_nil, locs_d, locs_loc, nodup_nil', nodup_one, backE_nil, backE_d, backE_loc, wipeE_nil, wipeE_cons, calmE_nil, calmE_none, restE_nil, restE_cons, keep_0, keep_1, keep_2, keep_3, keep_4, own_lst, own_dT, own_fro, ite_true', ite_false', reduceIte, Bool.not_true, Bool.not_false, Bool.false_eq_true, Option.join_some, List.head?_cons, List.tail_cons, set_loc, Option.getD_some, Option.getD_none, and_self, and_true, true_and, List.lookup, fr, Bool.true_and, Bool.false_and, Bool.and_true, Bool.and_false, Bool.and_self, Bool.true_or, Bool.false_or, Bool.or_true, Bool.or_false, e_fld, e_fldO, e_fldSet, e_gmFld, e_gmNil, e_gmCons, e_gmTup, e_gmKtup, e_meth, e_make, e_methT, c_fld, k_fld, set_fld, eq_self, cond_true, cond_false, true_or, or_true, false_or, or_false, e_lc2, st_law_2, e1, e2, e3, e4]
theorem u4 (h : Ok A) (hn : n ≤ 60) : ∃ x, st_law_4 C [s0, s1, s2, s3, some (fr (.int n)), some (.s (.lst [antD A])), s6, s7, s8, s9, s10, s11, s12, s13, s14, s15, s16, s17, s18, s19, s20] = some (.nx, [s0, s1, s2, s3, some (fr (.int n)), some (.s (.lst (lineD A n))), x, s7, s8, s9, s10, s11, s12, s13, s14, s15, s16, s17, s18, s19, s20]) := by
  obtain ⟨η', e1, x, rfl⟩ := loop_inv (tm := gmName 6) (body := fb_law_1 C) (fun i η => ∃ x, η = [s0, s1, s2, s3, some (fr (.int n)), some (.s (.lst (lineD A i))), x, s7, s8, s9, s10, s11, s12, s13, s14, s15, s16, s17, s18, s19, s20]) (intsD 0 n) 0 [s0, s1, s2, s3, some (fr (.int n)), some (.s (.lst [antD A])), s6, s7, s8, s9, s10, s11, s12, s13, s14, s15, s16, s17, s18, s19, s20] ⟨s6, rfl⟩ fun i d η hd hI => by
    obtain ⟨x, rfl⟩ := hI
    have hi : i < n := by
      have := (List.getElem?_eq_some_iff.mp hd).1
      rw [len_ints] at this; exact this
    rw [Nat.zero_add]
    have e1 := r_law_step (ok_steps h i)
    have e2 : dAppend (.lst (lineD A i)) [antD (stepA (steps A i))] = some (.non, .lst (lineD A (i + 1))) := by
      show (if (lineD A i).length < 16777216 then some (D.non, O1.lst (lineD A i ++ [antD (stepA (steps A i))])) else none) = _
      rw [line_len, if_pos (by omega), line_succ]; rfl
    refine ⟨[s0, s1, s2, s3, some (fr (.int n)), some (.s (.lst (lineD A i))), some (fr d), s7, s8, s9, s10, s11, s12, s13, s14, s15, s16, s17, s18, s19, s20], [s0, s1, s2, s3, some (fr (.int n)), some (.s (.lst (lineD A (i + 1)))), some (fr d), s7, s8, s9, s10, s11, s12, s13, s14, s15, s16, s17, s18, s19, s20], by simp -implicitDefEqProofs -dsimp only [e_seq, e_skip, e_never, e_ret, e_n, e_c, e_d, e_do, e_nil, e_cons, e_op2, e_un, e_chain, e_b, e_not, e_and, e_or, e_andV, e_orV, e_notV, e_if, e_ifS, e_call, e_callN, e_callF, e_fz, e_tup, e_tupZ, e_lst, e_set, e_asg, e_put, e_get2, e_mut, e_mtr, e_for, e_iter, e_over, e_lc, e_yes, e_pno, e_po, e_cut, e_par2, e_par3, e_catN, e_newT, e_name, e_loc, e_take, e_move, e_gname, c_d, c_loc, k_loc, cs_nil', cs_cons', fz_fro, fz_lst, fz_dT, bnd_some, bnd_none, Option.bind_some, Option.bind_none, Option.map_some, Option.map_none, List.getElem?_cons_zero, List.getElem?_cons_succ, List.length_cons, List.length_nil, if_true, List.map_cons, List.map_nil, Nat.reduceSub, List.replicate_zero, List.replicate_succ, List.append_nil, List.cons_append, List.nil_append, List.set_cons_zero, List.set_cons_succ, Nat.reduceAdd, Nat.reduceLT, Nat.reduceLeDiff, argsO_nil, argsO_d, argsO_loc, locs_nil, locs_d, locs_loc, nodup_nil', nodup_one, backE_nil, backE_d, backE_loc, wipeE_nil, wipeE_cons, calmE_nil, calmE_none, restE_nil, restE_cons, keep_0, keep_1, keep_2, keep_3, keep_4, own_lst, own_dT, own_fro, ite_true', ite_false', reduceIte, Bool.not_true, Bool.not_false, Bool.false_eq_true, Option.join_some, List.head?_cons, List.tail_cons, set_loc, Option.getD_some, Option.getD_none, and_self, and_true, true_and, List.lookup, fr, Bool.true_and, Bool.false_and, Bool.and_true, Bool.and_false, Bool.and_self, Bool.true_or, Bool.false_or, Bool.or_true, Bool.or_false, e_fld, e_fldO, e_fldSet, e_gmFld, e_gmNil, e_gmCons, e_gmTup, e_gmKtup, e_meth, e_make, e_methT, c_fld, k_fld, set_fld, eq_self, cond_true, cond_false, true_or, or_true, false_or, or_false, e_lc2], .inl ?_, _, rfl⟩
    simp -implicitDefEqProofs -dsimp only [e_seq, e_skip, e_never, e_ret, e_n, e_c, e_d, e_do, e_nil, e_cons, e_op2, e_un, e_chain, e_b, e_not, e_and, e_or, e_andV, e_orV, e_notV, e_if, e_ifS, e_call, e_callN, e_callF, e_fz, e_tup, e_tupZ, e_lst, e_set, e_asg, e_put, e_get2, e_mut, e_mtr, e_for, e_iter, e_over, e_lc, e_yes, e_pno, e_po, e_cut, e_par2, e_par3, e_catN, e_newT, e_name, e_loc, e_take, e_move, e_gname, c_d, c_loc, k_loc, cs_nil', cs_cons', fz_fro, fz_lst, fz_dT, bnd_some, bnd_none, Option.bind_some, Option.bind_none, Option.map_some, Option.map_none, List.getElem?_cons_zero, List.getElem?_cons_succ, List.length_cons, List.length_nil, if_true, List.map_cons, List.map_nil, Nat.reduceSub, List.replicate_zero, List.replicate_succ, List.append_nil, List.cons_append, List.nil_append, List.set_cons_zero, List.set_cons_succ, Nat.reduceAdd, Nat.reduceLT, Nat.reduceLeDiff, argsO_nil, argsO_d, argsO_loc, locs_nil, locs_d, locs_loc, nodup_nil', nodup_one, backE_nil, backE_d, backE_loc, wipeE_nil, wipeE_cons, calmE_nil, calmE_none, restE_nil, restE_cons, keep_0, keep_1, keep_2, keep_3, keep_4, own_lst, own_dT, own_fro, ite_true', ite_false', reduceIte, Bool.not_true, Bool.not_false, Bool.false_eq_true, Option.join_some, List.head?_cons, List.tail_cons, set_loc, Option.getD_some, Option.getD_none, and_self, and_true, true_and, List.lookup, fr, Bool.true_and, Bool.false_and, Bool.and_true, Bool.and_false, Bool.and_self, Bool.true_or, Bool.false_or, Bool.or_true, Bool.or_false, e_fld, e_fldO, e_fldSet, e_gmFld, e_gmNil, e_gmCons, e_gmTup, e_gmKtup, e_meth, e_make, e_methT, c_fld, k_fld, set_fld, eq_self, cond_true, cond_false, true_or, or_true, false_or, or_false, e_lc2, fb_law_1, st_law_3, show ∀ xs, kindT "list" (.lst xs) = true from fun _ => rfl, dNeg_i, dIx_l, line_last, e1, e2]
  refine ⟨x, ?_⟩
  rw [len_ints, Nat.zero_add] at e1
  have e2 := range_n (n := n) (by omega)
  simp -implicitDefEqProofs -dsimp only [e_seq, e_skip, e_never, e_ret, e_n, e_c, e_d, e_do, e_nil, e_cons, e_op2, e_un, e_chain, e_b, e_not, e_and, e_or, e_andV, e_orV, e_notV, e_if, e_ifS, e_call, e_callN, e_callF, e_fz, e_tup, e_tupZ, e_lst, e_set, e_asg, e_put, e_get2, e_mut, e_mtr, e_for, e_iter, e_over, e_lc, e_yes, e_pno, e_po, e_cut, e_par2, e_par3, e_catN, e_newT, e_name, e_loc, e_take, e_move, e_gname, c_d, c_loc, k_loc, cs_nil', cs_cons', fz_fro, fz_lst, fz_dT, bnd_some, bnd_none, Option.bind_some, Option.bind_none, Option.map_some, Option.map_none, List.getElem?_cons_zero, List.getElem?_cons_succ, List.length_cons, List.length_nil, if_true, List.map_cons, List.map_nil, Nat.reduceSub, List.replicate_zero, List.replicate_succ, List.append_nil, List.cons_append, List.nil_append, List.set_cons_zero, List.set_cons_succ, Nat.reduceAdd, Nat.reduceLT, Nat.reduceLeDiff, argsO_nil, argsO_d, argsO_loc, locs_nil, locs_d, locs_loc, nodup_nil', nodup_one, backE_nil, backE_d, backE_loc, wipeE_nil, wipeE_cons, calmE_nil, calmE_none, restE_nil, restE_cons, keep_0, keep_1, keep_2, keep_3, keep_4, own_lst, own_dT, own_fro, ite_true', ite_false', reduceIte, Bool.not_true, Bool.not_false, Bool.false_eq_true, Option.join_some, List.head?_cons, List.tail_cons, set_loc, Option.getD_some, Option.getD_none, and_self, and_true, true_and, List.lookup, fr, Bool.true_and, Bool.false_and, Bool.and_true, Bool.and_false, Bool.and_self, Bool.true_or, Bool.false_or, Bool.or_true, Bool.or_false, e_fld, e_fldO, e_fldSet, e_gmFld, e_gmNil, e_gmCons, e_gmTup, e_gmKtup, e_meth, e_make, e_methT, c_fld, k_fld, set_fld, eq_self, cond_true, cond_false, true_or, or_true, false_or, or_false, e_lc2, st_law_4, e2, e1]
theorem u5 (hn : n ≤ 60) (c17 : s17 = none) : st_law_5 C [s0, s1, s2, s3, s4, some (.s (.lst (lineD A n))), s6, s7, s8, s9, s10, s11, s12, s13, s14, s15, s16, s17, s18, s19, s20] = some (.nx, [s0, s1, s2, s3, s4, some (fr (.lst (lineD A n))), s6, some (.s (.lst ((walkP A (n + 1)).map VL.pairD))), s8, s9, s10, s11, s12, s13, s14, s15, s16, s17, s18, s19, s20]) := by
  subst c17
  have lc := lc_all (own := [17]) (tm := gmName 17) (me := ce_law_1 C) (η := [s0, s1, s2, s3, s4, some (fr (.lst (lineD A n))), s6, s7, s8, s9, s10, s11, s12, s13, s14, s15, s16, none, s18, s19, s20]) (fun d => match d with
    | .tup (_ :: _ :: _ :: c :: _) => c
    | d => d) (lineD A n) fun d hd => by
    unfold lineD at hd
    obtain ⟨j, _, rfl⟩ := List.mem_map.mp hd
    exact ⟨[s0, s1, s2, s3, s4, some (fr (.lst (lineD A n))), s6, s7, s8, s9, s10, s11, s12, s13, s14, s15, s16, some (fr (antD (steps A j))), s18, s19, s20], [s0, s1, s2, s3, s4, some (fr (.lst (lineD A n))), s6, s7, s8, s9, s10, s11, s12, s13, s14, s15, s16, some (fr (antD (steps A j))), s18, s19, s20], by simp -implicitDefEqProofs -dsimp only [e_seq, e_skip, e_never, e_ret, e_n, e_c, e_d, e_do, e_nil, e_cons, e_op2, e_un, e_chain, e_b, e_not, e_and, e_or, e_andV, e_orV, e_notV, e_if, e_ifS, e_call, e_callN, e_callF, e_fz, e_tup, e_tupZ, e_lst, e_set, e_asg, e_put, e_get2, e_mut, e_mtr, e_for, e_iter, e_over, e_lc, e_yes, e_pno, e_po, e_cut, e_par2, e_par3, e_catN, e_newT, e_name, e_loc, e_take, e_move, e_gname, c_d, c_loc, k_loc, cs_nil', cs_cons', fz_fro, fz_lst, fz_dT, bnd_some, bnd_none, Option.bind_some, Option.bind_none, Option.map_some, Option.map_none, List.getElem?_cons_zero, List.getElem?_cons_succ, List.length_cons, List.length_nil, if_true, List.map_cons, List.map_nil, Nat.reduceSub, List.replicate_zero, List.replicate_succ, List.append_nil, List.cons_append, List.nil_append, List.set_cons_zero, List.set_cons_succ, Nat.reduceAdd, Nat.reduceLT, Nat.reduceLeDiff, argsO_nil, argsO_d, argsO_loc, locs_nil, locs_d, locs_loc, nodup_nil', nodup_one, backE_nil, backE_d, backE_loc, wipeE_nil, wipeE_cons, calmE_nil, calmE_none, restE_nil, restE_cons, keep_0, keep_1, keep_2, keep_3, keep_4, own_lst, own_dT, own_fro, ite_true', ite_false', reduceIte, Bool.not_true, Bool.not_false, Bool.false_eq_true, Option.join_some, List.head?_cons, List.tail_cons, set_loc, Option.getD_some, Option.getD_none, and_self, and_true, true_and, List.lookup, fr, Bool.true_and, Bool.false_and, Bool.and_true, Bool.and_false, Bool.and_self, Bool.true_or, Bool.false_or, Bool.or_true, Bool.or_false, e_fld, e_fldO, e_fldSet, e_gmFld, e_gmNil, e_gmCons, e_gmTup, e_gmKtup, e_meth, e_make, e_methT, c_fld, k_fld, set_fld, eq_self, cond_true, cond_false, true_or, or_true, false_or, or_false, e_lc2], by simp -implicitDefEqProofs -dsimp only [e_seq, e_skip, e_never, e_ret, e_n, e_c, e_d, e_do, e_nil, e_cons, e_op2, e_un, e_chain, e_b, e_not, e_and, e_or, e_andV, e_orV, e_notV, e_if, e_ifS, e_call, e_callN, e_callF, e_fz, e_tup, e_tupZ, e_lst, e_set, e_asg, e_put, e_get2, e_mut, e_mtr, e_for, e_iter, e_over, e_lc, e_yes, e_pno, e_po, e_cut, e_par2, e_par3, e_catN, e_newT, e_name, e_loc, e_take, e_move, e_gname, c_d, c_loc, k_loc, cs_nil', cs_cons', fz_fro, fz_lst, fz_dT, bnd_some, bnd_none, Option.bind_some, Option.bind_none, Option.map_some, Option.map_none, List.getElem?_cons_zero, List.getElem?_cons_succ, List.length_cons, List.length_nil, if_true, List.map_cons, List.map_nil, Nat.reduceSub, List.replicate_zero, List.replicate_succ, List.append_nil, List.cons_append, List.nil_append, List.set_cons_zero, List.set_cons_succ, Nat.reduceAdd, Nat.reduceLT, Nat.reduceLeDiff, argsO_nil, argsO_d, argsO_loc, locs_nil, locs_d, locs_loc, nodup_nil', nodup_one, backE_nil, backE_d, backE_loc, wipeE_nil, wipeE_cons, calmE_nil, calmE_none, restE_nil, restE_cons, keep_0, keep_1, keep_2, keep_3, keep_4, own_lst, own_dT, own_fro, ite_true', ite_false', reduceIte, Bool.not_true, Bool.not_false, Bool.false_eq_true, Option.join_some, List.head?_cons, List.tail_cons, set_loc, Option.getD_some, Option.getD_none, and_self, and_true, true_and, List.lookup, fr, Bool.true_and, Bool.false_and, Bool.and_true, Bool.and_false, Bool.and_self, Bool.true_or, Bool.false_or, Bool.or_true, Bool.or_false, e_fld, e_fldO, e_fldSet, e_gmFld, e_gmNil, e_gmCons, e_gmTup, e_gmKtup, e_meth, e_make, e_methT, c_fld, k_fld, set_fld, eq_self, cond_true, cond_false, true_or, or_true, false_or, or_false, e_lc2, ce_law_1, ant_3]; rfl, by simp -implicitDefEqProofs -dsimp only [e_seq, e_skip, e_never, e_ret, e_n, e_c, e_d, e_do, e_nil, e_cons, e_op2, e_un, e_chain, e_b, e_not, e_and, e_or, e_andV, e_orV, e_notV, e_if, e_ifS, e_call, e_callN, e_callF, e_fz, e_tup, e_tupZ, e_lst, e_set, e_asg, e_put, e_get2, e_mut, e_mtr, e_for, e_iter, e_over, e_lc, e_yes, e_pno, e_po, e_cut, e_par2, e_par3, e_catN, e_newT, e_name, e_loc, e_take, e_move, e_gname, c_d, c_loc, k_loc, cs_nil', cs_cons', fz_fro, fz_lst, fz_dT, bnd_some, bnd_none, Option.bind_some, Option.bind_none, Option.map_some, Option.map_none, List.getElem?_cons_zero, List.getElem?_cons_succ, List.length_cons, List.length_nil, if_true, List.map_cons, List.map_nil, Nat.reduceSub, List.replicate_zero, List.replicate_succ, List.append_nil, List.cons_append, List.nil_append, List.set_cons_zero, List.set_cons_succ, Nat.reduceAdd, Nat.reduceLT, Nat.reduceLeDiff, argsO_nil, argsO_d, argsO_loc, locs_nil, locs_d, locs_loc, nodup_nil', nodup_one, backE_nil, backE_d, backE_loc, wipeE_nil, wipeE_cons, calmE_nil, calmE_none, restE_nil, restE_cons, keep_0, keep_1, keep_2, keep_3, keep_4, own_lst, own_dT, own_fro, ite_true', ite_false', reduceIte, Bool.not_true, Bool.not_false, Bool.false_eq_true, Option.join_some, List.head?_cons, List.tail_cons, set_loc, Option.getD_some, Option.getD_none, and_self, and_true, true_and, List.lookup, fr, Bool.true_and, Bool.false_and, Bool.and_true, Bool.and_false, Bool.and_self, Bool.true_or, Bool.false_or, Bool.or_true, Bool.or_false, e_fld, e_fldO, e_fldSet, e_gmFld, e_gmNil, e_gmCons, e_gmTup, e_gmKtup, e_meth, e_make, e_methT, c_fld, k_fld, set_fld, eq_self, cond_true, cond_false, true_or, or_true, false_or, or_false, e_lc2]⟩
  rw [cells_line] at lc
  have sm : small (lineD A n).length = true := small_of (by rw [line_len]; omega)
  simp -implicitDefEqProofs -dsimp only [e_seq, e_skip, e_never, e_ret, e_n, e_c, e_d, e_do, e_nil, e_cons, e_op2, e_un, e_chain, e_b, e_not, e_and, e_or, e_andV, e_orV, e_notV, e_if, e_ifS, e_call, e_callN, e_callF, e_fz, e_tup, e_tupZ, e_lst, e_set, e_asg, e_put, e_get2, e_mut, e_mtr, e_for, e_iter, e_over, e_lc, e_yes, e_pno, e_po, e_cut, e_par2, e_par3, e_catN, e_newT, e_name, e_loc, e_take, e_move, e_gname, c_d, c_loc, k_loc, cs_nil', cs_cons', fz_fro, fz_lst, fz_dT, bnd_some, bnd_none, Option.bind_some, Option.bind_none, Option.map_some, Option.map_none, List.getElem?_cons_zero, List.getElem?_cons_succ, List.length_cons, List.length_nil, if_true, List.map_cons, List.map_nil, Nat.reduceSub, List.replicate_zero, List.replicate_succ, List.append_nil, List.cons_append, List.nil_append, List.set_cons_zero, List.set_cons_succ, Nat.reduceAdd, Nat.reduceLT, Nat.reduceLeDiff, argsO_nil, argsO_d, argsO_loc, locs_nil, locs_d, locs_loc, nodup_nil', nodup_one, backE_nil, backE_d, backE_loc, wipeE_nil, wipeE_cons, calmE_nil, calmE_none, restE_nil, restE_cons, keep_0, keep_1, keep_2, keep_3, keep_4, own_lst, own_dT, own_fro, ite_true', ite_false', reduceIte, Bool.not_true, Bool.not_false, Bool.false_eq_true, Option.join_some, List.head?_cons, List.tail_cons, set_loc, Option.getD_some, Option.getD_none, and_self, and_true, true_and, List.lookup, fr, Bool.true_and, Bool.false_and, Bool.and_true, Bool.and_false, Bool.and_self, Bool.true_or, Bool.false_or, Bool.or_true, Bool.or_false, e_fld, e_fldO, e_fldSet, e_gmFld, e_gmNil, e_gmCons, e_gmTup, e_gmKtup, e_meth, e_make, e_methT, c_fld, k_fld, set_fld, eq_self, cond_true, cond_false, true_or, or_true, false_or, or_false, e_lc2, st_law_5, itemsI, sm, lc]
theorem u7 (hn : n ≤ 60) (c9 : Cm s9) : ∃ T x, Tly T (walkP A n) ∧ Cm x ∧ st_law_7 C [s0, s1, s2, s3, some (fr (.int n)), s5, s6, some (.s (.lst ((walkP A (n + 1)).map VL.pairD))), some (.s (.dT [])), s9, s10, s11, s12, s13, s14, s15, s16, s17, s18, s19, s20] = some (.nx, [s0, s1, s2, s3, some (fr (.int n)), s5, s6, some (.s (.lst ((walkP A (n + 1)).map VL.pairD))), some (.s (.dT (gI .int T))), x, s10, s11, s12, s13, s14, s15, s16, s17, s18, s19, s20]) := by
  have e2 : dCut (.lst ((walkP A (n + 1)).map VL.pairD)) none (some (n : Int)) = some (.lst ((walkP A n).map VL.pairD)) := by
    rw [dCut_l_to (by rw [List.length_map, walk_len]; omega), ← List.map_take, walk_take]
  obtain ⟨η', e3, T, x, t, hx, rfl⟩ := loop_inv (tm := gmName 9) (body := fb_law_2 C) (fun i η => ∃ T x, Tly T ((walkP A n).take i) ∧ Cm x ∧ η = [s0, s1, s2, s3, some (fr (.int n)), s5, s6, some (.s (.lst ((walkP A (n + 1)).map VL.pairD))), some (.s (.dT (gI .int T))), x, s10, s11, s12, s13, s14, s15, s16, s17, s18, s19, s20]) ((walkP A n).map VL.pairD) 0 [s0, s1, s2, s3, some (fr (.int n)), s5, s6, some (.s (.lst ((walkP A (n + 1)).map VL.pairD))), some (.s (.dT [])), s9, s10, s11, s12, s13, s14, s15, s16, s17, s18, s19, s20] ⟨[], s9, by rw [List.take_zero]; exact tly_nil, c9, rfl⟩ fun i d η hd hI => by
    obtain ⟨T, x, t, _, rfl⟩ := hI
    rw [Nat.zero_add] at t ⊢
    rw [List.getElem?_map] at hd
    obtain ⟨p, hp, rfl⟩ := Option.map_eq_some_iff.mp hd
    have tl := t.ln
    rw [List.length_take, walk_len] at tl
    have e4 := put_gI (T := T) (p := p) (v := (((walkP A n).take i).count p : Nat) + 1) (by omega)
    refine ⟨[s0, s1, s2, s3, some (fr (.int n)), s5, s6, some (.s (.lst ((walkP A (n + 1)).map VL.pairD))), some (.s (.dT (gI .int T))), some (fr (VL.pairD p)), s10, s11, s12, s13, s14, s15, s16, s17, s18, s19, s20], [s0, s1, s2, s3, some (fr (.int n)), s5, s6, some (.s (.lst ((walkP A (n + 1)).map VL.pairD))), some (.s (.dT (gI .int (putT T p ((((walkP A n).take i).count p : Nat) + 1))))), some (fr (VL.pairD p)), s10, s11, s12, s13, s14, s15, s16, s17, s18, s19, s20], by simp -implicitDefEqProofs -dsimp only [e_seq, e_skip, e_never, e_ret, e_n, e_c, e_d, e_do, e_nil, e_cons, e_op2, e_un, e_chain, e_b, e_not, e_and, e_or, e_andV, e_orV, e_notV, e_if, e_ifS, e_call, e_callN, e_callF, e_fz, e_tup, e_tupZ, e_lst, e_set, e_asg, e_put, e_get2, e_mut, e_mtr, e_for, e_iter, e_over, e_lc, e_yes, e_pno, e_po, e_cut, e_par2, e_par3, e_catN, e_newT, e_name, e_loc, e_take, e_move, e_gname, c_d, c_loc, k_loc, cs_nil', cs_cons', fz_fro, fz_lst, fz_dT, bnd_some, bnd_none, Option.bind_some, Option.bind_none, Option.map_some, Option.map_none, List.getElem?_cons_zero, List.getElem?_cons_succ, List.length_cons, List.length_nil, if_true, List.map_cons, List.map_nil, Nat.reduceSub, List.replicate_zero, List.replicate_succ, List.append_nil, List.cons_append, List.nil_append, List.set_cons_zero, List.set_cons_succ, Nat.reduceAdd, Nat.reduceLT, Nat.reduceLeDiff, argsO_nil, argsO_d, argsO_loc, locs_nil, locs_d, locs_loc, nodup_nil', nodup_one, backE_nil, backE_d, backE_loc, wipeE_nil, wipeE_cons, calmE_nil, calmE_none, restE_nil, restE_cons, keep_0, keep_1, keep_2, keep_3, keep_4, own_lst, own_dT, own_fro, ite_true', ite_false', reduceIte, Bool.not_true, Bool.not_false, Bool.false_eq_true, Option.join_some, List.head?_cons, List.tail_cons, set_loc, Option.getD_some, Option.getD_none, and_self, and_true, true_and, List.lookup, fr, Bool.true_and, Bool.false_and, Bool.and_true, Bool.and_false, Bool.and_self, Bool.true_or, Bool.false_or, Bool.or_true, Bool.or_false, e_fld, e_fldO, e_fldSet, e_gmFld, e_gmNil, e_gmCons, e_gmTup, e_gmKtup, e_meth, e_make, e_methT, c_fld, k_fld, set_fld, eq_self, cond_true, cond_false, true_or, or_true, false_or, or_false, e_lc2], .inl ?_, _, some (fr (VL.pairD p)), ?_, .inr ⟨_, rfl⟩, rfl⟩
    · simp -implicitDefEqProofs -dsimp only [e_seq, e_skip, e_never, e_ret, e_n, e_c, e_d, e_do, e_nil, e_cons, e_op2, e_un, e_chain, e_b, e_not, e_and, e_or, e_andV, e_orV, e_notV, e_if, e_ifS, e_call, e_callN, e_callF, e_fz, e_tup, e_tupZ, e_lst, e_set, e_asg, e_put, e_get2, e_mut, e_mtr, e_for, e_iter, e_over, e_lc, e_yes, e_pno, e_po, e_cut, e_par2, e_par3, e_catN, e_newT, e_name, e_loc, e_take, e_move, e_gname, c_d, c_loc, k_loc, cs_nil', cs_cons', fz_fro, fz_lst, fz_dT, bnd_some, bnd_none, Option.bind_some, Option.bind_none, Option.map_some, Option.map_none, List.getElem?_cons_zero, List.getElem?_cons_succ, List.length_cons, List.length_nil, if_true, List.map_cons, List.map_nil, Nat.reduceSub, List.replicate_zero, List.replicate_succ, List.append_nil, List.cons_append, List.nil_append, List.set_cons_zero, List.set_cons_succ, Nat.reduceAdd, Nat.reduceLT, Nat.reduceLeDiff, argsO_nil, argsO_d, argsO_loc, locs_nil, locs_d, locs_loc, nodup_nil', nodup_one, backE_nil, backE_d, backE_loc, wipeE_nil, wipeE_cons, calmE_nil, calmE_none, restE_nil, restE_cons, keep_0, keep_1, keep_2, keep_3, keep_4, own_lst, own_dT, own_fro, ite_true', ite_false', reduceIte, Bool.not_true, Bool.not_false, Bool.false_eq_true, Option.join_some, List.head?_cons, List.tail_cons, set_loc, Option.getD_some, Option.getD_none, and_self, and_true, true_and, List.lookup, fr, Bool.true_and, Bool.false_and, Bool.and_true, Bool.and_false, Bool.and_self, Bool.true_or, Bool.false_or, Bool.or_true, Bool.or_false, e_fld, e_fldO, e_fldSet, e_gmFld, e_gmNil, e_gmCons, e_gmTup, e_gmKtup, e_meth, e_make, e_methT, c_fld, k_fld, set_fld, eq_self, cond_true, cond_false, true_or, or_true, false_or, or_false, e_lc2, fb_law_2, st_law_6, isDict_T, dLook_pair, tly_get2 t, dAdd_i, e4]
    · rw [VL.take_next hp]; exact tly_add t p
  rw [List.length_map, walk_len, Nat.zero_add, List.take_of_length_le (by rw [walk_len]; exact Nat.le_refl _)] at t
  refine ⟨T, x, t, hx, ?_⟩
  simp -implicitDefEqProofs -dsimp only [e_seq, e_skip, e_never, e_ret, e_n, e_c, e_d, e_do, e_nil, e_cons, e_op2, e_un, e_chain, e_b, e_not, e_and, e_or, e_andV, e_orV, e_notV, e_if, e_ifS, e_call, e_callN, e_callF, e_fz, e_tup, e_tupZ, e_lst, e_set, e_asg, e_put, e_get2, e_mut, e_mtr, e_for, e_iter, e_over, e_lc, e_yes, e_pno, e_po, e_cut, e_par2, e_par3, e_catN, e_newT, e_name, e_loc, e_take, e_move, e_gname, c_d, c_loc, k_loc, cs_nil', cs_cons', fz_fro, fz_lst, fz_dT, bnd_some, bnd_none, Option.bind_some, Option.bind_none, Option.map_some, Option.map_none, List.getElem?_cons_zero, List.getElem?_cons_succ, List.length_cons, List.length_nil, if_true, List.map_cons, List.map_nil, Nat.reduceSub, List.replicate_zero, List.replicate_succ, List.append_nil, List.cons_append, List.nil_append, List.set_cons_zero, List.set_cons_succ, Nat.reduceAdd, Nat.reduceLT, Nat.reduceLeDiff, argsO_nil, argsO_d, argsO_loc, locs_nil, locs_d, locs_loc, nodup_nil', nodup_one, backE_nil, backE_d, backE_loc, wipeE_nil, wipeE_cons, calmE_nil, calmE_none, restE_nil, restE_cons, keep_0, keep_1, keep_2, keep_3, keep_4, own_lst, own_dT, own_fro, ite_true', ite_false', reduceIte, Bool.not_true, Bool.not_false, Bool.false_eq_true, Option.join_some, List.head?_cons, List.tail_cons, set_loc, Option.getD_some, Option.getD_none, and_self, and_true, true_and, List.lookup, fr, Bool.true_and, Bool.false_and, Bool.and_true, Bool.and_false, Bool.and_self, Bool.true_or, Bool.false_or, Bool.or_true, Bool.or_false, e_fld, e_fldO, e_fldSet, e_gmFld, e_gmNil, e_gmCons, e_gmTup, e_gmKtup, e_meth, e_make, e_methT, c_fld, k_fld, set_fld, eq_self, cond_true, cond_false, true_or, or_true, false_or, or_false, e_lc2, st_law_7, e2, itemsI, e3]
theorem free_succ {h w : Nat} {ps : List Pt} : ((cells (h + 1) w).filter fun p => !decide (p ∈ ps)) = ((cells h w).filter fun p => !decide (p ∈ ps)) ++ (rowP h w).filter fun p => !decide (p ∈ ps) := by
  rw [cells_succ, List.filter_append]
theorem u9 (h : Ok A) {T : List (Pt × Int)} {ps : List Pt} (t : Tly T ps) (c18 : s18 = none) : ∃ x, st_law_9 C [s0, s1, s2, some (fr (antD A)), s4, s5, s6, s7, some (.s (.dT (gI .int T))), s9, some (fr (.lst [])), s11, s12, s13, s14, s15, s16, s17, s18, s19, s20] = some (.nx, [s0, s1, s2, some (fr (antD A)), s4, s5, s6, s7, some (.s (.dT (gI .int T))), s9, some (fr (.lst ((freeP A ps).map VL.pairD))), x, s12, s13, s14, s15, s16, s17, s18, s19, s20]) := by
  subst c18
  have h2 := h.h2
  have w2 := h.w2
  have e7 := range_n (n := A.h) (by omega)
  have e8 := range_n (n := A.w) (by omega)
  obtain ⟨η', e3, x, rfl⟩ := loop_inv (tm := gmName 11) (body := fb_law_3 C) (fun i η => ∃ x, η = [s0, s1, s2, some (fr (antD A)), s4, s5, s6, s7, some (.s (.dT (gI .int T))), s9, some (fr (.lst (((cells i A.w).filter fun p => !decide (p ∈ ps)).map VL.pairD))), x, s12, s13, s14, s15, s16, s17, none, s19, s20]) (intsD 0 A.h) 0 [s0, s1, s2, some (fr (antD A)), s4, s5, s6, s7, some (.s (.dT (gI .int T))), s9, some (fr (.lst [])), s11, s12, s13, s14, s15, s16, s17, none, s19, s20] ⟨s11, rfl⟩ fun i d η hd hI => by
    obtain ⟨x, rfl⟩ := hI
    rw [Nat.zero_add]
    have hi : i < A.h := by
      have := (List.getElem?_eq_some_iff.mp hd).1
      rw [len_ints] at this; exact this
    have : d = .int i := by
      unfold intsD at hd
      rw [List.getElem?_map, List.getElem?_range hi] at hd
      cases hd
      show D.int (0 + (i : Int)) = _
      rw [Int.zero_add]
    subst this
    have lc := lc_filter (own := [18]) (tm := gmName 18) (mt := ct_law_1 C) (me := ce_law_2 C) (η := [s0, s1, s2, some (fr (antD A)), s4, s5, s6, s7, some (.s (.dT (gI .int T))), s9, some (fr (.lst (((cells i A.w).filter fun p => !decide (p ∈ ps)).map VL.pairD))), some (fr (.int i)), s12, s13, s14, s15, s16, s17, none, s19, s20]) (fun d => match d with
      | .int j => !decide (((i : Int), j) ∈ ps)
      | _ => false) (fun d => .tup [.int i, d]) (intsD 0 A.w) fun d hd => by
      unfold intsD at hd
      obtain ⟨j, hj, rfl⟩ := List.mem_map.mp hd
      rw [Int.zero_add]
      have e9 := notIn_gI (f := D.int) (T := T) (p := ((i : Int), (j : Int)))
      have e9 : dNotIn (.tup [.int i, .int j]) (.dT (gI D.int T)) = some (.bl (!decide (((i : Int), (j : Int)) ∈ ps))) := by
        rw [show decide (((i : Int), (j : Int)) ∈ ps) = decide (((i : Int), (j : Int)) ∈ T.map (·.1)) from decide_eq_decide.mpr (tly_keys t).symm]
        exact e9
      exact ⟨[s0, s1, s2, some (fr (antD A)), s4, s5, s6, s7, some (.s (.dT (gI .int T))), s9, some (fr (.lst (((cells i A.w).filter fun p => !decide (p ∈ ps)).map VL.pairD))), some (fr (.int i)), s12, s13, s14, s15, s16, s17, some (fr (.int j)), s19, s20], [s0, s1, s2, some (fr (antD A)), s4, s5, s6, s7, some (.s (.dT (gI .int T))), s9, some (fr (.lst (((cells i A.w).filter fun p => !decide (p ∈ ps)).map VL.pairD))), some (fr (.int i)), s12, s13, s14, s15, s16, s17, some (fr (.int j)), s19, s20], by simp -implicitDefEqProofs -dsimp only [e_seq, e_skip, e_never, e_ret, e_n, e_c, e_d, e_do, e_nil, e_cons, e_op2, e_un, e_chain, e_b, e_not, e_and, e_or, e_andV, e_orV, e_notV, e_if, e_ifS, e_call, e_callN, e_callF, e_fz, e_tup, e_tupZ, e_lst, e_set, e_asg, e_put, e_get2, e_mut, e_mtr, e_for, e_iter, e_over, e_lc, e_yes, e_pno, e_po, e_cut, e_par2, e_par3, e_catN, e_newT, e_name, e_loc, e_take, e_move, e_gname, c_d, c_loc, k_loc, cs_nil', cs_cons', fz_fro, fz_lst, fz_dT, bnd_some, bnd_none, Option.bind_some, Option.bind_none, Option.map_some, Option.map_none, List.getElem?_cons_zero, List.getElem?_cons_succ, List.length_cons, List.length_nil, if_true, List.map_cons, List.map_nil, Nat.reduceSub, List.replicate_zero, List.replicate_succ, List.append_nil, List.cons_append, List.nil_append, List.set_cons_zero, List.set_cons_succ, Nat.reduceAdd, Nat.reduceLT, Nat.reduceLeDiff, argsO_nil, argsO_d, argsO_loc, locs_nil, locs_d, locs_loc, nodup_nil', nodup_one, backE_nil, backE_d, backE_loc, wipeE_nil, wipeE_cons, calmE_nil, calmE_none, restE_nil, restE_cons, keep_0, keep_1, keep_2, keep_3, keep_4, own_lst, own_dT, own_fro, ite_true', ite_false', reduceIte, Bool.not_true, Bool.not_false, Bool.false_eq_true, Option.join_some, List.head?_cons, List.tail_cons, set_loc, Option.getD_some, Option.getD_none, and_self, and_true, true_and, List.lookup, fr, Bool.true_and, Bool.false_and, Bool.and_true, Bool.and_false, Bool.and_self, Bool.true_or, Bool.false_or, Bool.or_true, Bool.or_false, e_fld, e_fldO, e_fldSet, e_gmFld, e_gmNil, e_gmCons, e_gmTup, e_gmKtup, e_meth, e_make, e_methT, c_fld, k_fld, set_fld, eq_self, cond_true, cond_false, true_or, or_true, false_or, or_false, e_lc2], by simp -implicitDefEqProofs -dsimp only [e_seq, e_skip, e_never, e_ret, e_n, e_c, e_d, e_do, e_nil, e_cons, e_op2, e_un, e_chain, e_b, e_not, e_and, e_or, e_andV, e_orV, e_notV, e_if, e_ifS, e_call, e_callN, e_callF, e_fz, e_tup, e_tupZ, e_lst, e_set, e_asg, e_put, e_get2, e_mut, e_mtr, e_for, e_iter, e_over, e_lc, e_yes, e_pno, e_po, e_cut, e_par2, e_par3, e_catN, e_newT, e_name, e_loc, e_take, e_move, e_gname, c_d, c_loc, k_loc, cs_nil', cs_cons', fz_fro, fz_lst, fz_dT, bnd_some, bnd_none, Option.bind_some, Option.bind_none, Option.map_some, Option.map_none, List.getElem?_cons_zero, List.getElem?_cons_succ, List.length_cons, List.length_nil, if_true, List.map_cons, List.map_nil, Nat.reduceSub, List.replicate_zero, List.replicate_succ, List.append_nil, List.cons_append, List.nil_append, List.set_cons_zero, List.set_cons_succ, Nat.reduceAdd, Nat.reduceLT, Nat.reduceLeDiff, argsO_nil, argsO_d, argsO_loc, locs_nil, locs_d, locs_loc, nodup_nil', nodup_one, backE_nil, backE_d, backE_loc, wipeE_nil, wipeE_cons, calmE_nil, calmE_none, restE_nil, restE_cons, keep_0, keep_1, keep_2, keep_3, keep_4, own_lst, own_dT, own_fro, ite_true', ite_false', reduceIte, Bool.not_true, Bool.not_false, Bool.false_eq_true, Option.join_some, List.head?_cons, List.tail_cons, set_loc, Option.getD_some, Option.getD_none, and_self, and_true, true_and, List.lookup, fr, Bool.true_and, Bool.false_and, Bool.and_true, Bool.and_false, Bool.and_self, Bool.true_or, Bool.false_or, Bool.or_true, Bool.or_false, e_fld, e_fldO, e_fldSet, e_gmFld, e_gmNil, e_gmCons, e_gmTup, e_gmKtup, e_meth, e_make, e_methT, c_fld, k_fld, set_fld, eq_self, cond_true, cond_false, true_or, or_true, false_or, or_false, e_lc2, ct_law_1, e9], fun _ => ⟨[s0, s1, s2, some (fr (antD A)), s4, s5, s6, s7, some (.s (.dT (gI .int T))), s9, some (fr (.lst (((cells i A.w).filter fun p => !decide (p ∈ ps)).map VL.pairD))), some (fr (.int i)), s12, s13, s14, s15, s16, s17, some (fr (.int j)), s19, s20], by simp -implicitDefEqProofs -dsimp only [e_seq, e_skip, e_never, e_ret, e_n, e_c, e_d, e_do, e_nil, e_cons, e_op2, e_un, e_chain, e_b, e_not, e_and, e_or, e_andV, e_orV, e_notV, e_if, e_ifS, e_call, e_callN, e_callF, e_fz, e_tup, e_tupZ, e_lst, e_set, e_asg, e_put, e_get2, e_mut, e_mtr, e_for, e_iter, e_over, e_lc, e_yes, e_pno, e_po, e_cut, e_par2, e_par3, e_catN, e_newT, e_name, e_loc, e_take, e_move, e_gname, c_d, c_loc, k_loc, cs_nil', cs_cons', fz_fro, fz_lst, fz_dT, bnd_some, bnd_none, Option.bind_some, Option.bind_none, Option.map_some, Option.map_none, List.getElem?_cons_zero, List.getElem?_cons_succ, List.length_cons, List.length_nil, if_true, List.map_cons, List.map_nil, Nat.reduceSub, List.replicate_zero, List.replicate_succ, List.append_nil, List.cons_append, List.nil_append, List.set_cons_zero, List.set_cons_succ, Nat.reduceAdd, Nat.reduceLT, Nat.reduceLeDiff, argsO_nil, argsO_d, argsO_loc, locs_nil, locs_d, locs_loc, nodup_nil', nodup_one, backE_nil, backE_d, backE_loc, wipeE_nil, wipeE_cons, calmE_nil, calmE_none, restE_nil, restE_cons, keep_0, keep_1, keep_2, keep_3, keep_4, own_lst, own_dT, own_fro, ite_true', ite_false', reduceIte, Bool.not_true, Bool.not_false, Bool.false_eq_true, Option.join_some, List.head?_cons, List.tail_cons, set_loc, Option.getD_some, Option.getD_none, and_self, and_true, true_and, List.lookup, fr, Bool.true_and, Bool.false_and, Bool.and_true, Bool.and_false, Bool.and_self, Bool.true_or, Bool.false_or, Bool.or_true, Bool.or_false, e_fld, e_fldO, e_fldSet, e_gmFld, e_gmNil, e_gmCons, e_gmTup, e_gmKtup, e_meth, e_make, e_methT, c_fld, k_fld, set_fld, eq_self, cond_true, cond_false, true_or, or_true, false_or, or_false, e_lc2, ce_law_2], by simp -implicitDefEqProofs -dsimp only [e_seq, e_skip, e_never, e_ret, e_n, e_c, e_d, e_do, e_nil, e_cons, e_op2, e_un, e_chain, e_b, e_not, e_and, e_or, e_andV, e_orV, e_notV, e_if, e_ifS, e_call, e_callN, e_callF, e_fz, e_tup, e_tupZ, e_lst, e_set, e_asg, e_put, e_get2, e_mut, e_mtr, e_for, e_iter, e_over, e_lc, e_yes, e_pno, e_po, e_cut, e_par2, e_par3, e_catN, e_newT, e_name, e_loc, e_take, e_move, e_gname, c_d, c_loc, k_loc, cs_nil', cs_cons', fz_fro, fz_lst, fz_dT, bnd_some, bnd_none, Option.bind_some, Option.bind_none, Option.map_some, Option.map_none, List.getElem?_cons_zero, List.getElem?_cons_succ, List.length_cons, List.length_nil, if_true, List.map_cons, List.map_nil, Nat.reduceSub, List.replicate_zero, List.replicate_succ, List.append_nil, List.cons_append, List.nil_append, List.set_cons_zero, List.set_cons_succ, Nat.reduceAdd, Nat.reduceLT, Nat.reduceLeDiff, argsO_nil, argsO_d, argsO_loc, locs_nil, locs_d, locs_loc, nodup_nil', nodup_one, backE_nil, backE_d, backE_loc, wipeE_nil, wipeE_cons, calmE_nil, calmE_none, restE_nil, restE_cons, keep_0, keep_1, keep_2, keep_3, keep_4, own_lst, own_dT, own_fro, ite_true', ite_false', reduceIte, Bool.not_true, Bool.not_false, Bool.false_eq_true, Option.join_some, List.head?_cons, List.tail_cons, set_loc, Option.getD_some, Option.getD_none, and_self, and_true, true_and, List.lookup, fr, Bool.true_and, Bool.false_and, Bool.and_true, Bool.and_false, Bool.and_self, Bool.true_or, Bool.false_or, Bool.or_true, Bool.or_false, e_fld, e_fldO, e_fldSet, e_gmFld, e_gmNil, e_gmCons, e_gmTup, e_gmKtup, e_meth, e_make, e_methT, c_fld, k_fld, set_fld, eq_self, cond_true, cond_false, true_or, or_true, false_or, or_false, e_lc2]⟩, fun _ => by simp -implicitDefEqProofs -dsimp only [e_seq, e_skip, e_never, e_ret, e_n, e_c, e_d, e_do, e_nil, e_cons, e_op2, e_un, e_chain, e_b, e_not, e_and, e_or, e_andV, e_orV, e_notV, e_if, e_ifS, e_call, e_callN, e_callF, e_fz, e_tup, e_tupZ, e_lst, e_set, e_asg, e_put, e_get2, e_mut, e_mtr, e_for, e_iter, e_over, e_lc, e_yes, e_pno, e_po, e_cut, e_par2, e_par3, e_catN, e_newT, e_name, e_loc, e_take, e_move, e_gname, c_d, c_loc, k_loc, cs_nil', cs_cons', fz_fro, fz_lst, fz_dT, bnd_some, bnd_none, Option.bind_some, Option.bind_none, Option.map_some, Option.map_none, List.getElem?_cons_zero, List.getElem?_cons_succ, List.length_cons, List.length_nil, if_true, List.map_cons, List.map_nil, Nat.reduceSub, List.replicate_zero, List.replicate_succ, List.append_nil, List.cons_append, List.nil_append, List.set_cons_zero, List.set_cons_succ, Nat.reduceAdd, Nat.reduceLT, Nat.reduceLeDiff, argsO_nil, argsO_d, argsO_loc, locs_nil, locs_d, locs_loc, nodup_nil', nodup_one, backE_nil, backE_d, backE_loc, wipeE_nil, wipeE_cons, calmE_nil, calmE_none, restE_nil, restE_cons, keep_0, keep_1, keep_2, keep_3, keep_4, own_lst, own_dT, own_fro, ite_true', ite_false', reduceIte, Bool.not_true, Bool.not_false, Bool.false_eq_true, Option.join_some, List.head?_cons, List.tail_cons, set_loc, Option.getD_some, Option.getD_none, and_self, and_true, true_and, List.lookup, fr, Bool.true_and, Bool.false_and, Bool.and_true, Bool.and_false, Bool.and_self, Bool.true_or, Bool.false_or, Bool.or_true, Bool.or_false, e_fld, e_fldO, e_fldSet, e_gmFld, e_gmNil, e_gmCons, e_gmTup, e_gmKtup, e_meth, e_make, e_methT, c_fld, k_fld, set_fld, eq_self, cond_true, cond_false, true_or, or_true, false_or, or_false, e_lc2]⟩
    have lc := lc.trans (congrArg (fun z => some (z, _)) (ints_row (i := i) (w := A.w) (fun p => !decide (p ∈ ps))))
    have sm : small (intsD 0 A.w).length = true := small_of (by rw [len_ints]; omega)
    have ad : dAdd (.lst (((cells i A.w).filter fun p => !decide (p ∈ ps)).map VL.pairD)) (.lst (((rowP i A.w).filter fun p => !decide (p ∈ ps)).map VL.pairD)) = some (.lst (((cells (i + 1) A.w).filter fun p => !decide (p ∈ ps)).map VL.pairD)) := by
      rw [free_succ, List.map_append]
      refine add_ll ?_
      rw [List.length_map, List.length_map]
      have := List.length_filter_le (fun p => !decide (p ∈ ps)) (cells i A.w)
      have := List.length_filter_le (fun p => !decide (p ∈ ps)) (rowP i A.w)
      have q : (rowP i A.w).length = A.w := by unfold rowP; simp
      have := Nat.mul_le_mul (show i ≤ 20 by omega) w2
      rw [cells_len] at *
      omega
    refine ⟨[s0, s1, s2, some (fr (antD A)), s4, s5, s6, s7, some (.s (.dT (gI .int T))), s9, some (fr (.lst (((cells i A.w).filter fun p => !decide (p ∈ ps)).map VL.pairD))), some (fr (.int i)), s12, s13, s14, s15, s16, s17, none, s19, s20], _, by simp -implicitDefEqProofs -dsimp only [e_seq, e_skip, e_never, e_ret, e_n, e_c, e_d, e_do, e_nil, e_cons, e_op2, e_un, e_chain, e_b, e_not, e_and, e_or, e_andV, e_orV, e_notV, e_if, e_ifS, e_call, e_callN, e_callF, e_fz, e_tup, e_tupZ, e_lst, e_set, e_asg, e_put, e_get2, e_mut, e_mtr, e_for, e_iter, e_over, e_lc, e_yes, e_pno, e_po, e_cut, e_par2, e_par3, e_catN, e_newT, e_name, e_loc, e_take, e_move, e_gname, c_d, c_loc, k_loc, cs_nil', cs_cons', fz_fro, fz_lst, fz_dT, bnd_some, bnd_none, Option.bind_some, Option.bind_none, Option.map_some, Option.map_none, List.getElem?_cons_zero, List.getElem?_cons_succ, List.length_cons, List.length_nil, if_true, List.map_cons, List.map_nil, Nat.reduceSub, List.replicate_zero, List.replicate_succ, List.append_nil, List.cons_append, List.nil_append, List.set_cons_zero, List.set_cons_succ, Nat.reduceAdd, Nat.reduceLT, Nat.reduceLeDiff, argsO_nil, argsO_d, argsO_loc, locs_nil, locs_d, locs_loc, nodup_nil', nodup_one, backE_nil, backE_d, backE_loc, wipeE_nil, wipeE_cons, calmE_nil, calmE_none, restE_nil, restE_cons, keep_0, keep_1, keep_2, keep_3, keep_4, own_lst, own_dT, own_fro, ite_true', ite_false', reduceIte, Bool.not_true, Bool.not_false, Bool.false_eq_true, Option.join_some, List.head?_cons, List.tail_cons, set_loc, Option.getD_some, Option.getD_none, and_self, and_true, true_and, List.lookup, fr, Bool.true_and, Bool.false_and, Bool.and_true, Bool.and_false, Bool.and_self, Bool.true_or, Bool.false_or, Bool.or_true, Bool.or_false, e_fld, e_fldO, e_fldSet, e_gmFld, e_gmNil, e_gmCons, e_gmTup, e_gmKtup, e_meth, e_make, e_methT, c_fld, k_fld, set_fld, eq_self, cond_true, cond_false, true_or, or_true, false_or, or_false, e_lc2], .inl ?_, some (fr (.int i)), rfl⟩
    simp -implicitDefEqProofs -dsimp only [e_seq, e_skip, e_never, e_ret, e_n, e_c, e_d, e_do, e_nil, e_cons, e_op2, e_un, e_chain, e_b, e_not, e_and, e_or, e_andV, e_orV, e_notV, e_if, e_ifS, e_call, e_callN, e_callF, e_fz, e_tup, e_tupZ, e_lst, e_set, e_asg, e_put, e_get2, e_mut, e_mtr, e_for, e_iter, e_over, e_lc, e_yes, e_pno, e_po, e_cut, e_par2, e_par3, e_catN, e_newT, e_name, e_loc, e_take, e_move, e_gname, c_d, c_loc, k_loc, cs_nil', cs_cons', fz_fro, fz_lst, fz_dT, bnd_some, bnd_none, Option.bind_some, Option.bind_none, Option.map_some, Option.map_none, List.getElem?_cons_zero, List.getElem?_cons_succ, List.length_cons, List.length_nil, if_true, List.map_cons, List.map_nil, Nat.reduceSub, List.replicate_zero, List.replicate_succ, List.append_nil, List.cons_append, List.nil_append, List.set_cons_zero, List.set_cons_succ, Nat.reduceAdd, Nat.reduceLT, Nat.reduceLeDiff, argsO_nil, argsO_d, argsO_loc, locs_nil, locs_d, locs_loc, nodup_nil', nodup_one, backE_nil, backE_d, backE_loc, wipeE_nil, wipeE_cons, calmE_nil, calmE_none, restE_nil, restE_cons, keep_0, keep_1, keep_2, keep_3, keep_4, own_lst, own_dT, own_fro, ite_true', ite_false', reduceIte, Bool.not_true, Bool.not_false, Bool.false_eq_true, Option.join_some, List.head?_cons, List.tail_cons, set_loc, Option.getD_some, Option.getD_none, and_self, and_true, true_and, List.lookup, fr, Bool.true_and, Bool.false_and, Bool.and_true, Bool.and_false, Bool.and_self, Bool.true_or, Bool.false_or, Bool.or_true, Bool.or_false, e_fld, e_fldO, e_fldSet, e_gmFld, e_gmNil, e_gmCons, e_gmTup, e_gmKtup, e_meth, e_make, e_methT, c_fld, k_fld, set_fld, eq_self, cond_true, cond_false, true_or, or_true, false_or, or_false, e_lc2, fb_law_3, st_law_8, ant_2, e8, sm, lc, ad]
  refine ⟨x, ?_⟩
  rw [len_ints, Nat.zero_add] at e3
  simp -implicitDefEqProofs -dsimp only [e_seq, e_skip, e_never, e_ret, e_n, e_c, e_d, e_do, e_nil, e_cons, e_op2, e_un, e_chain, e_b, e_not, e_and, e_or, e_andV, e_orV, e_notV, e_if, e_ifS, e_call, e_callN, e_callF, e_fz, e_tup, e_tupZ, e_lst, e_set, e_asg, e_put, e_get2, e_mut, e_mtr, e_for, e_iter, e_over, e_lc, e_yes, e_pno, e_po, e_cut, e_par2, e_par3, e_catN, e_newT, e_name, e_loc, e_take, e_move, e_gname, c_d, c_loc, k_loc, cs_nil', cs_cons', fz_fro, fz_lst, fz_dT, bnd_some, bnd_none, Option.bind_some, Option.bind_none, Option.map_some, Option.map_none, List.getElem?_cons_zero, List.getElem?_cons_succ, List.length_cons, List.length_nil, if_true, List.map_cons, List.map_nil, Nat.reduceSub, List.replicate_zero, List.replicate_succ, List.append_nil, List.cons_append, List.nil_append, List.set_cons_zero, List.set_cons_succ, Nat.reduceAdd, Nat.reduceLT, Nat.reduceLeDiff, argsO_nil, argsO_d, argsO_loc, locs_nil, locs_d, locs_loc, nodup_nil', nodup_one, backE_nil, backE_d, backE_loc, wipeE_nil, wipeE_cons, calmE_nil, calmE_none, restE_nil, restE_cons, keep_0, keep_1, keep_2, keep_3, keep_4, own_lst, own_dT, own_fro, ite_true', ite_false', reduceIte, Bool.not_true, Bool.not_false, Bool.false_eq_true, Option.join_some, List.head?_cons, List.tail_cons, set_loc, Option.getD_some, Option.getD_none, and_self, and_true, true_and, List.lookup, fr, Bool.true_and, Bool.false_and, Bool.and_true, Bool.and_false, Bool.and_self, Bool.true_or, Bool.false_or, Bool.or_true, Bool.or_false, e_fld, e_fldO, e_fldSet, e_gmFld, e_gmNil, e_gmCons, e_gmTup, e_gmKtup, e_meth, e_make, e_methT, c_fld, k_fld, set_fld, eq_self, cond_true, cond_false, true_or, or_true, false_or, or_false, e_lc2, st_law_9, ant_1, e7, e3]
  rfl
theorem u10 (h : Ok A) (hn : n ≤ 60) (c17 : s17 = none) (c19 : s19 = none) : st_law_10 C [s0, s1, s2, s3, s4, some (fr (.lst (lineD A n))), s6, s7, s8, s9, s10, s11, s12, s13, s14, s15, s16, s17, s18, s19, s20] = some (.nx, [s0, s1, s2, s3, s4, some (fr (.lst (lineD A n))), s6, s7, s8, s9, s10, s11, some (fr (.int (rightN A n))), s13, s14, s15, s16, s17, s18, s19, s20]) := by
  subst c17 c19
  have e5 : zipI [.lst (lineD A n), .lst ((lineD A n).drop 1)] = some (VL.zips (lineD A n) ((lineD A n).drop 1)) := rfl
  have sm : small (VL.zips (lineD A n) ((lineD A n).drop 1)).length = true := small_of (by rw [line_zip, List.length_map, List.length_range]; omega)
  have lc := lc_filter (own := [17, 19]) (tm := gmTup 2 (gmCons (gmName 17) (gmCons (gmName 19) (gmNil)))) (mt := ct_law_2 C) (me := mC (.int 1)) (η := [s0, s1, s2, s3, s4, some (fr (.lst (lineD A n))), s6, s7, s8, s9, s10, s11, s12, s13, s14, s15, s16, none, s18, none, s20]) (fun d => match d with
    | .tup [.tup [_, _, _, _, .int x, _], .tup [_, _, _, _, .int y, _]] => decide ((y - x) % 4 = 1)
    | _ => false) (fun _ => .int 1) (VL.zips (lineD A n) ((lineD A n).drop 1)) fun d hd => by
    rw [line_zip] at hd
    obtain ⟨j, _, rfl⟩ := List.mem_map.mp hd
    refine ⟨[s0, s1, s2, s3, s4, some (fr (.lst (lineD A n))), s6, s7, s8, s9, s10, s11, s12, s13, s14, s15, s16, some (fr (antD (steps A j))), s18, some (fr (antD (steps A (j + 1)))), s20], [s0, s1, s2, s3, s4, some (fr (.lst (lineD A n))), s6, s7, s8, s9, s10, s11, s12, s13, s14, s15, s16, some (fr (antD (steps A j))), s18, some (fr (antD (steps A (j + 1)))), s20], by simp -implicitDefEqProofs -dsimp only [e_seq, e_skip, e_never, e_ret, e_n, e_c, e_d, e_do, e_nil, e_cons, e_op2, e_un, e_chain, e_b, e_not, e_and, e_or, e_andV, e_orV, e_notV, e_if, e_ifS, e_call, e_callN, e_callF, e_fz, e_tup, e_tupZ, e_lst, e_set, e_asg, e_put, e_get2, e_mut, e_mtr, e_for, e_iter, e_over, e_lc, e_yes, e_pno, e_po, e_cut, e_par2, e_par3, e_catN, e_newT, e_name, e_loc, e_take, e_move, e_gname, c_d, c_loc, k_loc, cs_nil', cs_cons', fz_fro, fz_lst, fz_dT, bnd_some, bnd_none, Option.bind_some, Option.bind_none, Option.map_some, Option.map_none, List.getElem?_cons_zero, List.getElem?_cons_succ, List.length_cons, List.length_nil, if_true, List.map_cons, List.map_nil, Nat.reduceSub, List.replicate_zero, List.replicate_succ, List.append_nil, List.cons_append, List.nil_append, List.set_cons_zero, List.set_cons_succ, Nat.reduceAdd, Nat.reduceLT, Nat.reduceLeDiff, argsO_nil, argsO_d, argsO_loc, locs_nil, locs_d, locs_loc, nodup_nil', nodup_one, backE_nil, backE_d, backE_loc, wipeE_nil, wipeE_cons, calmE_nil, calmE_none, restE_nil, restE_cons, keep_0, keep_1, keep_2, keep_3, keep_4, own_lst, own_dT, own_fro, ite_true', ite_false', reduceIte, Bool.not_true, Bool.not_false, Bool.false_eq_true, Option.join_some, List.head?_cons, List.tail_cons, set_loc, Option.getD_some, Option.getD_none, and_self, and_true, true_and, List.lookup, fr, Bool.true_and, Bool.false_and, Bool.and_true, Bool.and_false, Bool.and_self, Bool.true_or, Bool.false_or, Bool.or_true, Bool.or_false, e_fld, e_fldO, e_fldSet, e_gmFld, e_gmNil, e_gmCons, e_gmTup, e_gmKtup, e_meth, e_make, e_methT, c_fld, k_fld, set_fld, eq_self, cond_true, cond_false, true_or, or_true, false_or, or_false, e_lc2], ?_, fun _ => ⟨[s0, s1, s2, s3, s4, some (fr (.lst (lineD A n))), s6, s7, s8, s9, s10, s11, s12, s13, s14, s15, s16, some (fr (antD (steps A j))), s18, some (fr (antD (steps A (j + 1)))), s20], by simp -implicitDefEqProofs -dsimp only [e_seq, e_skip, e_never, e_ret, e_n, e_c, e_d, e_do, e_nil, e_cons, e_op2, e_un, e_chain, e_b, e_not, e_and, e_or, e_andV, e_orV, e_notV, e_if, e_ifS, e_call, e_callN, e_callF, e_fz, e_tup, e_tupZ, e_lst, e_set, e_asg, e_put, e_get2, e_mut, e_mtr, e_for, e_iter, e_over, e_lc, e_yes, e_pno, e_po, e_cut, e_par2, e_par3, e_catN, e_newT, e_name, e_loc, e_take, e_move, e_gname, c_d, c_loc, k_loc, cs_nil', cs_cons', fz_fro, fz_lst, fz_dT, bnd_some, bnd_none, Option.bind_some, Option.bind_none, Option.map_some, Option.map_none, List.getElem?_cons_zero, List.getElem?_cons_succ, List.length_cons, List.length_nil, if_true, List.map_cons, List.map_nil, Nat.reduceSub, List.replicate_zero, List.replicate_succ, List.append_nil, List.cons_append, List.nil_append, List.set_cons_zero, List.set_cons_succ, Nat.reduceAdd, Nat.reduceLT, Nat.reduceLeDiff, argsO_nil, argsO_d, argsO_loc, locs_nil, locs_d, locs_loc, nodup_nil', nodup_one, backE_nil, backE_d, backE_loc, wipeE_nil, wipeE_cons, calmE_nil, calmE_none, restE_nil, restE_cons, keep_0, keep_1, keep_2, keep_3, keep_4, own_lst, own_dT, own_fro, ite_true', ite_false', reduceIte, Bool.not_true, Bool.not_false, Bool.false_eq_true, Option.join_some, List.head?_cons, List.tail_cons, set_loc, Option.getD_some, Option.getD_none, and_self, and_true, true_and, List.lookup, fr, Bool.true_and, Bool.false_and, Bool.and_true, Bool.and_false, Bool.and_self, Bool.true_or, Bool.false_or, Bool.or_true, Bool.or_false, e_fld, e_fldO, e_fldSet, e_gmFld, e_gmNil, e_gmCons, e_gmTup, e_gmKtup, e_meth, e_make, e_methT, c_fld, k_fld, set_fld, eq_self, cond_true, cond_false, true_or, or_true, false_or, or_false, e_lc2], by simp -implicitDefEqProofs -dsimp only [e_seq, e_skip, e_never, e_ret, e_n, e_c, e_d, e_do, e_nil, e_cons, e_op2, e_un, e_chain, e_b, e_not, e_and, e_or, e_andV, e_orV, e_notV, e_if, e_ifS, e_call, e_callN, e_callF, e_fz, e_tup, e_tupZ, e_lst, e_set, e_asg, e_put, e_get2, e_mut, e_mtr, e_for, e_iter, e_over, e_lc, e_yes, e_pno, e_po, e_cut, e_par2, e_par3, e_catN, e_newT, e_name, e_loc, e_take, e_move, e_gname, c_d, c_loc, k_loc, cs_nil', cs_cons', fz_fro, fz_lst, fz_dT, bnd_some, bnd_none, Option.bind_some, Option.bind_none, Option.map_some, Option.map_none, List.getElem?_cons_zero, List.getElem?_cons_succ, List.length_cons, List.length_nil, if_true, List.map_cons, List.map_nil, Nat.reduceSub, List.replicate_zero, List.replicate_succ, List.append_nil, List.cons_append, List.nil_append, List.set_cons_zero, List.set_cons_succ, Nat.reduceAdd, Nat.reduceLT, Nat.reduceLeDiff, argsO_nil, argsO_d, argsO_loc, locs_nil, locs_d, locs_loc, nodup_nil', nodup_one, backE_nil, backE_d, backE_loc, wipeE_nil, wipeE_cons, calmE_nil, calmE_none, restE_nil, restE_cons, keep_0, keep_1, keep_2, keep_3, keep_4, own_lst, own_dT, own_fro, ite_true', ite_false', reduceIte, Bool.not_true, Bool.not_false, Bool.false_eq_true, Option.join_some, List.head?_cons, List.tail_cons, set_loc, Option.getD_some, Option.getD_none, and_self, and_true, true_and, List.lookup, fr, Bool.true_and, Bool.false_and, Bool.and_true, Bool.and_false, Bool.and_self, Bool.true_or, Bool.false_or, Bool.or_true, Bool.or_false, e_fld, e_fldO, e_fldSet, e_gmFld, e_gmNil, e_gmCons, e_gmTup, e_gmKtup, e_meth, e_make, e_methT, c_fld, k_fld, set_fld, eq_self, cond_true, cond_false, true_or, or_true, false_or, or_false, e_lc2]⟩, fun _ => by simp -implicitDefEqProofs -dsimp only [e_seq, e_skip, e_never, e_ret, e_n, e_c, e_d, e_do, e_nil, e_cons, e_op2, e_un, e_chain, e_b, e_not, e_and, e_or, e_andV, e_orV, e_notV, e_if, e_ifS, e_call, e_callN, e_callF, e_fz, e_tup, e_tupZ, e_lst, e_set, e_asg, e_put, e_get2, e_mut, e_mtr, e_for, e_iter, e_over, e_lc, e_yes, e_pno, e_po, e_cut, e_par2, e_par3, e_catN, e_newT, e_name, e_loc, e_take, e_move, e_gname, c_d, c_loc, k_loc, cs_nil', cs_cons', fz_fro, fz_lst, fz_dT, bnd_some, bnd_none, Option.bind_some, Option.bind_none, Option.map_some, Option.map_none, List.getElem?_cons_zero, List.getElem?_cons_succ, List.length_cons, List.length_nil, if_true, List.map_cons, List.map_nil, Nat.reduceSub, List.replicate_zero, List.replicate_succ, List.append_nil, List.cons_append, List.nil_append, List.set_cons_zero, List.set_cons_succ, Nat.reduceAdd, Nat.reduceLT, Nat.reduceLeDiff, argsO_nil, argsO_d, argsO_loc, locs_nil, locs_d, locs_loc, nodup_nil', nodup_one, backE_nil, backE_d, backE_loc, wipeE_nil, wipeE_cons, calmE_nil, calmE_none, restE_nil, restE_cons, keep_0, keep_1, keep_2, keep_3, keep_4, own_lst, own_dT, own_fro, ite_true', ite_false', reduceIte, Bool.not_true, Bool.not_false, Bool.false_eq_true, Option.join_some, List.head?_cons, List.tail_cons, set_loc, Option.getD_some, Option.getD_none, and_self, and_true, true_and, List.lookup, fr, Bool.true_and, Bool.false_and, Bool.and_true, Bool.and_false, Bool.and_self, Bool.true_or, Bool.false_or, Bool.or_true, Bool.or_false, e_fld, e_fldO, e_fldSet, e_gmFld, e_gmNil, e_gmCons, e_gmTup, e_gmKtup, e_meth, e_make, e_methT, c_fld, k_fld, set_fld, eq_self, cond_true, cond_false, true_or, or_true, false_or, or_false, e_lc2]⟩
    simp -implicitDefEqProofs -dsimp only [e_seq, e_skip, e_never, e_ret, e_n, e_c, e_d, e_do, e_nil, e_cons, e_op2, e_un, e_chain, e_b, e_not, e_and, e_or, e_andV, e_orV, e_notV, e_if, e_ifS, e_call, e_callN, e_callF, e_fz, e_tup, e_tupZ, e_lst, e_set, e_asg, e_put, e_get2, e_mut, e_mtr, e_for, e_iter, e_over, e_lc, e_yes, e_pno, e_po, e_cut, e_par2, e_par3, e_catN, e_newT, e_name, e_loc, e_take, e_move, e_gname, c_d, c_loc, k_loc, cs_nil', cs_cons', fz_fro, fz_lst, fz_dT, bnd_some, bnd_none, Option.bind_some, Option.bind_none, Option.map_some, Option.map_none, List.getElem?_cons_zero, List.getElem?_cons_succ, List.length_cons, List.length_nil, if_true, List.map_cons, List.map_nil, Nat.reduceSub, List.replicate_zero, List.replicate_succ, List.append_nil, List.cons_append, List.nil_append, List.set_cons_zero, List.set_cons_succ, Nat.reduceAdd, Nat.reduceLT, Nat.reduceLeDiff, argsO_nil, argsO_d, argsO_loc, locs_nil, locs_d, locs_loc, nodup_nil', nodup_one, backE_nil, backE_d, backE_loc, wipeE_nil, wipeE_cons, calmE_nil, calmE_none, restE_nil, restE_cons, keep_0, keep_1, keep_2, keep_3, keep_4, own_lst, own_dT, own_fro, ite_true', ite_false', reduceIte, Bool.not_true, Bool.not_false, Bool.false_eq_true, Option.join_some, List.head?_cons, List.tail_cons, set_loc, Option.getD_some, Option.getD_none, and_self, and_true, true_and, List.lookup, fr, Bool.true_and, Bool.false_and, Bool.and_true, Bool.and_false, Bool.and_self, Bool.true_or, Bool.false_or, Bool.or_true, Bool.or_false, e_fld, e_fldO, e_fldSet, e_gmFld, e_gmNil, e_gmCons, e_gmTup, e_gmKtup, e_meth, e_make, e_methT, c_fld, k_fld, set_fld, eq_self, cond_true, cond_false, true_or, or_true, false_or, or_false, e_lc2, ct_law_2, ant_4, dSub_i, int_i, dMod_i (i := (steps A (j + 1)).hd - (steps A j).hd) (j := 4) (by decide), dEq_ii]
    rfl
  have fl : ((VL.zips (lineD A n) ((lineD A n).drop 1)).filter (fun d => match d with
    | .tup [.tup [_, _, _, _, .int x, _], .tup [_, _, _, _, .int y, _]] => decide ((y - x) % 4 = 1)
    | _ => false)).length = rightN A n := by
    rw [line_zip, List.filter_map, List.length_map]
    unfold rightN
    refine congrArg List.length (List.filter_congr fun j _ => ?_)
    show decide (((steps A (j + 1)).hd - (steps A j).hd) % 4 = 1) = _
    rw [Bool.eq_iff_iff, decide_eq_true_eq]
    exact turn_right (ok_steps h j)
  have ll : fLen [.lst (((VL.zips (lineD A n) ((lineD A n).drop 1)).filter (fun d => match d with
    | .tup [.tup [_, _, _, _, .int x, _], .tup [_, _, _, _, .int y, _]] => decide ((y - x) % 4 = 1)
    | _ => false)).map fun _ => D.int 1)] = some (.int (rightN A n)) := by
    rw [len_l, List.length_map, fl]
  generalize ((VL.zips (lineD A n) ((lineD A n).drop 1)).filter (fun d => match d with
    | .tup [.tup [_, _, _, _, .int x, _], .tup [_, _, _, _, .int y, _]] => decide ((y - x) % 4 = 1)
    | _ => false)).map (fun _ => D.int 1) = zs at lc ll
  simp -implicitDefEqProofs -dsimp only [e_seq, e_skip, e_never, e_ret, e_n, e_c, e_d, e_do, e_nil, e_cons, e_op2, e_un, e_chain, e_b, e_not, e_and, e_or, e_andV, e_orV, e_notV, e_if, e_ifS, e_call, e_callN, e_callF, e_fz, e_tup, e_tupZ, e_lst, e_set, e_asg, e_put, e_get2, e_mut, e_mtr, e_for, e_iter, e_over, e_lc, e_yes, e_pno, e_po, e_cut, e_par2, e_par3, e_catN, e_newT, e_name, e_loc, e_take, e_move, e_gname, c_d, c_loc, k_loc, cs_nil', cs_cons', fz_fro, fz_lst, fz_dT, bnd_some, bnd_none, Option.bind_some, Option.bind_none, Option.map_some, Option.map_none, List.getElem?_cons_zero, List.getElem?_cons_succ, List.length_cons, List.length_nil, if_true, List.map_cons, List.map_nil, Nat.reduceSub, List.replicate_zero, List.replicate_succ, List.append_nil, List.cons_append, List.nil_append, List.set_cons_zero, List.set_cons_succ, Nat.reduceAdd, Nat.reduceLT, Nat.reduceLeDiff, argsO_nil, argsO_d, argsO_loc, locs_nil, locs_d, locs_loc, nodup_nil', nodup_one, backE_nil, backE_d, backE_loc, wipeE_nil, wipeE_cons, calmE_nil, calmE_none, restE_nil, restE_cons, keep_0, keep_1, keep_2, keep_3, keep_4, own_lst, own_dT, own_fro, ite_true', ite_false', reduceIte, Bool.not_true, Bool.not_false, Bool.false_eq_true, Option.join_some, List.head?_cons, List.tail_cons, set_loc, Option.getD_some, Option.getD_none, and_self, and_true, true_and, List.lookup, fr, Bool.true_and, Bool.false_and, Bool.and_true, Bool.and_false, Bool.and_self, Bool.true_or, Bool.false_or, Bool.or_true, Bool.or_false, e_fld, e_fldO, e_fldSet, e_gmFld, e_gmNil, e_gmCons, e_gmTup, e_gmKtup, e_meth, e_make, e_methT, c_fld, k_fld, set_fld, eq_self, cond_true, cond_false, true_or, or_true, false_or, or_false, e_lc2, st_law_10, dCut_l_1, e5, sm, lc, ll]
end
end K87
end
section
-- VLJ
set_option Elab.async false
set_option linter.all false
set_option maxRecDepth 100000
set_option maxHeartbeats 1000000
set_option autoImplicit false
namespace K87
open PySem PySem.Spec PyProof.Rows L2 VL
def toldD (A : Ant) (n : Nat) : D := .tup [.ktup ((walkP A (n + 1)).map VL.pairD), visD (walkP A n), .ktup ((freeP A (walkP A n)).map VL.pairD), .tup [.int ((n : Int) - rightN A n), .int (rightN A n)]]
theorem same_pts {k : Nat} {ps : List Pt} (h : ps.length ≤ 1000000) : SameOk (k + 3) (.ktup (ps.map VL.pairD)) := .ktup (fun x hx => by
  obtain ⟨p, _, rfl⟩ := List.mem_map.mp hx
  exact same_pair) (by rw [List.length_map]; exact h)
theorem same_vis {k : Nat} {ps : List Pt} (h : (setSort ps).length ≤ 1000000) : SameOk (k + 4) (visD ps) := .ktup (fun x hx => by
  unfold pairsD at hx
  obtain ⟨p, _, rfl⟩ := List.mem_map.mp hx
  refine .tup (fun y hy => ?_) (by decide : 2 ≤ 1000000)
  have hy : y = VL.pairD p.1 ∨ y = .int p.2 := by simpa using hy
  rcases hy with rfl | rfl
  · exact same_pair
  · exact .int) (by
  unfold pairsD visP
  rw [List.length_map, List.length_map]; exact h)
theorem free_len {A : Ant} (h : Ok A) {ps : List Pt} : (freeP A ps).length ≤ 400 := by
  have := List.length_filter_le (fun p => !decide (p ∈ ps)) (cells A.h A.w)
  have := Nat.mul_le_mul h.h2 h.w2
  rw [cells_len] at *
  unfold freeP; omega
theorem same_told {A : Ant} (h : Ok A) {n : Nat} (hn : n ≤ 5000) (hs : (setSort (walkP A n)).length ≤ n) : SameOk 12 (toldD A n) := .tup (fun x hx => by
  have hx : x = .ktup ((walkP A (n + 1)).map VL.pairD) ∨ x = visD (walkP A n) ∨ x = .ktup ((freeP A (walkP A n)).map VL.pairD) ∨ x = .tup [.int ((n : Int) - rightN A n), .int (rightN A n)] := by simpa using hx
  rcases hx with rfl | rfl | rfl | rfl
  · exact same_pts (by rw [walk_len]; omega)
  · exact same_vis (by omega)
  · exact same_pts (by have := free_len h (ps := walkP A n); omega)
  · exact same_cell) (by decide : 4 ≤ 1000000)
theorem lr_rev {A : Ant} (l : lrB A = true) : lrB (revA A) = true := l
theorem isNot_non {x : D} : dIsNot x .non = some (.bl (!isNonD x)) := by
  cases x <;> rfl
section
variable {C : Addr} {s0 s1 s2 s3 s4 s5 s6 s7 s8 s9 s10 s11 s12 s13 s14 s15 s16 s17 s18 s19 s20 : Option O} {a b : Int} {A : Ant} {n : Nat}
theorem u11 (h : Ok A) (hn : n ≤ 60) : st_law_11 C [s0, s1, s2, some (fr (antD A)), some (fr (.int n)), s5, s6, s7, s8, s9, s10, s11, s12, s13, s14, s15, s16, s17, s18, s19, s20] = some (.nx, [s0, s1, s2, some (fr (antD A)), some (fr (.int n)), s5, s6, s7, s8, s9, s10, s11, s12, some (fr (toldD A n)), s14, s15, s16, s17, s18, s19, s20]) := by
  have e1 := r_trail (C := C) h (n := n) (by omega)
  have e2 := (r_visits (C := C) h (n := n) (by omega)).1
  have e3 := r_not_gone (C := C) h (n := n) (by omega)
  have e4 := r_turns (C := C) h (n := n) (by omega)
  unfold toldD
  simp -implicitDefEqProofs -dsimp only [e_seq, e_skip, e_never, e_ret, e_n, e_c, e_d, e_do, e_nil, e_cons, e_op2, e_un, e_chain, e_b, e_not, e_and, e_or, e_andV, e_orV, e_notV, e_if, e_ifS, e_call, e_callN, e_callF, e_fz, e_tup, e_tupZ, e_lst, e_set, e_asg, e_put, e_get2, e_mut, e_mtr, e_for, e_iter, e_over, e_lc, e_yes, e_pno, e_po, e_cut, e_par2, e_par3, e_catN, e_newT, e_name, e_loc, e_take, e_move, e_gname, c_d, c_loc, k_loc, cs_nil', cs_cons', fz_fro, fz_lst, fz_dT, bnd_some, bnd_none, Option.bind_some, Option.bind_none, Option.map_some, Option.map_none, List.getElem?_cons_zero, List.getElem?_cons_succ, List.length_cons, List.length_nil, if_true, List.map_cons, List.map_nil, Nat.reduceSub, List.replicate_zero, List.replicate_succ, List.append_nil, List.cons_append, List.nil_append, List.set_cons_zero, List.set_cons_succ, Nat.reduceAdd, Nat.reduceLT, Nat.reduceLeDiff, argsO_nil, argsO_d, argsO_loc, locs_nil, locs_d, locs_loc, nodup_nil', nodup_one, backE_nil, backE_d, backE_loc, wipeE_nil, wipeE_cons, calmE_nil, calmE_none, restE_nil, restE_cons, keep_0, keep_1, keep_2, keep_3, keep_4, own_lst, own_dT, own_fro, ite_true', ite_false', reduceIte, Bool.not_true, Bool.not_false, Bool.false_eq_true, Option.join_some, List.head?_cons, List.tail_cons, set_loc, Option.getD_some, Option.getD_none, and_self, and_true, true_and, List.lookup, fr, Bool.true_and, Bool.false_and, Bool.and_true, Bool.and_false, Bool.and_self, Bool.true_or, Bool.false_or, Bool.or_true, Bool.or_false, e_fld, e_fldO, e_fldSet, e_gmFld, e_gmNil, e_gmCons, e_gmTup, e_gmKtup, e_meth, e_make, e_methT, c_fld, k_fld, set_fld, eq_self, cond_true, cond_false, true_or, or_true, false_or, or_false, e_lc2, st_law_11, e1, e2, e3, e4]
theorem u12 (h : Ok A) (hn : n ≤ 60) {T : List (Pt × Int)} (t : Tly T (walkP A n)) (c9 : Cm s9) : st_law_12 C [s0, s1, s2, s3, some (fr (.int n)), s5, s6, some (.s (.lst ((walkP A (n + 1)).map VL.pairD))), some (.s (.dT (gI .int T))), s9, some (fr (.lst ((freeP A (walkP A n)).map VL.pairD))), s11, some (fr (.int (rightN A n))), s13, s14, s15, s16, s17, s18, s19, s20] = some (.nx, [s0, s1, s2, s3, some (fr (.int n)), s5, s6, some (.s (.lst ((walkP A (n + 1)).map VL.pairD))), some (.s (.dT (gI .int T))), s9, some (fr (.lst ((freeP A (walkP A n)).map VL.pairD))), s11, some (fr (.int (rightN A n))), s13, some (fr (toldD A n)), s15, s16, s17, s18, s19, s20]) := by
  have tl := t.ln
  rw [walk_len] at tl
  have e5 := sorted_dT (f := D.int) t.nd (by omega)
  rw [tly_sort t] at e5
  have lc := lc_all (own := [9]) (tm := gmName 9) (me := ce_law_3 C) (η := [s0, s1, s2, s3, some (fr (.int n)), s5, s6, some (.s (.lst ((walkP A (n + 1)).map VL.pairD))), some (.s (.dT (gI .int T))), none, some (fr (.lst ((freeP A (walkP A n)).map VL.pairD))), s11, some (fr (.int (rightN A n))), s13, s14, s15, s16, s17, s18, s19, s20]) (fun d => match d with
    | .tup [.int x, .int y] => .tup [d, .int (((walkP A n).count (x, y) : Nat) : Int)]
    | d => d) ((setSort (walkP A n)).map VL.pairD) fun d hd => by
    obtain ⟨p, hp, rfl⟩ := List.mem_map.mp hd
    have e2 := tly_ix t (mem_setSort.mp hp)
    refine ⟨[s0, s1, s2, s3, some (fr (.int n)), s5, s6, some (.s (.lst ((walkP A (n + 1)).map VL.pairD))), some (.s (.dT (gI .int T))), some (fr (VL.pairD p)), some (fr (.lst ((freeP A (walkP A n)).map VL.pairD))), s11, some (fr (.int (rightN A n))), s13, s14, s15, s16, s17, s18, s19, s20], [s0, s1, s2, s3, some (fr (.int n)), s5, s6, some (.s (.lst ((walkP A (n + 1)).map VL.pairD))), some (.s (.dT (gI .int T))), some (fr (VL.pairD p)), some (fr (.lst ((freeP A (walkP A n)).map VL.pairD))), s11, some (fr (.int (rightN A n))), s13, s14, s15, s16, s17, s18, s19, s20], by simp -implicitDefEqProofs -dsimp only [e_seq, e_skip, e_never, e_ret, e_n, e_c, e_d, e_do, e_nil, e_cons, e_op2, e_un, e_chain, e_b, e_not, e_and, e_or, e_andV, e_orV, e_notV, e_if, e_ifS, e_call, e_callN, e_callF, e_fz, e_tup, e_tupZ, e_lst, e_set, e_asg, e_put, e_get2, e_mut, e_mtr, e_for, e_iter, e_over, e_lc, e_yes, e_pno, e_po, e_cut, e_par2, e_par3, e_catN, e_newT, e_name, e_loc, e_take, e_move, e_gname, c_d, c_loc, k_loc, cs_nil', cs_cons', fz_fro, fz_lst, fz_dT, bnd_some, bnd_none, Option.bind_some, Option.bind_none, Option.map_some, Option.map_none, List.getElem?_cons_zero, List.getElem?_cons_succ, List.length_cons, List.length_nil, if_true, List.map_cons, List.map_nil, Nat.reduceSub, List.replicate_zero, List.replicate_succ, List.append_nil, List.cons_append, List.nil_append, List.set_cons_zero, List.set_cons_succ, Nat.reduceAdd, Nat.reduceLT, Nat.reduceLeDiff, argsO_nil, argsO_d, argsO_loc, locs_nil, locs_d, locs_loc, nodup_nil', nodup_one, backE_nil, backE_d, backE_loc, wipeE_nil, wipeE_cons, calmE_nil, calmE_none, restE_nil, restE_cons, keep_0, keep_1, keep_2, keep_3, keep_4, own_lst, own_dT, own_fro, ite_true', ite_false', reduceIte, Bool.not_true, Bool.not_false, Bool.false_eq_true, Option.join_some, List.head?_cons, List.tail_cons, set_loc, Option.getD_some, Option.getD_none, and_self, and_true, true_and, List.lookup, fr, Bool.true_and, Bool.false_and, Bool.and_true, Bool.and_false, Bool.and_self, Bool.true_or, Bool.false_or, Bool.or_true, Bool.or_false, e_fld, e_fldO, e_fldSet, e_gmFld, e_gmNil, e_gmCons, e_gmTup, e_gmKtup, e_meth, e_make, e_methT, c_fld, k_fld, set_fld, eq_self, cond_true, cond_false, true_or, or_true, false_or, or_false, e_lc2], ?_, by simp -implicitDefEqProofs -dsimp only [e_seq, e_skip, e_never, e_ret, e_n, e_c, e_d, e_do, e_nil, e_cons, e_op2, e_un, e_chain, e_b, e_not, e_and, e_or, e_andV, e_orV, e_notV, e_if, e_ifS, e_call, e_callN, e_callF, e_fz, e_tup, e_tupZ, e_lst, e_set, e_asg, e_put, e_get2, e_mut, e_mtr, e_for, e_iter, e_over, e_lc, e_yes, e_pno, e_po, e_cut, e_par2, e_par3, e_catN, e_newT, e_name, e_loc, e_take, e_move, e_gname, c_d, c_loc, k_loc, cs_nil', cs_cons', fz_fro, fz_lst, fz_dT, bnd_some, bnd_none, Option.bind_some, Option.bind_none, Option.map_some, Option.map_none, List.getElem?_cons_zero, List.getElem?_cons_succ, List.length_cons, List.length_nil, if_true, List.map_cons, List.map_nil, Nat.reduceSub, List.replicate_zero, List.replicate_succ, List.append_nil, List.cons_append, List.nil_append, List.set_cons_zero, List.set_cons_succ, Nat.reduceAdd, Nat.reduceLT, Nat.reduceLeDiff, argsO_nil, argsO_d, argsO_loc, locs_nil, locs_d, locs_loc, nodup_nil', nodup_one, backE_nil, backE_d, backE_loc, wipeE_nil, wipeE_cons, calmE_nil, calmE_none, restE_nil, restE_cons, keep_0, keep_1, keep_2, keep_3, keep_4, own_lst, own_dT, own_fro, ite_true', ite_false', reduceIte, Bool.not_true, Bool.not_false, Bool.false_eq_true, Option.join_some, List.head?_cons, List.tail_cons, set_loc, Option.getD_some, Option.getD_none, and_self, and_true, true_and, List.lookup, fr, Bool.true_and, Bool.false_and, Bool.and_true, Bool.and_false, Bool.and_self, Bool.true_or, Bool.false_or, Bool.or_true, Bool.or_false, e_fld, e_fldO, e_fldSet, e_gmFld, e_gmNil, e_gmCons, e_gmTup, e_gmKtup, e_meth, e_make, e_methT, c_fld, k_fld, set_fld, eq_self, cond_true, cond_false, true_or, or_true, false_or, or_false, e_lc2]⟩
    simp -implicitDefEqProofs -dsimp only [e_seq, e_skip, e_never, e_ret, e_n, e_c, e_d, e_do, e_nil, e_cons, e_op2, e_un, e_chain, e_b, e_not, e_and, e_or, e_andV, e_orV, e_notV, e_if, e_ifS, e_call, e_callN, e_callF, e_fz, e_tup, e_tupZ, e_lst, e_set, e_asg, e_put, e_get2, e_mut, e_mtr, e_for, e_iter, e_over, e_lc, e_yes, e_pno, e_po, e_cut, e_par2, e_par3, e_catN, e_newT, e_name, e_loc, e_take, e_move, e_gname, c_d, c_loc, k_loc, cs_nil', cs_cons', fz_fro, fz_lst, fz_dT, bnd_some, bnd_none, Option.bind_some, Option.bind_none, Option.map_some, Option.map_none, List.getElem?_cons_zero, List.getElem?_cons_succ, List.length_cons, List.length_nil, if_true, List.map_cons, List.map_nil, Nat.reduceSub, List.replicate_zero, List.replicate_succ, List.append_nil, List.cons_append, List.nil_append, List.set_cons_zero, List.set_cons_succ, Nat.reduceAdd, Nat.reduceLT, Nat.reduceLeDiff, argsO_nil, argsO_d, argsO_loc, locs_nil, locs_d, locs_loc, nodup_nil', nodup_one, backE_nil, backE_d, backE_loc, wipeE_nil, wipeE_cons, calmE_nil, calmE_none, restE_nil, restE_cons, keep_0, keep_1, keep_2, keep_3, keep_4, own_lst, own_dT, own_fro, ite_true', ite_false', reduceIte, Bool.not_true, Bool.not_false, Bool.false_eq_true, Option.join_some, List.head?_cons, List.tail_cons, set_loc, Option.getD_some, Option.getD_none, and_self, and_true, true_and, List.lookup, fr, Bool.true_and, Bool.false_and, Bool.and_true, Bool.and_false, Bool.and_self, Bool.true_or, Bool.false_or, Bool.or_true, Bool.or_false, e_fld, e_fldO, e_fldSet, e_gmFld, e_gmNil, e_gmCons, e_gmTup, e_gmKtup, e_meth, e_make, e_methT, c_fld, k_fld, set_fld, eq_self, cond_true, cond_false, true_or, or_true, false_or, or_false, e_lc2, ce_law_3, e2]
    rfl
  have em : ((setSort (walkP A n)).map VL.pairD).map (fun d => match d with
    | .tup [.int x, .int y] => .tup [d, .int (((walkP A n).count (x, y) : Nat) : Int)]
    | d => d) = pairsD .int (visP (walkP A n)) := by
    unfold pairsD visP
    rw [List.map_map, List.map_map]; rfl
  rw [em] at lc
  have sm : small ((setSort (walkP A n)).map VL.pairD).length = true := small_of (by
    rw [List.length_map]; have := setSort_len t; rw [walk_len] at this; omega)
  rcases c9 with rfl | ⟨o, rfl⟩ <;>
  (simp -implicitDefEqProofs -dsimp only [e_seq, e_skip, e_never, e_ret, e_n, e_c, e_d, e_do, e_nil, e_cons, e_op2, e_un, e_chain, e_b, e_not, e_and, e_or, e_andV, e_orV, e_notV, e_if, e_ifS, e_call, e_callN, e_callF, e_fz, e_tup, e_tupZ, e_lst, e_set, e_asg, e_put, e_get2, e_mut, e_mtr, e_for, e_iter, e_over, e_lc, e_yes, e_pno, e_po, e_cut, e_par2, e_par3, e_catN, e_newT, e_name, e_loc, e_take, e_move, e_gname, c_d, c_loc, k_loc, cs_nil', cs_cons', fz_fro, fz_lst, fz_dT, bnd_some, bnd_none, Option.bind_some, Option.bind_none, Option.map_some, Option.map_none, List.getElem?_cons_zero, List.getElem?_cons_succ, List.length_cons, List.length_nil, if_true, List.map_cons, List.map_nil, Nat.reduceSub, List.replicate_zero, List.replicate_succ, List.append_nil, List.cons_append, List.nil_append, List.set_cons_zero, List.set_cons_succ, Nat.reduceAdd, Nat.reduceLT, Nat.reduceLeDiff, argsO_nil, argsO_d, argsO_loc, locs_nil, locs_d, locs_loc, nodup_nil', nodup_one, backE_nil, backE_d, backE_loc, wipeE_nil, wipeE_cons, calmE_nil, calmE_none, restE_nil, restE_cons, keep_0, keep_1, keep_2, keep_3, keep_4, own_lst, own_dT, own_fro, ite_true', ite_false', reduceIte, Bool.not_true, Bool.not_false, Bool.false_eq_true, Option.join_some, List.head?_cons, List.tail_cons, set_loc, Option.getD_some, Option.getD_none, and_self, and_true, true_and, List.lookup, fr, Bool.true_and, Bool.false_and, Bool.and_true, Bool.and_false, Bool.and_self, Bool.true_or, Bool.false_or, Bool.or_true, Bool.or_false, e_fld, e_fldO, e_fldSet, e_gmFld, e_gmNil, e_gmCons, e_gmTup, e_gmKtup, e_meth, e_make, e_methT, c_fld, k_fld, set_fld, eq_self, cond_true, cond_false, true_or, or_true, false_or, or_false, e_lc2, st_law_12, tupz_l, e5, itemsI, sm, lc, dSub_i]
   rfl)
theorem u13 (h : Ok A) (hn : n ≤ 60) : st_law_13 C [s0, s1, s2, s3, s4, s5, s6, s7, s8, s9, s10, s11, s12, some (fr (toldD A n)), some (fr (toldD A n)), s15, s16, s17, s18, s19, s20] = some (.nx, [s0, s1, s2, s3, s4, s5, s6, s7, s8, s9, s10, s11, s12, some (fr (toldD A n)), some (fr (toldD A n)), s15, s16, s17, s18, s19, s20]) := by
  have e1 := r_same (same_told h (n := n) (by omega) (r_visits (C := 0) h (n := n) (by omega)).2)
  simp -implicitDefEqProofs -dsimp only [e_seq, e_skip, e_never, e_ret, e_n, e_c, e_d, e_do, e_nil, e_cons, e_op2, e_un, e_chain, e_b, e_not, e_and, e_or, e_andV, e_orV, e_notV, e_if, e_ifS, e_call, e_callN, e_callF, e_fz, e_tup, e_tupZ, e_lst, e_set, e_asg, e_put, e_get2, e_mut, e_mtr, e_for, e_iter, e_over, e_lc, e_yes, e_pno, e_po, e_cut, e_par2, e_par3, e_catN, e_newT, e_name, e_loc, e_take, e_move, e_gname, c_d, c_loc, k_loc, cs_nil', cs_cons', fz_fro, fz_lst, fz_dT, bnd_some, bnd_none, Option.bind_some, Option.bind_none, Option.map_some, Option.map_none, List.getElem?_cons_zero, List.getElem?_cons_succ, List.length_cons, List.length_nil, if_true, List.map_cons, List.map_nil, Nat.reduceSub, List.replicate_zero, List.replicate_succ, List.append_nil, List.cons_append, List.nil_append, List.set_cons_zero, List.set_cons_succ, Nat.reduceAdd, Nat.reduceLT, Nat.reduceLeDiff, argsO_nil, argsO_d, argsO_loc, locs_nil, locs_d, locs_loc, nodup_nil', nodup_one, backE_nil, backE_d, backE_loc, wipeE_nil, wipeE_cons, calmE_nil, calmE_none, restE_nil, restE_cons, keep_0, keep_1, keep_2, keep_3, keep_4, own_lst, own_dT, own_fro, ite_true', ite_false', reduceIte, Bool.not_true, Bool.not_false, Bool.false_eq_true, Option.join_some, List.head?_cons, List.tail_cons, set_loc, Option.getD_some, Option.getD_none, and_self, and_true, true_and, List.lookup, fr, Bool.true_and, Bool.false_and, Bool.and_true, Bool.and_false, Bool.and_self, Bool.true_or, Bool.false_or, Bool.or_true, Bool.or_false, e_fld, e_fldO, e_fldSet, e_gmFld, e_gmNil, e_gmCons, e_gmTup, e_gmKtup, e_meth, e_make, e_methT, c_fld, k_fld, set_fld, eq_self, cond_true, cond_false, true_or, or_true, false_or, or_false, e_lc2, st_law_13, e1]
def backD (A : Ant) (n : Nat) : D := if lrB A = true then antD (revA (steps A n)) else .non
theorem u14 (h : Ok A) (hn : n ≤ 60) : st_law_14 C [s0, s1, s2, s3, s4, some (fr (.lst (lineD A n))), s6, s7, s8, s9, s10, s11, s12, s13, s14, s15, s16, s17, s18, s19, s20] = some (.nx, [s0, s1, s2, s3, s4, some (fr (.lst (lineD A n))), s6, s7, s8, s9, s10, s11, s12, s13, s14, some (fr (backD A n)), s16, s17, s18, s19, s20]) := by
  have e1 := r_round (C := C) (ok_steps h n)
  have e2 : lrB (steps A n) = lrB A := by unfold lrB; rw [steps_bs]
  rw [e2] at e1
  simp -implicitDefEqProofs -dsimp only [e_seq, e_skip, e_never, e_ret, e_n, e_c, e_d, e_do, e_nil, e_cons, e_op2, e_un, e_chain, e_b, e_not, e_and, e_or, e_andV, e_orV, e_notV, e_if, e_ifS, e_call, e_callN, e_callF, e_fz, e_tup, e_tupZ, e_lst, e_set, e_asg, e_put, e_get2, e_mut, e_mtr, e_for, e_iter, e_over, e_lc, e_yes, e_pno, e_po, e_cut, e_par2, e_par3, e_catN, e_newT, e_name, e_loc, e_take, e_move, e_gname, c_d, c_loc, k_loc, cs_nil', cs_cons', fz_fro, fz_lst, fz_dT, bnd_some, bnd_none, Option.bind_some, Option.bind_none, Option.map_some, Option.map_none, List.getElem?_cons_zero, List.getElem?_cons_succ, List.length_cons, List.length_nil, if_true, List.map_cons, List.map_nil, Nat.reduceSub, List.replicate_zero, List.replicate_succ, List.append_nil, List.cons_append, List.nil_append, List.set_cons_zero, List.set_cons_succ, Nat.reduceAdd, Nat.reduceLT, Nat.reduceLeDiff, argsO_nil, argsO_d, argsO_loc, locs_nil, locs_d, locs_loc, nodup_nil', nodup_one, backE_nil, backE_d, backE_loc, wipeE_nil, wipeE_cons, calmE_nil, calmE_none, restE_nil, restE_cons, keep_0, keep_1, keep_2, keep_3, keep_4, own_lst, own_dT, own_fro, ite_true', ite_false', reduceIte, Bool.not_true, Bool.not_false, Bool.false_eq_true, Option.join_some, List.head?_cons, List.tail_cons, set_loc, Option.getD_some, Option.getD_none, and_self, and_true, true_and, List.lookup, fr, Bool.true_and, Bool.false_and, Bool.and_true, Bool.and_false, Bool.and_self, Bool.true_or, Bool.false_or, Bool.or_true, Bool.or_false, e_fld, e_fldO, e_fldSet, e_gmFld, e_gmNil, e_gmCons, e_gmTup, e_gmKtup, e_meth, e_make, e_methT, c_fld, k_fld, set_fld, eq_self, cond_true, cond_false, true_or, or_true, false_or, or_false, e_lc2, st_law_14, dNeg_i, dIx_l, line_last, e1]
  rfl
theorem back_non : isNonD (backD A n) = !lrB A := by
  unfold backD
  cases lrB A <;> rfl
theorem u15 : st_law_15 C [s0, s1, s2, some (fr (antD A)), s4, s5, s6, s7, s8, s9, s10, s11, s12, s13, s14, some (fr (backD A n)), s16, s17, s18, s19, s20] = some (.nx, [s0, s1, s2, some (fr (antD A)), s4, s5, s6, s7, s8, s9, s10, s11, s12, s13, s14, some (fr (backD A n)), s16, s17, s18, s19, s20]) := by
  simp -implicitDefEqProofs -dsimp only [e_seq, e_skip, e_never, e_ret, e_n, e_c, e_d, e_do, e_nil, e_cons, e_op2, e_un, e_chain, e_b, e_not, e_and, e_or, e_andV, e_orV, e_notV, e_if, e_ifS, e_call, e_callN, e_callF, e_fz, e_tup, e_tupZ, e_lst, e_set, e_asg, e_put, e_get2, e_mut, e_mtr, e_for, e_iter, e_over, e_lc, e_yes, e_pno, e_po, e_cut, e_par2, e_par3, e_catN, e_newT, e_name, e_loc, e_take, e_move, e_gname, c_d, c_loc, k_loc, cs_nil', cs_cons', fz_fro, fz_lst, fz_dT, bnd_some, bnd_none, Option.bind_some, Option.bind_none, Option.map_some, Option.map_none, List.getElem?_cons_zero, List.getElem?_cons_succ, List.length_cons, List.length_nil, if_true, List.map_cons, List.map_nil, Nat.reduceSub, List.replicate_zero, List.replicate_succ, List.append_nil, List.cons_append, List.nil_append, List.set_cons_zero, List.set_cons_succ, Nat.reduceAdd, Nat.reduceLT, Nat.reduceLeDiff, argsO_nil, argsO_d, argsO_loc, locs_nil, locs_d, locs_loc, nodup_nil', nodup_one, backE_nil, backE_d, backE_loc, wipeE_nil, wipeE_cons, calmE_nil, calmE_none, restE_nil, restE_cons, keep_0, keep_1, keep_2, keep_3, keep_4, own_lst, own_dT, own_fro, ite_true', ite_false', reduceIte, Bool.not_true, Bool.not_false, Bool.false_eq_true, Option.join_some, List.head?_cons, List.tail_cons, set_loc, Option.getD_some, Option.getD_none, and_self, and_true, true_and, List.lookup, fr, Bool.true_and, Bool.false_and, Bool.and_true, Bool.and_false, Bool.and_self, Bool.true_or, Bool.false_or, Bool.or_true, Bool.or_false, e_fld, e_fldO, e_fldSet, e_gmFld, e_gmNil, e_gmCons, e_gmTup, e_gmKtup, e_meth, e_make, e_methT, c_fld, k_fld, set_fld, eq_self, cond_true, cond_false, true_or, or_true, false_or, or_false, e_lc2, st_law_15, is_non, back_non, ant_0, notIn_lr, dNe_bl]
theorem u18 (h : Ok A) (hn : n ≤ 60) : st_law_18 C [s0, s1, s2, some (fr (antD A)), some (fr (.int n)), some (fr (.lst (lineD A n))), s6, some (.s (.lst ((walkP A (n + 1)).map VL.pairD))), s8, s9, s10, s11, s12, s13, s14, some (fr (backD A n)), s16, s17, s18, s19, s20] = some (.nx, [s0, s1, s2, some (fr (antD A)), some (fr (.int n)), some (fr (.lst (lineD A n))), s6, some (.s (.lst ((walkP A (n + 1)).map VL.pairD))), s8, s9, s10, s11, s12, s13, s14, some (fr (backD A n)), s16, s17, s18, s19, s20]) := by
  cases l : lrB A with
  | false => simp -implicitDefEqProofs -dsimp only [e_seq, e_skip, e_never, e_ret, e_n, e_c, e_d, e_do, e_nil, e_cons, e_op2, e_un, e_chain, e_b, e_not, e_and, e_or, e_andV, e_orV, e_notV, e_if, e_ifS, e_call, e_callN, e_callF, e_fz, e_tup, e_tupZ, e_lst, e_set, e_asg, e_put, e_get2, e_mut, e_mtr, e_for, e_iter, e_over, e_lc, e_yes, e_pno, e_po, e_cut, e_par2, e_par3, e_catN, e_newT, e_name, e_loc, e_take, e_move, e_gname, c_d, c_loc, k_loc, cs_nil', cs_cons', fz_fro, fz_lst, fz_dT, bnd_some, bnd_none, Option.bind_some, Option.bind_none, Option.map_some, Option.map_none, List.getElem?_cons_zero, List.getElem?_cons_succ, List.length_cons, List.length_nil, if_true, List.map_cons, List.map_nil, Nat.reduceSub, List.replicate_zero, List.replicate_succ, List.append_nil, List.cons_append, List.nil_append, List.set_cons_zero, List.set_cons_succ, Nat.reduceAdd, Nat.reduceLT, Nat.reduceLeDiff, argsO_nil, argsO_d, argsO_loc, locs_nil, locs_d, locs_loc, nodup_nil', nodup_one, backE_nil, backE_d, backE_loc, wipeE_nil, wipeE_cons, calmE_nil, calmE_none, restE_nil, restE_cons, keep_0, keep_1, keep_2, keep_3, keep_4, own_lst, own_dT, own_fro, ite_true', ite_false', reduceIte, Bool.not_true, Bool.not_false, Bool.false_eq_true, Option.join_some, List.head?_cons, List.tail_cons, set_loc, Option.getD_some, Option.getD_none, and_self, and_true, true_and, List.lookup, fr, Bool.true_and, Bool.false_and, Bool.and_true, Bool.and_false, Bool.and_self, Bool.true_or, Bool.false_or, Bool.or_true, Bool.or_false, e_fld, e_fldO, e_fldSet, e_gmFld, e_gmNil, e_gmCons, e_gmTup, e_gmKtup, e_meth, e_make, e_methT, c_fld, k_fld, set_fld, eq_self, cond_true, cond_false, true_or, or_true, false_or, or_false, e_lc2, st_law_18, isNot_non, back_non, l]
  | true =>
    have e0 : backD A n = antD (revA (steps A n)) := by unfold backD; rw [if_pos l]
    have hB := ok_rev (ok_steps h n)
    have e1 := r_ant_after (C := C) hB (n := n) (by omega)
    rw [rev_steps h l n n (Nat.le_refl n), Nat.sub_self] at e1
    have e1 : run_ant_after C [fr (antD (revA (steps A n))), fr (.int n)] = some (fr (antD (revA A)), [none, none]) := e1
    have e2 := r_round (C := C) h
    rw [if_pos l] at e2
    have e3 := r_round (C := C) hB
    rw [if_pos (lr_rev (lr_steps l n)), rev_rev (ok_steps h n)] at e3
    have e4 := r_same (same_le (same_antD (ok_rev h)) (show 5 ≤ 12 by decide))
    have e5 := dNe_same (same_antD (ok_steps h n)) (by decide)
    have y16 : st_law_16 C [s0, s1, s2, some (fr (antD A)), some (fr (.int n)), some (fr (.lst (lineD A n))), s6, some (.s (.lst ((walkP A (n + 1)).map VL.pairD))), s8, s9, s10, s11, s12, s13, s14, some (fr (antD (revA (steps A n)))), s16, s17, s18, s19, s20] = some (.nx, [s0, s1, s2, some (fr (antD A)), some (fr (.int n)), some (fr (.lst (lineD A n))), s6, some (.s (.lst ((walkP A (n + 1)).map VL.pairD))), s8, s9, s10, s11, s12, s13, s14, some (fr (antD (revA (steps A n)))), s16, s17, s18, s19, s20]) := by
      simp -implicitDefEqProofs -dsimp only [e_seq, e_skip, e_never, e_ret, e_n, e_c, e_d, e_do, e_nil, e_cons, e_op2, e_un, e_chain, e_b, e_not, e_and, e_or, e_andV, e_orV, e_notV, e_if, e_ifS, e_call, e_callN, e_callF, e_fz, e_tup, e_tupZ, e_lst, e_set, e_asg, e_put, e_get2, e_mut, e_mtr, e_for, e_iter, e_over, e_lc, e_yes, e_pno, e_po, e_cut, e_par2, e_par3, e_catN, e_newT, e_name, e_loc, e_take, e_move, e_gname, c_d, c_loc, k_loc, cs_nil', cs_cons', fz_fro, fz_lst, fz_dT, bnd_some, bnd_none, Option.bind_some, Option.bind_none, Option.map_some, Option.map_none, List.getElem?_cons_zero, List.getElem?_cons_succ, List.length_cons, List.length_nil, if_true, List.map_cons, List.map_nil, Nat.reduceSub, List.replicate_zero, List.replicate_succ, List.append_nil, List.cons_append, List.nil_append, List.set_cons_zero, List.set_cons_succ, Nat.reduceAdd, Nat.reduceLT, Nat.reduceLeDiff, argsO_nil, argsO_d, argsO_loc, locs_nil, locs_d, locs_loc, nodup_nil', nodup_one, backE_nil, backE_d, backE_loc, wipeE_nil, wipeE_cons, calmE_nil, calmE_none, restE_nil, restE_cons, keep_0, keep_1, keep_2, keep_3, keep_4, own_lst, own_dT, own_fro, ite_true', ite_false', reduceIte, Bool.not_true, Bool.not_false, Bool.false_eq_true, Option.join_some, List.head?_cons, List.tail_cons, set_loc, Option.getD_some, Option.getD_none, and_self, and_true, true_and, List.lookup, fr, Bool.true_and, Bool.false_and, Bool.and_true, Bool.and_false, Bool.and_self, Bool.true_or, Bool.false_or, Bool.or_true, Bool.or_false, e_fld, e_fldO, e_fldSet, e_gmFld, e_gmNil, e_gmCons, e_gmTup, e_gmKtup, e_meth, e_make, e_methT, c_fld, k_fld, set_fld, eq_self, cond_true, cond_false, true_or, or_true, false_or, or_false, e_lc2, st_law_16, e1, e2, e3, e4, e5, dNeg_i, dIx_l, line_last]
    have y17 : st_law_17 C [s0, s1, s2, some (fr (antD A)), some (fr (.int n)), some (fr (.lst (lineD A n))), s6, some (.s (.lst ((walkP A (n + 1)).map VL.pairD))), s8, s9, s10, s11, s12, s13, s14, some (fr (antD (revA (steps A n)))), s16, s17, s18, s19, s20] = some (.nx, [s0, s1, s2, some (fr (antD A)), some (fr (.int n)), some (fr (.lst (lineD A n))), s6, some (.s (.lst ((walkP A (n + 1)).map VL.pairD))), s8, s9, s10, s11, s12, s13, s14, some (fr (antD (revA (steps A n)))), s16, s17, s18, s19, s20]) := by
      by_cases g : 0 < n
      · have e6 := r_trail (C := C) hB (n := n - 1) (by omega)
        rw [show n - 1 + 1 = n by omega, walk_rev h l n, show ((n - 1 : Nat) : Int) = (n : Int) - 1 by omega] at e6
        have e7 : dCut (.lst ((walkP A (n + 1)).map VL.pairD)) none (some (n : Int)) = some (.lst ((walkP A n).map VL.pairD)) := by
          rw [dCut_l_to (by rw [List.length_map, walk_len]; omega), ← List.map_take, walk_take]
        have e8 : dRev (.lst ((walkP A n).map VL.pairD)) = some (.lst ((walkP A n).reverse.map VL.pairD)) := by
          rw [List.map_reverse]; rfl
        have e9 := dNe_same (same_pts (k := 0) (ps := (walkP A n).reverse) (by rw [List.length_reverse, walk_len]; omega)) (by decide)
        have e10 : dGt (.int n) (.int 0) = some (.bl true) := by
          rw [dGt_i, decide_eq_true (by omega)]
        simp -implicitDefEqProofs -dsimp only [e_seq, e_skip, e_never, e_ret, e_n, e_c, e_d, e_do, e_nil, e_cons, e_op2, e_un, e_chain, e_b, e_not, e_and, e_or, e_andV, e_orV, e_notV, e_if, e_ifS, e_call, e_callN, e_callF, e_fz, e_tup, e_tupZ, e_lst, e_set, e_asg, e_put, e_get2, e_mut, e_mtr, e_for, e_iter, e_over, e_lc, e_yes, e_pno, e_po, e_cut, e_par2, e_par3, e_catN, e_newT, e_name, e_loc, e_take, e_move, e_gname, c_d, c_loc, k_loc, cs_nil', cs_cons', fz_fro, fz_lst, fz_dT, bnd_some, bnd_none, Option.bind_some, Option.bind_none, Option.map_some, Option.map_none, List.getElem?_cons_zero, List.getElem?_cons_succ, List.length_cons, List.length_nil, if_true, List.map_cons, List.map_nil, Nat.reduceSub, List.replicate_zero, List.replicate_succ, List.append_nil, List.cons_append, List.nil_append, List.set_cons_zero, List.set_cons_succ, Nat.reduceAdd, Nat.reduceLT, Nat.reduceLeDiff, argsO_nil, argsO_d, argsO_loc, locs_nil, locs_d, locs_loc, nodup_nil', nodup_one, backE_nil, backE_d, backE_loc, wipeE_nil, wipeE_cons, calmE_nil, calmE_none, restE_nil, restE_cons, keep_0, keep_1, keep_2, keep_3, keep_4, own_lst, own_dT, own_fro, ite_true', ite_false', reduceIte, Bool.not_true, Bool.not_false, Bool.false_eq_true, Option.join_some, List.head?_cons, List.tail_cons, set_loc, Option.getD_some, Option.getD_none, and_self, and_true, true_and, List.lookup, fr, Bool.true_and, Bool.false_and, Bool.and_true, Bool.and_false, Bool.and_self, Bool.true_or, Bool.false_or, Bool.or_true, Bool.or_false, e_fld, e_fldO, e_fldSet, e_gmFld, e_gmNil, e_gmCons, e_gmTup, e_gmKtup, e_meth, e_make, e_methT, c_fld, k_fld, set_fld, eq_self, cond_true, cond_false, true_or, or_true, false_or, or_false, e_lc2, st_law_17, e10, dSub_i, e6, e7, e8, tupz_l, e9]
      · have e10 : dGt (.int n) (.int 0) = some (.bl false) := by
          rw [dGt_i, decide_eq_false (by omega)]
        simp -implicitDefEqProofs -dsimp only [e_seq, e_skip, e_never, e_ret, e_n, e_c, e_d, e_do, e_nil, e_cons, e_op2, e_un, e_chain, e_b, e_not, e_and, e_or, e_andV, e_orV, e_notV, e_if, e_ifS, e_call, e_callN, e_callF, e_fz, e_tup, e_tupZ, e_lst, e_set, e_asg, e_put, e_get2, e_mut, e_mtr, e_for, e_iter, e_over, e_lc, e_yes, e_pno, e_po, e_cut, e_par2, e_par3, e_catN, e_newT, e_name, e_loc, e_take, e_move, e_gname, c_d, c_loc, k_loc, cs_nil', cs_cons', fz_fro, fz_lst, fz_dT, bnd_some, bnd_none, Option.bind_some, Option.bind_none, Option.map_some, Option.map_none, List.getElem?_cons_zero, List.getElem?_cons_succ, List.length_cons, List.length_nil, if_true, List.map_cons, List.map_nil, Nat.reduceSub, List.replicate_zero, List.replicate_succ, List.append_nil, List.cons_append, List.nil_append, List.set_cons_zero, List.set_cons_succ, Nat.reduceAdd, Nat.reduceLT, Nat.reduceLeDiff, argsO_nil, argsO_d, argsO_loc, locs_nil, locs_d, locs_loc, nodup_nil', nodup_one, backE_nil, backE_d, backE_loc, wipeE_nil, wipeE_cons, calmE_nil, calmE_none, restE_nil, restE_cons, keep_0, keep_1, keep_2, keep_3, keep_4, own_lst, own_dT, own_fro, ite_true', ite_false', reduceIte, Bool.not_true, Bool.not_false, Bool.false_eq_true, Option.join_some, List.head?_cons, List.tail_cons, set_loc, Option.getD_some, Option.getD_none, and_self, and_true, true_and, List.lookup, fr, Bool.true_and, Bool.false_and, Bool.and_true, Bool.and_false, Bool.and_self, Bool.true_or, Bool.false_or, Bool.or_true, Bool.or_false, e_fld, e_fldO, e_fldSet, e_gmFld, e_gmNil, e_gmCons, e_gmTup, e_gmKtup, e_meth, e_make, e_methT, c_fld, k_fld, set_fld, eq_self, cond_true, cond_false, true_or, or_true, false_or, or_false, e_lc2, st_law_17, e10]
    rw [e0]
    simp -implicitDefEqProofs -dsimp only [e_seq, e_skip, e_never, e_ret, e_n, e_c, e_d, e_do, e_nil, e_cons, e_op2, e_un, e_chain, e_b, e_not, e_and, e_or, e_andV, e_orV, e_notV, e_if, e_ifS, e_call, e_callN, e_callF, e_fz, e_tup, e_tupZ, e_lst, e_set, e_asg, e_put, e_get2, e_mut, e_mtr, e_for, e_iter, e_over, e_lc, e_yes, e_pno, e_po, e_cut, e_par2, e_par3, e_catN, e_newT, e_name, e_loc, e_take, e_move, e_gname, c_d, c_loc, k_loc, cs_nil', cs_cons', fz_fro, fz_lst, fz_dT, bnd_some, bnd_none, Option.bind_some, Option.bind_none, Option.map_some, Option.map_none, List.getElem?_cons_zero, List.getElem?_cons_succ, List.length_cons, List.length_nil, if_true, List.map_cons, List.map_nil, Nat.reduceSub, List.replicate_zero, List.replicate_succ, List.append_nil, List.cons_append, List.nil_append, List.set_cons_zero, List.set_cons_succ, Nat.reduceAdd, Nat.reduceLT, Nat.reduceLeDiff, argsO_nil, argsO_d, argsO_loc, locs_nil, locs_d, locs_loc, nodup_nil', nodup_one, backE_nil, backE_d, backE_loc, wipeE_nil, wipeE_cons, calmE_nil, calmE_none, restE_nil, restE_cons, keep_0, keep_1, keep_2, keep_3, keep_4, own_lst, own_dT, own_fro, ite_true', ite_false', reduceIte, Bool.not_true, Bool.not_false, Bool.false_eq_true, Option.join_some, List.head?_cons, List.tail_cons, set_loc, Option.getD_some, Option.getD_none, and_self, and_true, true_and, List.lookup, fr, Bool.true_and, Bool.false_and, Bool.and_true, Bool.and_false, Bool.and_self, Bool.true_or, Bool.false_or, Bool.or_true, Bool.or_false, e_fld, e_fldO, e_fldSet, e_gmFld, e_gmNil, e_gmCons, e_gmTup, e_gmKtup, e_meth, e_make, e_methT, c_fld, k_fld, set_fld, eq_self, cond_true, cond_false, true_or, or_true, false_or, or_false, e_lc2, st_law_18, isNot_non, show isNonD (antD (revA (steps A n))) = false from rfl, y16, y17]
end
/-! ### the frame's invariant, the law's turn -/
def Inv (s0 : Option O) (η : VL.Env) : Prop := ∃ (a b : Int) (s2 s3 s4 s5 s6 s7 s8 s9 s10 s11 s12 s13 s14 s15 s16 : Option O), 0 ≤ a ∧ Cm s9 ∧ η = [s0, some (cupO a b), s2, s3, s4, s5, s6, s7, s8, s9, s10, s11, s12, s13, s14, s15, s16, none, none, none, none]
theorem body {C : Addr} {s0 : Option O} {η : VL.Env} (h : Inv s0 η) : ∃ η', fb_law_4 C η = some (.nx, η') ∧ Inv s0 η' := by
  obtain ⟨a, b, s2, s3, s4, s5, s6, s7, s8, s9, s10, s11, s12, s13, s14, s15, s16, ha, c9, rfl⟩ := h
  obtain ⟨A, n, a1, b1, hA, ha1, hn, e2⟩ := u2 (C := C) (a := a) (b := b) (s0 := s0) (s2 := s2) (s3 := s3) (s4 := s4) (s5 := s5) (s6 := s6) (s7 := s7) (s8 := s8) (s9 := s9) (s10 := s10) (s11 := s11) (s12 := s12) (s13 := s13) (s14 := s14) (s15 := s15) (s16 := s16) (s17 := none) (s18 := none) (s19 := none) (s20 := none) ha
  obtain ⟨x6, e4⟩ := u4 (C := C) (n := n) (s0 := s0) (s1 := some (cupO a1 b1)) (s2 := s2) (s3 := some (fr (antD A))) (s6 := s6) (s7 := s7) (s8 := s8) (s9 := s9) (s10 := s10) (s11 := s11) (s12 := s12) (s13 := s13) (s14 := s14) (s15 := s15) (s16 := s16) (s17 := none) (s18 := none) (s19 := none) (s20 := none) hA hn
  have e5 := u5 (C := C) (A := A) (n := n) (s0 := s0) (s1 := some (cupO a1 b1)) (s2 := s2) (s3 := some (fr (antD A))) (s4 := some (fr (.int n))) (s6 := x6) (s7 := s7) (s8 := s8) (s9 := s9) (s10 := s10) (s11 := s11) (s12 := s12) (s13 := s13) (s14 := s14) (s15 := s15) (s16 := s16) (s17 := none) (s18 := none) (s19 := none) (s20 := none) hn rfl
  obtain ⟨T, x9, t, c9', e7⟩ := u7 (C := C) (A := A) (n := n) (s0 := s0) (s1 := some (cupO a1 b1)) (s2 := s2) (s3 := some (fr (antD A))) (s5 := some (fr (.lst (lineD A n)))) (s6 := x6) (s9 := s9) (s10 := s10) (s11 := s11) (s12 := s12) (s13 := s13) (s14 := s14) (s15 := s15) (s16 := s16) (s17 := none) (s18 := none) (s19 := none) (s20 := none) hn c9
  obtain ⟨x11, e9⟩ := u9 (C := C) (A := A) (s0 := s0) (s1 := some (cupO a1 b1)) (s2 := s2) (s4 := some (fr (.int n))) (s5 := some (fr (.lst (lineD A n)))) (s6 := x6) (s7 := some (.s (.lst ((walkP A (n + 1)).map VL.pairD)))) (s9 := x9) (s11 := s11) (s12 := s12) (s13 := s13) (s14 := s14) (s15 := s15) (s16 := s16) (s17 := none) (s18 := none) (s19 := none) (s20 := none) hA t rfl
  have e10 := u10 (C := C) (A := A) (n := n) (s0 := s0) (s1 := some (cupO a1 b1)) (s2 := s2) (s3 := some (fr (antD A))) (s4 := some (fr (.int n))) (s6 := x6) (s7 := some (.s (.lst ((walkP A (n + 1)).map VL.pairD)))) (s8 := some (.s (.dT (gI .int T)))) (s9 := x9) (s10 := some (fr (.lst ((freeP A (walkP A n)).map VL.pairD)))) (s11 := x11) (s12 := s12) (s13 := s13) (s14 := s14) (s15 := s15) (s16 := s16) (s17 := none) (s18 := none) (s19 := none) (s20 := none) hA hn rfl rfl
  have e11 := u11 (C := C) (A := A) (n := n) (s0 := s0) (s1 := some (cupO a1 b1)) (s2 := s2) (s5 := some (fr (.lst (lineD A n)))) (s6 := x6) (s7 := some (.s (.lst ((walkP A (n + 1)).map VL.pairD)))) (s8 := some (.s (.dT (gI .int T)))) (s9 := x9) (s10 := some (fr (.lst ((freeP A (walkP A n)).map VL.pairD)))) (s11 := x11) (s12 := some (fr (.int (rightN A n)))) (s13 := s13) (s14 := s14) (s15 := s15) (s16 := s16) (s17 := none) (s18 := none) (s19 := none) (s20 := none) hA hn
  have e12 := u12 (C := C) (A := A) (n := n) (s0 := s0) (s1 := some (cupO a1 b1)) (s2 := s2) (s3 := some (fr (antD A))) (s5 := some (fr (.lst (lineD A n)))) (s6 := x6) (s9 := x9) (s11 := x11) (s13 := some (fr (toldD A n))) (s14 := s14) (s15 := s15) (s16 := s16) (s17 := none) (s18 := none) (s19 := none) (s20 := none) hA hn t c9'
  have e13 := u13 (C := C) (A := A) (n := n) (s0 := s0) (s1 := some (cupO a1 b1)) (s2 := s2) (s3 := some (fr (antD A))) (s4 := some (fr (.int n))) (s5 := some (fr (.lst (lineD A n)))) (s6 := x6) (s7 := some (.s (.lst ((walkP A (n + 1)).map VL.pairD)))) (s8 := some (.s (.dT (gI .int T)))) (s9 := x9) (s10 := some (fr (.lst ((freeP A (walkP A n)).map VL.pairD)))) (s11 := x11) (s12 := some (fr (.int (rightN A n)))) (s15 := s15) (s16 := s16) (s17 := none) (s18 := none) (s19 := none) (s20 := none) hA hn
  have e14 := u14 (C := C) (A := A) (n := n) (s0 := s0) (s1 := some (cupO a1 b1)) (s2 := s2) (s3 := some (fr (antD A))) (s4 := some (fr (.int n))) (s6 := x6) (s7 := some (.s (.lst ((walkP A (n + 1)).map VL.pairD)))) (s8 := some (.s (.dT (gI .int T)))) (s9 := x9) (s10 := some (fr (.lst ((freeP A (walkP A n)).map VL.pairD)))) (s11 := x11) (s12 := some (fr (.int (rightN A n)))) (s13 := some (fr (toldD A n))) (s14 := some (fr (toldD A n))) (s15 := s15) (s16 := s16) (s17 := none) (s18 := none) (s19 := none) (s20 := none) hA hn
  have e15 := u15 (C := C) (A := A) (n := n) (s0 := s0) (s1 := some (cupO a1 b1)) (s2 := s2) (s4 := some (fr (.int n))) (s5 := some (fr (.lst (lineD A n)))) (s6 := x6) (s7 := some (.s (.lst ((walkP A (n + 1)).map VL.pairD)))) (s8 := some (.s (.dT (gI .int T)))) (s9 := x9) (s10 := some (fr (.lst ((freeP A (walkP A n)).map VL.pairD)))) (s11 := x11) (s12 := some (fr (.int (rightN A n)))) (s13 := some (fr (toldD A n))) (s14 := some (fr (toldD A n))) (s16 := s16) (s17 := none) (s18 := none) (s19 := none) (s20 := none)
  have e18 := u18 (C := C) (A := A) (n := n) (s0 := s0) (s1 := some (cupO a1 b1)) (s2 := s2) (s6 := x6) (s8 := some (.s (.dT (gI .int T)))) (s9 := x9) (s10 := some (fr (.lst ((freeP A (walkP A n)).map VL.pairD)))) (s11 := x11) (s12 := some (fr (.int (rightN A n)))) (s13 := some (fr (toldD A n))) (s14 := some (fr (toldD A n))) (s16 := s16) (s17 := none) (s18 := none) (s19 := none) (s20 := none) hA hn
  refine ⟨_, ?_, a1, b1, s2, some (fr (antD A)), some (fr (.int n)), some (fr (.lst (lineD A n))), x6, some (.s (.lst ((walkP A (n + 1)).map VL.pairD))), some (.s (.dT (gI .int T))), x9, some (fr (.lst ((freeP A (walkP A n)).map VL.pairD))), x11, some (fr (.int (rightN A n))), some (fr (toldD A n)), some (fr (toldD A n)), some (fr (backD A n)), s16, ha1, c9', rfl⟩
  simp -implicitDefEqProofs -dsimp only [e_seq, e_skip, e_never, e_ret, e_n, e_c, e_d, e_do, e_nil, e_cons, e_op2, e_un, e_chain, e_b, e_not, e_and, e_or, e_andV, e_orV, e_notV, e_if, e_ifS, e_call, e_callN, e_callF, e_fz, e_tup, e_tupZ, e_lst, e_set, e_asg, e_put, e_get2, e_mut, e_mtr, e_for, e_iter, e_over, e_lc, e_yes, e_pno, e_po, e_cut, e_par2, e_par3, e_catN, e_newT, e_name, e_loc, e_take, e_move, e_gname, c_d, c_loc, k_loc, cs_nil', cs_cons', fz_fro, fz_lst, fz_dT, bnd_some, bnd_none, Option.bind_some, Option.bind_none, Option.map_some, Option.map_none, List.getElem?_cons_zero, List.getElem?_cons_succ, List.length_cons, List.length_nil, if_true, List.map_cons, List.map_nil, Nat.reduceSub, List.replicate_zero, List.replicate_succ, List.append_nil, List.cons_append, List.nil_append, List.set_cons_zero, List.set_cons_succ, Nat.reduceAdd, Nat.reduceLT, Nat.reduceLeDiff, argsO_nil, argsO_d, argsO_loc, locs_nil, locs_d, locs_loc, nodup_nil', nodup_one, backE_nil, backE_d, backE_loc, wipeE_nil, wipeE_cons, calmE_nil, calmE_none, restE_nil, restE_cons, keep_0, keep_1, keep_2, keep_3, keep_4, own_lst, own_dT, own_fro, ite_true', ite_false', reduceIte, Bool.not_true, Bool.not_false, Bool.false_eq_true, Option.join_some, List.head?_cons, List.tail_cons, set_loc, Option.getD_some, Option.getD_none, and_self, and_true, true_and, List.lookup, fr, Bool.true_and, Bool.false_and, Bool.and_true, Bool.and_false, Bool.and_self, Bool.true_or, Bool.false_or, Bool.or_true, Bool.or_false, e_fld, e_fldO, e_fldSet, e_gmFld, e_gmNil, e_gmCons, e_gmTup, e_gmKtup, e_meth, e_make, e_methT, c_fld, k_fld, set_fld, eq_self, cond_true, cond_false, true_or, or_true, false_or, or_false, e_lc2, fb_law_4, e2, e4, e5, e7, e9, e10, e11, e12, e13, e14, e15, e18]
/-! ### what was worked out by hand, and the far ant -/
def A0 : Ant := ⟨[true, false], 3, 3, 1, 1, 0, fun _ => 0⟩
theorem ok_A0 : Ok A0 := ⟨by decide, by decide, by decide, by decide, by decide, by decide, by decide, by decide, by decide, by decide, by decide, by decide, fun _ => Int.le_refl _, (fun _ => show (0 : Int) < 2 by decide), fun _ h => absurd h (show ¬ (0 : Int) < 0 by decide)⟩
def A1 : Ant := ⟨[true, false], 3, 3, 1, 2, 1, fun p => if p = (1, 1) then 1 else 0⟩
theorem ok_A1 : Ok A1 := by
  refine ⟨by decide, by decide, by decide, by decide, by decide, by decide, by decide, by decide, by decide, by decide, by decide, by decide, fun p => ?_, fun p => ?_, fun p hp => ?_⟩
  · show (0 : Int) ≤ if p = (1, 1) then 1 else 0
    split <;> decide
  · show (if p = (1, 1) then 1 else 0 : Int) < 2
    split <;> decide
  · have hp : (0 : Int) < if p = (1, 1) then 1 else 0 := hp
    split at hp
    · rename_i e; subst e; decide
    · exact absurd hp (by decide)
theorem rows_1 : run__law_same 12 [fr (.tup [visD (walkP A0 2), antD (revA A1)]), fr (.tup [.tup [.tup [.tup [.int 1, .int 1], .int 1], .tup [.tup [.int 1, .int 2], .int 1]], .tup [.str "rl", .int 3, .int 3, .tup [.int 1, .int 1], .int 3, .tup [.tup [.tup [.int 1, .int 1], .int 1]]]])] = some (fr (.bl true), [none, none]) := by kernel_rfl
theorem r_rows {C : Addr} : run__law_rows_right C [] = some (fr (.bl true), []) := by
  have e0 : D.tup [.str "rl", .int 3, .int 3, .tup [.int 1, .int 1], .int 0, .ktup []] = antD A0 := by kernel_rfl
  have e1 : D.tup [.str "rl", .int 3, .int 3, .tup [.int 1, .int 2], .int 1, .ktup [.tup [.tup [.int 1, .int 1], .int 1]]] = antD A1 := by kernel_rfl
  have e2 := (r_visits (C := C) ok_A0 (n := 2) (by decide)).1
  have e2 : run_visits C [fr (antD A0), fr (.int 2)] = some (fr (visD (walkP A0 2)), [none, none]) := e2
  have e3 := r_round (C := C) ok_A1
  rw [if_pos (show lrB A1 = true from rfl)] at e3
  have e4 := rows_1
  unfold run__law_rows_right fnRun m__law_rows_right
  simp -implicitDefEqProofs -dsimp only [e_seq, e_skip, e_never, e_ret, e_n, e_c, e_d, e_do, e_nil, e_cons, e_op2, e_un, e_chain, e_b, e_not, e_and, e_or, e_andV, e_orV, e_notV, e_if, e_ifS, e_call, e_callN, e_callF, e_fz, e_tup, e_tupZ, e_lst, e_set, e_asg, e_put, e_get2, e_mut, e_mtr, e_for, e_iter, e_over, e_lc, e_yes, e_pno, e_po, e_cut, e_par2, e_par3, e_catN, e_newT, e_name, e_loc, e_take, e_move, e_gname, c_d, c_loc, k_loc, cs_nil', cs_cons', fz_fro, fz_lst, fz_dT, bnd_some, bnd_none, Option.bind_some, Option.bind_none, Option.map_some, Option.map_none, List.getElem?_cons_zero, List.getElem?_cons_succ, List.length_cons, List.length_nil, if_true, List.map_cons, List.map_nil, Nat.reduceSub, List.replicate_zero, List.replicate_succ, List.append_nil, List.cons_append, List.nil_append, List.set_cons_zero, List.set_cons_succ, Nat.reduceAdd, Nat.reduceLT, Nat.reduceLeDiff, argsO_nil, argsO_d, argsO_loc, locs_nil, locs_d, locs_loc, nodup_nil', nodup_one, backE_nil, backE_d, backE_loc, wipeE_nil, wipeE_cons, calmE_nil, calmE_none, restE_nil, restE_cons, keep_0, keep_1, keep_2, keep_3, keep_4, own_lst, own_dT, own_fro, ite_true', ite_false', reduceIte, Bool.not_true, Bool.not_false, Bool.false_eq_true, Option.join_some, List.head?_cons, List.tail_cons, set_loc, Option.getD_some, Option.getD_none, and_self, and_true, true_and, List.lookup, fr, Bool.true_and, Bool.false_and, Bool.and_true, Bool.and_false, Bool.and_self, Bool.true_or, Bool.false_or, Bool.or_true, Bool.or_false, e_fld, e_fldO, e_fldSet, e_gmFld, e_gmNil, e_gmCons, e_gmTup, e_gmKtup, e_meth, e_make, e_methT, c_fld, k_fld, set_fld, eq_self, cond_true, cond_false, true_or, or_true, false_or, or_false, e_lc2, st__law_rows_right_1, st__law_rows_right_2, st__law_rows_right_3, e0, e1, e2, e3, e4]
def A5 : Ant := ⟨[true, false], 20, 20, 9, 9, 0, fun _ => 0⟩
theorem ok_A5 : Ok A5 := ⟨by decide, by decide, by decide, by decide, by decide, by decide, by decide, by decide, by decide, by decide, by decide, by decide, fun _ => Int.le_refl _, (fun _ => show (0 : Int) < 2 by decide), fun _ h => absurd h (show ¬ (0 : Int) < 0 by decide)⟩
theorem lit_A5 : D.tup [.str "rl", .int 20, .int 20, .tup [.int 9, .int 9], .int 0, .ktup []] = antD A5 := by kernel_rfl
theorem sum_cast : ∀ xs : List Nat, (xs.map fun x => ((x : Nat) : Int)).sum = ((xs.sum : Nat) : Int)
  | [] => rfl
  | x :: xs => by rw [List.map_cons, List.sum_cons, sum_cast xs, List.sum_cons]; omega
theorem dEq_same {k : Nat} {d : D} (h : SameOk k d) (hk : k ≤ 60) : dEq d d = some (.bl true) := by
  obtain ⟨p, e1, e2⟩ := eqv_same h 60 hk
  unfold dEq
  rw [e1]
  show some (D.bl (PyData.eqv p p)) = _
  rw [e2]
theorem times_sum {ps : List Pt} : ((visP ps).map (·.2)).sum = ((ps.length : Nat) : Int) := by
  unfold visP
  rw [List.map_map]
  have : ((fun x : Pt × Int => x.2) ∘ fun p => (p, ((ps.count p : Nat) : Int))) = (fun x : Nat => ((x : Nat) : Int)) ∘ fun p => ps.count p := rfl
  rw [this, ← List.map_map, sum_cast, sum_counts _ _ (sorted_nodup (setSort_sorted ps)) fun p hp => mem_setSort.mpr hp]
section
variable {C : Addr} {s0 s1 s2 s3 s4 s5 s6 s7 s8 s9 s10 s11 s12 s13 s14 s15 s16 s17 s18 s19 s20 : Option O}
theorem u20 : st_law_20 C [s0, s1, s2, s3, s4, s5, s6, s7, s8, s9, s10, s11, s12, s13, s14, s15, s16, s17, s18, s19, s20] = some (.nx, [s0, s1, s2, some (fr (antD A5)), s4, s5, s6, s7, s8, s9, s10, s11, s12, s13, s14, s15, s16, s17, s18, s19, s20]) := by
  simp -implicitDefEqProofs -dsimp only [e_seq, e_skip, e_never, e_ret, e_n, e_c, e_d, e_do, e_nil, e_cons, e_op2, e_un, e_chain, e_b, e_not, e_and, e_or, e_andV, e_orV, e_notV, e_if, e_ifS, e_call, e_callN, e_callF, e_fz, e_tup, e_tupZ, e_lst, e_set, e_asg, e_put, e_get2, e_mut, e_mtr, e_for, e_iter, e_over, e_lc, e_yes, e_pno, e_po, e_cut, e_par2, e_par3, e_catN, e_newT, e_name, e_loc, e_take, e_move, e_gname, c_d, c_loc, k_loc, cs_nil', cs_cons', fz_fro, fz_lst, fz_dT, bnd_some, bnd_none, Option.bind_some, Option.bind_none, Option.map_some, Option.map_none, List.getElem?_cons_zero, List.getElem?_cons_succ, List.length_cons, List.length_nil, if_true, List.map_cons, List.map_nil, Nat.reduceSub, List.replicate_zero, List.replicate_succ, List.append_nil, List.cons_append, List.nil_append, List.set_cons_zero, List.set_cons_succ, Nat.reduceAdd, Nat.reduceLT, Nat.reduceLeDiff, argsO_nil, argsO_d, argsO_loc, locs_nil, locs_d, locs_loc, nodup_nil', nodup_one, backE_nil, backE_d, backE_loc, wipeE_nil, wipeE_cons, calmE_nil, calmE_none, restE_nil, restE_cons, keep_0, keep_1, keep_2, keep_3, keep_4, own_lst, own_dT, own_fro, ite_true', ite_false', reduceIte, Bool.not_true, Bool.not_false, Bool.false_eq_true, Option.join_some, List.head?_cons, List.tail_cons, set_loc, Option.getD_some, Option.getD_none, and_self, and_true, true_and, List.lookup, fr, Bool.true_and, Bool.false_and, Bool.and_true, Bool.and_false, Bool.and_self, Bool.true_or, Bool.false_or, Bool.or_true, Bool.or_false, e_fld, e_fldO, e_fldSet, e_gmFld, e_gmNil, e_gmCons, e_gmTup, e_gmKtup, e_meth, e_make, e_methT, c_fld, k_fld, set_fld, eq_self, cond_true, cond_false, true_or, or_true, false_or, or_false, e_lc2, st_law_20, lit_A5]
theorem u21 : st_law_21 C [s0, s1, s2, some (fr (antD A5)), s4, s5, s6, s7, s8, s9, s10, s11, s12, s13, s14, s15, s16, s17, s18, s19, s20] = some (.nx, [s0, s1, s2, some (fr (antD A5)), s4, s5, s6, s7, s8, s9, s10, s11, s12, s13, s14, s15, some (fr (antD (steps A5 5000))), s17, s18, s19, s20]) := by
  have e1 := r_ant_after (C := C) ok_A5 (n := 5000) (by decide)
  have e1 : run_ant_after C [fr (antD A5), fr (.int 5000)] = some (fr (antD (steps A5 5000)), [none, none]) := e1
  simp -implicitDefEqProofs -dsimp only [e_seq, e_skip, e_never, e_ret, e_n, e_c, e_d, e_do, e_nil, e_cons, e_op2, e_un, e_chain, e_b, e_not, e_and, e_or, e_andV, e_orV, e_notV, e_if, e_ifS, e_call, e_callN, e_callF, e_fz, e_tup, e_tupZ, e_lst, e_set, e_asg, e_put, e_get2, e_mut, e_mtr, e_for, e_iter, e_over, e_lc, e_yes, e_pno, e_po, e_cut, e_par2, e_par3, e_catN, e_newT, e_name, e_loc, e_take, e_move, e_gname, c_d, c_loc, k_loc, cs_nil', cs_cons', fz_fro, fz_lst, fz_dT, bnd_some, bnd_none, Option.bind_some, Option.bind_none, Option.map_some, Option.map_none, List.getElem?_cons_zero, List.getElem?_cons_succ, List.length_cons, List.length_nil, if_true, List.map_cons, List.map_nil, Nat.reduceSub, List.replicate_zero, List.replicate_succ, List.append_nil, List.cons_append, List.nil_append, List.set_cons_zero, List.set_cons_succ, Nat.reduceAdd, Nat.reduceLT, Nat.reduceLeDiff, argsO_nil, argsO_d, argsO_loc, locs_nil, locs_d, locs_loc, nodup_nil', nodup_one, backE_nil, backE_d, backE_loc, wipeE_nil, wipeE_cons, calmE_nil, calmE_none, restE_nil, restE_cons, keep_0, keep_1, keep_2, keep_3, keep_4, own_lst, own_dT, own_fro, ite_true', ite_false', reduceIte, Bool.not_true, Bool.not_false, Bool.false_eq_true, Option.join_some, List.head?_cons, List.tail_cons, set_loc, Option.getD_some, Option.getD_none, and_self, and_true, true_and, List.lookup, fr, Bool.true_and, Bool.false_and, Bool.and_true, Bool.and_false, Bool.and_self, Bool.true_or, Bool.false_or, Bool.or_true, Bool.or_false, e_fld, e_fldO, e_fldSet, e_gmFld, e_gmNil, e_gmCons, e_gmTup, e_gmKtup, e_meth, e_make, e_methT, c_fld, k_fld, set_fld, eq_self, cond_true, cond_false, true_or, or_true, false_or, or_false, e_lc2, st_law_21, e1]
theorem u22 (c9 : Cm s9) (c20 : s20 = none) : st_law_22 C [s0, s1, s2, some (fr (antD A5)), s4, s5, s6, s7, s8, s9, s10, s11, s12, s13, s14, s15, some (fr (antD (steps A5 5000))), s17, s18, s19, s20] = some (.nx, [s0, s1, s2, some (fr (antD A5)), s4, s5, s6, s7, s8, s9, s10, s11, s12, some (fr (.tup [.int 5001, .int 5000, .bl true, .bl true])), s14, s15, some (fr (antD (steps A5 5000))), s17, s18, s19, s20]) := by
  subst c20
  have e1 := r_trail (C := C) ok_A5 (n := 5000) (by decide)
  have e1 : run_trail C [fr (antD A5), fr (.int 5000)] = some (fr (.ktup ((walkP A5 5001).map VL.pairD)), [none, none]) := e1
  have e2 : fLen [.ktup ((walkP A5 5001).map VL.pairD)] = some (.int 5001) := by
    rw [len_k, List.length_map, walk_len]; rfl
  obtain ⟨e3, sl⟩ := r_visits (C := C) ok_A5 (n := 5000) (by decide)
  have e3 : run_visits C [fr (antD A5), fr (.int 5000)] = some (fr (visD (walkP A5 5000)), [none, none]) := e3
  have e4 := r_ant_before (C := C) (ok_steps ok_A5 5000) (n := 5000) (by decide)
  rw [backs_steps ok_A5] at e4
  have e4 : run_ant_after C [fr (antD (steps A5 5000)), fr (.int (-5000))] = some (fr (antD A5), [none, none]) := e4
  have e5 := dEq_same (same_antD ok_A5) (by decide)
  have e6 : atI ((walkP A5 5001).map VL.pairD) (-1) = some (VL.pairD (ptA (steps A5 5000))) := by
    rw [walk_succ (n := 5000), List.map_append]; exact at_last
  have e7 := dEq_same (same_pair (k := 0) (p := ptA (steps A5 5000))) (by decide)
  have sm : small (pairsD D.int (visP (walkP A5 5000))).length = true := small_of (by
    unfold pairsD visP; rw [List.length_map, List.length_map]; omega)
  have lc := lc_all (own := [9, 20]) (tm := gmTup 2 (gmCons (gmName 9) (gmCons (gmName 20) (gmNil)))) (me := mName 20) (η := [s0, s1, s2, some (fr (antD A5)), s4, s5, s6, s7, s8, none, s10, s11, s12, s13, s14, s15, some (fr (antD (steps A5 5000))), s17, s18, s19, none]) (fun d => match d with
    | .tup [_, c] => c
    | d => d) (pairsD .int (visP (walkP A5 5000))) fun d hd => by
    unfold pairsD at hd
    obtain ⟨p, _, rfl⟩ := List.mem_map.mp hd
    exact ⟨[s0, s1, s2, some (fr (antD A5)), s4, s5, s6, s7, s8, some (fr (VL.pairD p.1)), s10, s11, s12, s13, s14, s15, some (fr (antD (steps A5 5000))), s17, s18, s19, some (fr (.int p.2))], [s0, s1, s2, some (fr (antD A5)), s4, s5, s6, s7, s8, some (fr (VL.pairD p.1)), s10, s11, s12, s13, s14, s15, some (fr (antD (steps A5 5000))), s17, s18, s19, some (fr (.int p.2))], by simp -implicitDefEqProofs -dsimp only [e_seq, e_skip, e_never, e_ret, e_n, e_c, e_d, e_do, e_nil, e_cons, e_op2, e_un, e_chain, e_b, e_not, e_and, e_or, e_andV, e_orV, e_notV, e_if, e_ifS, e_call, e_callN, e_callF, e_fz, e_tup, e_tupZ, e_lst, e_set, e_asg, e_put, e_get2, e_mut, e_mtr, e_for, e_iter, e_over, e_lc, e_yes, e_pno, e_po, e_cut, e_par2, e_par3, e_catN, e_newT, e_name, e_loc, e_take, e_move, e_gname, c_d, c_loc, k_loc, cs_nil', cs_cons', fz_fro, fz_lst, fz_dT, bnd_some, bnd_none, Option.bind_some, Option.bind_none, Option.map_some, Option.map_none, List.getElem?_cons_zero, List.getElem?_cons_succ, List.length_cons, List.length_nil, if_true, List.map_cons, List.map_nil, Nat.reduceSub, List.replicate_zero, List.replicate_succ, List.append_nil, List.cons_append, List.nil_append, List.set_cons_zero, List.set_cons_succ, Nat.reduceAdd, Nat.reduceLT, Nat.reduceLeDiff, argsO_nil, argsO_d, argsO_loc, locs_nil, locs_d, locs_loc, nodup_nil', nodup_one, backE_nil, backE_d, backE_loc, wipeE_nil, wipeE_cons, calmE_nil, calmE_none, restE_nil, restE_cons, keep_0, keep_1, keep_2, keep_3, keep_4, own_lst, own_dT, own_fro, ite_true', ite_false', reduceIte, Bool.not_true, Bool.not_false, Bool.false_eq_true, Option.join_some, List.head?_cons, List.tail_cons, set_loc, Option.getD_some, Option.getD_none, and_self, and_true, true_and, List.lookup, fr, Bool.true_and, Bool.false_and, Bool.and_true, Bool.and_false, Bool.and_self, Bool.true_or, Bool.false_or, Bool.or_true, Bool.or_false, e_fld, e_fldO, e_fldSet, e_gmFld, e_gmNil, e_gmCons, e_gmTup, e_gmKtup, e_meth, e_make, e_methT, c_fld, k_fld, set_fld, eq_self, cond_true, cond_false, true_or, or_true, false_or, or_false, e_lc2], by simp -implicitDefEqProofs -dsimp only [e_seq, e_skip, e_never, e_ret, e_n, e_c, e_d, e_do, e_nil, e_cons, e_op2, e_un, e_chain, e_b, e_not, e_and, e_or, e_andV, e_orV, e_notV, e_if, e_ifS, e_call, e_callN, e_callF, e_fz, e_tup, e_tupZ, e_lst, e_set, e_asg, e_put, e_get2, e_mut, e_mtr, e_for, e_iter, e_over, e_lc, e_yes, e_pno, e_po, e_cut, e_par2, e_par3, e_catN, e_newT, e_name, e_loc, e_take, e_move, e_gname, c_d, c_loc, k_loc, cs_nil', cs_cons', fz_fro, fz_lst, fz_dT, bnd_some, bnd_none, Option.bind_some, Option.bind_none, Option.map_some, Option.map_none, List.getElem?_cons_zero, List.getElem?_cons_succ, List.length_cons, List.length_nil, if_true, List.map_cons, List.map_nil, Nat.reduceSub, List.replicate_zero, List.replicate_succ, List.append_nil, List.cons_append, List.nil_append, List.set_cons_zero, List.set_cons_succ, Nat.reduceAdd, Nat.reduceLT, Nat.reduceLeDiff, argsO_nil, argsO_d, argsO_loc, locs_nil, locs_d, locs_loc, nodup_nil', nodup_one, backE_nil, backE_d, backE_loc, wipeE_nil, wipeE_cons, calmE_nil, calmE_none, restE_nil, restE_cons, keep_0, keep_1, keep_2, keep_3, keep_4, own_lst, own_dT, own_fro, ite_true', ite_false', reduceIte, Bool.not_true, Bool.not_false, Bool.false_eq_true, Option.join_some, List.head?_cons, List.tail_cons, set_loc, Option.getD_some, Option.getD_none, and_self, and_true, true_and, List.lookup, fr, Bool.true_and, Bool.false_and, Bool.and_true, Bool.and_false, Bool.and_self, Bool.true_or, Bool.false_or, Bool.or_true, Bool.or_false, e_fld, e_fldO, e_fldSet, e_gmFld, e_gmNil, e_gmCons, e_gmTup, e_gmKtup, e_meth, e_make, e_methT, c_fld, k_fld, set_fld, eq_self, cond_true, cond_false, true_or, or_true, false_or, or_false, e_lc2], by simp -implicitDefEqProofs -dsimp only [e_seq, e_skip, e_never, e_ret, e_n, e_c, e_d, e_do, e_nil, e_cons, e_op2, e_un, e_chain, e_b, e_not, e_and, e_or, e_andV, e_orV, e_notV, e_if, e_ifS, e_call, e_callN, e_callF, e_fz, e_tup, e_tupZ, e_lst, e_set, e_asg, e_put, e_get2, e_mut, e_mtr, e_for, e_iter, e_over, e_lc, e_yes, e_pno, e_po, e_cut, e_par2, e_par3, e_catN, e_newT, e_name, e_loc, e_take, e_move, e_gname, c_d, c_loc, k_loc, cs_nil', cs_cons', fz_fro, fz_lst, fz_dT, bnd_some, bnd_none, Option.bind_some, Option.bind_none, Option.map_some, Option.map_none, List.getElem?_cons_zero, List.getElem?_cons_succ, List.length_cons, List.length_nil, if_true, List.map_cons, List.map_nil, Nat.reduceSub, List.replicate_zero, List.replicate_succ, List.append_nil, List.cons_append, List.nil_append, List.set_cons_zero, List.set_cons_succ, Nat.reduceAdd, Nat.reduceLT, Nat.reduceLeDiff, argsO_nil, argsO_d, argsO_loc, locs_nil, locs_d, locs_loc, nodup_nil', nodup_one, backE_nil, backE_d, backE_loc, wipeE_nil, wipeE_cons, calmE_nil, calmE_none, restE_nil, restE_cons, keep_0, keep_1, keep_2, keep_3, keep_4, own_lst, own_dT, own_fro, ite_true', ite_false', reduceIte, Bool.not_true, Bool.not_false, Bool.false_eq_true, Option.join_some, List.head?_cons, List.tail_cons, set_loc, Option.getD_some, Option.getD_none, and_self, and_true, true_and, List.lookup, fr, Bool.true_and, Bool.false_and, Bool.and_true, Bool.and_false, Bool.and_self, Bool.true_or, Bool.false_or, Bool.or_true, Bool.or_false, e_fld, e_fldO, e_fldSet, e_gmFld, e_gmNil, e_gmCons, e_gmTup, e_gmKtup, e_meth, e_make, e_methT, c_fld, k_fld, set_fld, eq_self, cond_true, cond_false, true_or, or_true, false_or, or_false, e_lc2]⟩
  have em : (pairsD D.int (visP (walkP A5 5000))).map (fun d => match d with
    | .tup [_, c] => c
    | d => d) = ((visP (walkP A5 5000)).map (·.2)).map D.int := by
    unfold pairsD
    rw [List.map_map, List.map_map]; rfl
  rw [em] at lc
  have e8 : fSum [.lst (((visP (walkP A5 5000)).map (·.2)).map D.int)] = some (.int 5000) := by
    rw [sum_ints, times_sum, walk_len]; rfl
  have iv : itemsI (visD (walkP A5 5000)) = some (pairsD .int (visP (walkP A5 5000))) := rfl
  rcases c9 with rfl | ⟨o, rfl⟩ <;>
  simp -implicitDefEqProofs -dsimp only [e_seq, e_skip, e_never, e_ret, e_n, e_c, e_d, e_do, e_nil, e_cons, e_op2, e_un, e_chain, e_b, e_not, e_and, e_or, e_andV, e_orV, e_notV, e_if, e_ifS, e_call, e_callN, e_callF, e_fz, e_tup, e_tupZ, e_lst, e_set, e_asg, e_put, e_get2, e_mut, e_mtr, e_for, e_iter, e_over, e_lc, e_yes, e_pno, e_po, e_cut, e_par2, e_par3, e_catN, e_newT, e_name, e_loc, e_take, e_move, e_gname, c_d, c_loc, k_loc, cs_nil', cs_cons', fz_fro, fz_lst, fz_dT, bnd_some, bnd_none, Option.bind_some, Option.bind_none, Option.map_some, Option.map_none, List.getElem?_cons_zero, List.getElem?_cons_succ, List.length_cons, List.length_nil, if_true, List.map_cons, List.map_nil, Nat.reduceSub, List.replicate_zero, List.replicate_succ, List.append_nil, List.cons_append, List.nil_append, List.set_cons_zero, List.set_cons_succ, Nat.reduceAdd, Nat.reduceLT, Nat.reduceLeDiff, argsO_nil, argsO_d, argsO_loc, locs_nil, locs_d, locs_loc, nodup_nil', nodup_one, backE_nil, backE_d, backE_loc, wipeE_nil, wipeE_cons, calmE_nil, calmE_none, restE_nil, restE_cons, keep_0, keep_1, keep_2, keep_3, keep_4, own_lst, own_dT, own_fro, ite_true', ite_false', reduceIte, Bool.not_true, Bool.not_false, Bool.false_eq_true, Option.join_some, List.head?_cons, List.tail_cons, set_loc, Option.getD_some, Option.getD_none, and_self, and_true, true_and, List.lookup, fr, Bool.true_and, Bool.false_and, Bool.and_true, Bool.and_false, Bool.and_self, Bool.true_or, Bool.false_or, Bool.or_true, Bool.or_false, e_fld, e_fldO, e_fldSet, e_gmFld, e_gmNil, e_gmCons, e_gmTup, e_gmKtup, e_meth, e_make, e_methT, c_fld, k_fld, set_fld, eq_self, cond_true, cond_false, true_or, or_true, false_or, or_false, e_lc2, st_law_22, e1, e2, e3, iv, sm, lc, e8, dNeg_i, e4, e5, dIx_k, e6, ant_3, e7]
theorem u23 : st_law_23 C [s0, s1, s2, s3, s4, s5, s6, s7, s8, s9, s10, s11, s12, some (fr (.tup [.int 5001, .int 5000, .bl true, .bl true])), s14, s15, s16, s17, s18, s19, s20] = some (.rt (fr (.bl true)), [s0, s1, s2, s3, s4, s5, s6, s7, s8, s9, s10, s11, s12, some (fr (.tup [.int 5001, .int 5000, .bl true, .bl true])), s14, s15, s16, s17, s18, s19, s20]) := by
  have e1 : run__law_same 12 [fr (.tup [.int 5001, .int 5000, .bl true, .bl true]), fr (.tup [.int 5001, .int 5000, .bl true, .bl true])] = some (fr (.bl true), [none, none]) := r_same (.tup (fun x hx => by
    have hx : x = .int 5001 ∨ x = .int 5000 ∨ x = .bl true := by simpa using hx
    rcases hx with rfl | rfl | rfl
    · exact .int
    · exact .int
    · exact .bl) (by decide : 4 ≤ 1000000))
  simp -implicitDefEqProofs -dsimp only [e_seq, e_skip, e_never, e_ret, e_n, e_c, e_d, e_do, e_nil, e_cons, e_op2, e_un, e_chain, e_b, e_not, e_and, e_or, e_andV, e_orV, e_notV, e_if, e_ifS, e_call, e_callN, e_callF, e_fz, e_tup, e_tupZ, e_lst, e_set, e_asg, e_put, e_get2, e_mut, e_mtr, e_for, e_iter, e_over, e_lc, e_yes, e_pno, e_po, e_cut, e_par2, e_par3, e_catN, e_newT, e_name, e_loc, e_take, e_move, e_gname, c_d, c_loc, k_loc, cs_nil', cs_cons', fz_fro, fz_lst, fz_dT, bnd_some, bnd_none, Option.bind_some, Option.bind_none, Option.map_some, Option.map_none, List.getElem?_cons_zero, List.getElem?_cons_succ, List.length_cons, List.length_nil, if_true, List.map_cons, List.map_nil, Nat.reduceSub, List.replicate_zero, List.replicate_succ, List.append_nil, List.cons_append, List.nil_append, List.set_cons_zero, List.set_cons_succ, Nat.reduceAdd, Nat.reduceLT, Nat.reduceLeDiff, argsO_nil, argsO_d, argsO_loc, locs_nil, locs_d, locs_loc, nodup_nil', nodup_one, backE_nil, backE_d, backE_loc, wipeE_nil, wipeE_cons, calmE_nil, calmE_none, restE_nil, restE_cons, keep_0, keep_1, keep_2, keep_3, keep_4, own_lst, own_dT, own_fro, ite_true', ite_false', reduceIte, Bool.not_true, Bool.not_false, Bool.false_eq_true, Option.join_some, List.head?_cons, List.tail_cons, set_loc, Option.getD_some, Option.getD_none, and_self, and_true, true_and, List.lookup, fr, Bool.true_and, Bool.false_and, Bool.and_true, Bool.and_false, Bool.and_self, Bool.true_or, Bool.false_or, Bool.or_true, Bool.or_false, e_fld, e_fldO, e_fldSet, e_gmFld, e_gmNil, e_gmCons, e_gmTup, e_gmKtup, e_meth, e_make, e_methT, c_fld, k_fld, set_fld, eq_self, cond_true, cond_false, true_or, or_true, false_or, or_false, e_lc2, st_law_23, e1]
end
theorem plain_law (C : Addr) : VL.Plain (run_law C) := by
  intro ns hn
  obtain ⟨a, b, ha, e1⟩ := r_cup hn
  have e2 := r_rows (C := C)
  obtain ⟨η', e3, hI⟩ := loop_inv (tm := gmName 2) (body := fb_law_4 C) (fun _ η => Inv (some (fr (.lst (ns.map D.int)))) η) (intsD 0 5) 0 [some (fr (.lst (ns.map D.int))), some (cupO a b), none, none, none, none, none, none, none, none, none, none, none, none, none, none, none, none, none, none, none] ⟨a, b, none, none, none, none, none, none, none, none, none, none, none, none, none, none, none, ha, .inl rfl, rfl⟩ fun i d η hd hI => by
    have h2 : ∃ η1, gmName 2 d η = some η1 ∧ Inv (some (fr (.lst (ns.map D.int)))) η1 := by
      obtain ⟨a, b, s2, s3, s4, s5, s6, s7, s8, s9, s10, s11, s12, s13, s14, s15, s16, ha, c9, rfl⟩ := hI
      exact ⟨[some (fr (.lst (ns.map D.int))), some (cupO a b), some (fr d), s3, s4, s5, s6, s7, s8, s9, s10, s11, s12, s13, s14, s15, s16, none, none, none, none], by simp -implicitDefEqProofs -dsimp only [e_seq, e_skip, e_never, e_ret, e_n, e_c, e_d, e_do, e_nil, e_cons, e_op2, e_un, e_chain, e_b, e_not, e_and, e_or, e_andV, e_orV, e_notV, e_if, e_ifS, e_call, e_callN, e_callF, e_fz, e_tup, e_tupZ, e_lst, e_set, e_asg, e_put, e_get2, e_mut, e_mtr, e_for, e_iter, e_over, e_lc, e_yes, e_pno, e_po, e_cut, e_par2, e_par3, e_catN, e_newT, e_name, e_loc, e_take, e_move, e_gname, c_d, c_loc, k_loc, cs_nil', cs_cons', fz_fro, fz_lst, fz_dT, bnd_some, bnd_none, Option.bind_some, Option.bind_none, Option.map_some, Option.map_none, List.getElem?_cons_zero, List.getElem?_cons_succ, List.length_cons, List.length_nil, if_true, List.map_cons, List.map_nil, Nat.reduceSub, List.replicate_zero, List.replicate_succ, List.append_nil, List.cons_append, List.nil_append, List.set_cons_zero, List.set_cons_succ, Nat.reduceAdd, Nat.reduceLT, Nat.reduceLeDiff, argsO_nil, argsO_d, argsO_loc, locs_nil, locs_d, locs_loc, nodup_nil', nodup_one, backE_nil, backE_d, backE_loc, wipeE_nil, wipeE_cons, calmE_nil, calmE_none, restE_nil, restE_cons, keep_0, keep_1, keep_2, keep_3, keep_4, own_lst, own_dT, own_fro, ite_true', ite_false', reduceIte, Bool.not_true, Bool.not_false, Bool.false_eq_true, Option.join_some, List.head?_cons, List.tail_cons, set_loc, Option.getD_some, Option.getD_none, and_self, and_true, true_and, List.lookup, fr, Bool.true_and, Bool.false_and, Bool.and_true, Bool.and_false, Bool.and_self, Bool.true_or, Bool.false_or, Bool.or_true, Bool.or_false, e_fld, e_fldO, e_fldSet, e_gmFld, e_gmNil, e_gmCons, e_gmTup, e_gmKtup, e_meth, e_make, e_methT, c_fld, k_fld, set_fld, eq_self, cond_true, cond_false, true_or, or_true, false_or, or_false, e_lc2], a, b, some (fr d), s3, s4, s5, s6, s7, s8, s9, s10, s11, s12, s13, s14, s15, s16, ha, c9, rfl⟩
    obtain ⟨η1, q1, q2⟩ := h2
    obtain ⟨η2, q3, q4⟩ := body (C := C) q2
    exact ⟨η1, η2, q1, .inl q3, q4⟩
  have e4 : rangeI1 [.int 5] = some (intsD 0 5) := range_n (n := 5) (by decide)
  obtain ⟨a', b', s2, s3, s4, s5, s6, s7, s8, s9, s10, s11, s12, s13, s14, s15, s16, _, c9, rfl⟩ := hI
  have f1 := u20 (C := C) (s0 := some (fr (.lst (ns.map D.int)))) (s1 := some (cupO a' b')) (s2 := s2) (s3 := s3) (s4 := s4) (s5 := s5) (s6 := s6) (s7 := s7) (s8 := s8) (s9 := s9) (s10 := s10) (s11 := s11) (s12 := s12) (s13 := s13) (s14 := s14) (s15 := s15) (s16 := s16) (s17 := none) (s18 := none) (s19 := none) (s20 := none)
  have f2 := u21 (C := C) (s0 := some (fr (.lst (ns.map D.int)))) (s1 := some (cupO a' b')) (s2 := s2) (s4 := s4) (s5 := s5) (s6 := s6) (s7 := s7) (s8 := s8) (s9 := s9) (s10 := s10) (s11 := s11) (s12 := s12) (s13 := s13) (s14 := s14) (s15 := s15) (s16 := s16) (s17 := none) (s18 := none) (s19 := none) (s20 := none)
  have f3 := u22 (C := C) (s0 := some (fr (.lst (ns.map D.int)))) (s1 := some (cupO a' b')) (s2 := s2) (s4 := s4) (s5 := s5) (s6 := s6) (s7 := s7) (s8 := s8) (s9 := s9) (s10 := s10) (s11 := s11) (s12 := s12) (s13 := s13) (s14 := s14) (s15 := s15) (s17 := none) (s18 := none) (s19 := none) (s20 := none) c9 rfl
  have f4 := u23 (C := C) (s0 := some (fr (.lst (ns.map D.int)))) (s1 := some (cupO a' b')) (s2 := s2) (s3 := some (fr (antD A5))) (s4 := s4) (s5 := s5) (s6 := s6) (s7 := s7) (s8 := s8) (s9 := s9) (s10 := s10) (s11 := s11) (s12 := s12) (s14 := s14) (s15 := s15) (s16 := some (fr (antD (steps A5 5000)))) (s17 := none) (s18 := none) (s19 := none) (s20 := none)
  refine ⟨[none], ?_⟩
  unfold run_law fnRun m_law
  simp -implicitDefEqProofs -dsimp only [e_seq, e_skip, e_never, e_ret, e_n, e_c, e_d, e_do, e_nil, e_cons, e_op2, e_un, e_chain, e_b, e_not, e_and, e_or, e_andV, e_orV, e_notV, e_if, e_ifS, e_call, e_callN, e_callF, e_fz, e_tup, e_tupZ, e_lst, e_set, e_asg, e_put, e_get2, e_mut, e_mtr, e_for, e_iter, e_over, e_lc, e_yes, e_pno, e_po, e_cut, e_par2, e_par3, e_catN, e_newT, e_name, e_loc, e_take, e_move, e_gname, c_d, c_loc, k_loc, cs_nil', cs_cons', fz_fro, fz_lst, fz_dT, bnd_some, bnd_none, Option.bind_some, Option.bind_none, Option.map_some, Option.map_none, List.getElem?_cons_zero, List.getElem?_cons_succ, List.length_cons, List.length_nil, if_true, List.map_cons, List.map_nil, Nat.reduceSub, List.replicate_zero, List.replicate_succ, List.append_nil, List.cons_append, List.nil_append, List.set_cons_zero, List.set_cons_succ, Nat.reduceAdd, Nat.reduceLT, Nat.reduceLeDiff, argsO_nil, argsO_d, argsO_loc, locs_nil, locs_d, locs_loc, nodup_nil', nodup_one, backE_nil, backE_d, backE_loc, wipeE_nil, wipeE_cons, calmE_nil, calmE_none, restE_nil, restE_cons, keep_0, keep_1, keep_2, keep_3, keep_4, own_lst, own_dT, own_fro, ite_true', ite_false', reduceIte, Bool.not_true, Bool.not_false, Bool.false_eq_true, Option.join_some, List.head?_cons, List.tail_cons, set_loc, Option.getD_some, Option.getD_none, and_self, and_true, true_and, List.lookup, fr, Bool.true_and, Bool.false_and, Bool.and_true, Bool.and_false, Bool.and_self, Bool.true_or, Bool.false_or, Bool.or_true, Bool.or_false, e_fld, e_fldO, e_fldSet, e_gmFld, e_gmNil, e_gmCons, e_gmTup, e_gmKtup, e_meth, e_make, e_methT, c_fld, k_fld, set_fld, eq_self, cond_true, cond_false, true_or, or_true, false_or, or_false, e_lc2, e1, st_law_1, e2, st_law_19, e4, e3, f1, f2, f3, f4, List.mem_nil_iff]
end K87
end
set_option Elab.async false
set_option linter.all false
set_option maxRecDepth 100000
open PySem PySem.W PyProof.Rows in
set_option maxRecDepth 100000 in
set_option maxHeartbeats 0 in
theorem PySem.Challenge.cw_cellgrounds_k87_whole_trails_of_ants_holds : PySem.Challenge.rw_cellgrounds_k87_whole_trails_of_ants.Holds := by
  w_on; o_law; k_head; (case hw => w_witness2)
  k_fill
  refine VL.walkV (k := 14) (l := PySem.Challenge.rw_cellgrounds_k87_whole_trails_of_ants) rfl rfl ⟨rfl, by decide, by decide⟩ (fun w h Y => PySem.W.kIn_of Y) ?F
  case F =>
    intro w mg fa h KX G hmg
    refine' K87.law_mk (K87.plain_law _) KX G hmg (K87.txt_mk KX G ?z_abs ?z_all ?z_bool ?z_dict ?z_int ?z_isinstance ?z_len ?z_list ?z_range ?z_sorted ?z_str ?z_sum ?z_tuple ?z_zip ?g_AHEAD ?b1_ ?b2_ ?b5_ ?b8_ ?b11_ ?g_RULES ?g_SIDE ?g_STEPS ?aC ?pg ?hd ?po ?sa ?mk ?kc ?f_cell ?f_heading ?f_high ?f_paint ?f_rule ?f_wide ?a0 ?l0 ?c0 ?k0_ ?a1 ?l1 ?c1 ?k1_ ?a2 ?l2 ?c2 ?k2_ ?a3 ?l3 ?c3 ?k3_ ?a4 ?l4 ?c4 ?k4_ ?a5 ?l5 ?c5 ?k5_ ?a6 ?l6 ?c6 ?k6_ ?a7 ?l7 ?c7 ?k7_ ?a8 ?l8 ?c8 ?k8_ ?a9 ?i9 ?l9 ?c9 ?k9_ ?a10 ?i10 ?l10 ?c10 ?k10_ ?a11 ?i11 ?l11 ?c11 ?k11_ ?a12 ?i12 ?l12 ?c12 ?k12_ ?a13 ?i13 ?l13 ?c13 ?k13_ ?a14 ?i14 ?l14 ?c14 ?k14_ ?a15 ?l15 ?c15 ?k15_ ?a16 ?l16 ?c16 ?k16_ ?a17 ?l17 ?c17 ?k17_ ?a18 ?l18 ?c18 ?k18_ ?a19 ?l19 ?c19 ?k19_ ?a20 ?l20 ?c20 ?k20_ ?a21 ?l21 ?c21 ?k21_ ?a22 ?l22 ?c22 ?k22_ ?a23 ?l23 ?c23 ?k23_ ?a24 ?l24 ?c24 ?k24_ ?a25 ?l25 ?c25 ?k25_ ?a26 ?l26 ?c26 ?k26_ ?a27 ?l27 ?c27 ?k27_ ?a28 ?l28 ?c28 ?k28_ ?a29 ?l29 ?c29 ?k29_) ?la ?ll ?lc ?lk
    (case z_abs => k_is)
    (case z_all => k_is)
    (case z_bool => k_is)
    (case z_dict => k_is)
    (case z_int => k_is)
    (case z_isinstance => k_is)
    (case z_len => k_is)
    (case z_list => k_is)
    (case z_range => k_is)
    (case z_sorted => k_is)
    (case z_str => k_is)
    (case z_sum => k_is)
    (case z_tuple => k_is)
    (case z_zip => k_is)
    (case g_AHEAD => k_is)
    (case b1_ => k_is)
    (case b2_ => k_is)
    (case b5_ => k_is)
    (case b8_ => k_is)
    (case b11_ => k_is)
    (case g_RULES => k_is)
    (case g_SIDE => k_is)
    (case g_STEPS => k_is)
    (case aC => k_is)
    (case pg => k_is)
    (case hd => k_is)
    (case po => k_is)
    (case sa => k_is)
    (case mk => k_is)
    (case kc => k_is)
    (case f_cell => k_is)
    (case f_heading => k_is)
    (case f_high => k_is)
    (case f_paint => k_is)
    (case f_rule => k_is)
    (case f_wide => k_is)
    (case a0 => k_is)
    (case l0 => k_is)
    (case c0 => k_is)
    (case k0_ => k_is)
    (case a1 => k_is)
    (case l1 => k_is)
    (case c1 => k_is)
    (case k1_ => k_is)
    (case a2 => k_is)
    (case l2 => k_is)
    (case c2 => k_is)
    (case k2_ => k_is)
    (case a3 => k_is)
    (case l3 => k_is)
    (case c3 => k_is)
    (case k3_ => k_is)
    (case a4 => k_is)
    (case l4 => k_is)
    (case c4 => k_is)
    (case k4_ => k_is)
    (case a5 => k_is)
    (case l5 => k_is)
    (case c5 => k_is)
    (case k5_ => k_is)
    (case a6 => k_is)
    (case l6 => k_is)
    (case c6 => k_is)
    (case k6_ => k_is)
    (case a7 => k_is)
    (case l7 => k_is)
    (case c7 => k_is)
    (case k7_ => k_is)
    (case a8 => k_is)
    (case l8 => k_is)
    (case c8 => k_is)
    (case k8_ => k_is)
    (case a9 => k_is)
    (case i9 => k_is)
    (case l9 => k_is)
    (case c9 => k_is)
    (case k9_ => k_is)
    (case a10 => k_is)
    (case i10 => k_is)
    (case l10 => k_is)
    (case c10 => k_is)
    (case k10_ => k_is)
    (case a11 => k_is)
    (case i11 => k_is)
    (case l11 => k_is)
    (case c11 => k_is)
    (case k11_ => k_is)
    (case a12 => k_is)
    (case i12 => k_is)
    (case l12 => k_is)
    (case c12 => k_is)
    (case k12_ => k_is)
    (case a13 => k_is)
    (case i13 => k_is)
    (case l13 => k_is)
    (case c13 => k_is)
    (case k13_ => k_is)
    (case a14 => k_is)
    (case i14 => k_is)
    (case l14 => k_is)
    (case c14 => k_is)
    (case k14_ => k_is)
    (case a15 => k_is)
    (case l15 => k_is)
    (case c15 => k_is)
    (case k15_ => k_is)
    (case a16 => k_is)
    (case l16 => k_is)
    (case c16 => k_is)
    (case k16_ => k_is)
    (case a17 => k_is)
    (case l17 => k_is)
    (case c17 => k_is)
    (case k17_ => k_is)
    (case a18 => k_is)
    (case l18 => k_is)
    (case c18 => k_is)
    (case k18_ => k_is)
    (case a19 => k_is)
    (case l19 => k_is)
    (case c19 => k_is)
    (case k19_ => k_is)
    (case a20 => k_is)
    (case l20 => k_is)
    (case c20 => k_is)
    (case k20_ => k_is)
    (case a21 => k_is)
    (case l21 => k_is)
    (case c21 => k_is)
    (case k21_ => k_is)
    (case a22 => k_is)
    (case l22 => k_is)
    (case c22 => k_is)
    (case k22_ => k_is)
    (case a23 => k_is)
    (case l23 => k_is)
    (case c23 => k_is)
    (case k23_ => k_is)
    (case a24 => k_is)
    (case l24 => k_is)
    (case c24 => k_is)
    (case k24_ => k_is)
    (case a25 => k_is)
    (case l25 => k_is)
    (case c25 => k_is)
    (case k25_ => k_is)
    (case a26 => k_is)
    (case l26 => k_is)
    (case c26 => k_is)
    (case k26_ => k_is)
    (case a27 => k_is)
    (case l27 => k_is)
    (case c27 => k_is)
    (case k27_ => k_is)
    (case a28 => k_is)
    (case l28 => k_is)
    (case c28 => k_is)
    (case k28_ => k_is)
    (case a29 => k_is)
    (case l29 => k_is)
    (case c29 => k_is)
    (case k29_ => k_is)
    (case la => k_is)
    (case ll => k_is)
    (case lc => k_is)
    (case lk => k_is)
