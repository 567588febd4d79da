import PyProof.Rows.All
import Wide.All
import OpenK.AllK
import Wide.FinOn
import HandS.ForMost
import HandS.Wide
import HandS.Style
import HandS.Zip
import HandS.TupAny
import HandS.TupMul
import HandS.Conv
import HandS.IsInst
import HandS.Star
import HandS.Defaults
import HandS.Ends
import HandS.More
import HandS.Words
import HandS.WordsExc
import HandS.Head0
import HandS.Head1
import HandS.Head2
import HandS.HeadEnd
import HandS.HeadHook1
import HandS.HeadHook2
import KE.GoesEnum
import HandS.SortInts
import HandS.TryOnly
import PySem.Challenge.RW_caughtbefore_k64_whole_new_kinds_step_by
import KE.KStateDown
set_option Elab.async false
set_option linter.all false
set_option maxRecDepth 100000
/-! Core: data D, how a value stands for it, what is owned; expressions, statements, as functions of data. -/
namespace Cb
open PySem PySem.Spec PyProof.Rows L2

/-- data -/
inductive D where
  | non | bl (b : Bool) | int (i : Int) | str (x : Str)
  | tup (ds : List D) | lst (ds : List D) | dk (ks : List Key) (vs : List D) | dt (ks : List (List Key)) (vs : List D) | scr (ns : List Int)

mutual
/-- a value stands for data; F: what never changes again -/
def Rep (K : PySem.W.Frag) (F : Hp) : D → V → Prop
  | .non, v => v = .non
  | .bl b, v => v = .bl b
  | .int i, v => v = .int i
  | .str x, v => v = .str x
  | .tup ds, v => ∃ a xs, v = .ref a ∧ SqT K F a xs ∧ Reps K F ds xs
  | .lst ds, v => ∃ a xs, v = .ref a ∧ F a = some (.lst xs) ∧ Reps K F ds xs
  | .dk ks vs, v => ∃ a kvs, v = .ref a ∧ F a = some (.dK kvs) ∧ kvs.map (·.1) = ks ∧ Reps K F vs (kvs.map (·.2))
  | .dt ks vs, v => ∃ a kvs, v = .ref a ∧ F a = some (.dT kvs) ∧ kvs.map (·.1) = ks ∧ Reps K F vs (kvs.map (·.2))
  | .scr ns, v => ∃ a, v = .ref a ∧ SqL K F a (ns.map V.int)
def Reps (K : PySem.W.Frag) (F : Hp) : List D → List V → Prop
  | [], xs => xs = []
  | d :: ds, xs => ∃ x r, xs = x :: r ∧ Rep K F d x ∧ Reps K F ds r
end

theorem SqT_mono {K : PySem.W.Frag} {F F' : Hp} {a : Addr} {xs : List V} (s : Same F F') (h : SqT K F a xs) : SqT K F' a xs := by
  rcases h with (h | ⟨o, h⟩) | h
  · exact .inl (.inl (s _ _ h))
  · exact .inl (.inr ⟨o, s _ _ h⟩)
  · exact .inr h

section
variable {K : PySem.W.Frag} {F F' : Hp}
mutual
theorem Rep.mono (s : Same F F') : ∀ (d : D) (v : V), Rep K F d v → Rep K F' d v
  | .non, _, h => h
  | .bl _, _, h => h
  | .int _, _, h => h
  | .str _, _, h => h
  | .tup ds, v, h => by
    unfold Rep at h ⊢
    obtain ⟨a, xs, e, h1, h2⟩ := h
    exact ⟨a, xs, e, SqT_mono s h1, Reps.mono s ds xs h2⟩
  | .lst ds, v, h => by
    unfold Rep at h ⊢
    obtain ⟨a, xs, e, h1, h2⟩ := h
    exact ⟨a, xs, e, s _ _ h1, Reps.mono s ds xs h2⟩
  | .dk ks vs, v, h => by
    unfold Rep at h ⊢
    obtain ⟨a, kvs, e, h1, h2, h3⟩ := h
    exact ⟨a, kvs, e, s _ _ h1, h2, Reps.mono s vs _ h3⟩
  | .dt ks vs, v, h => by
    unfold Rep at h ⊢
    obtain ⟨a, kvs, e, h1, h2, h3⟩ := h
    exact ⟨a, kvs, e, s _ _ h1, h2, Reps.mono s vs _ h3⟩
  | .scr ns, v, h => by
    unfold Rep at h ⊢
    obtain ⟨a, e, h1⟩ := h
    exact ⟨a, e, s.seq h1⟩
theorem Reps.mono (s : Same F F') : ∀ (ds : List D) (xs : List V), Reps K F ds xs → Reps K F' ds xs
  | [], _, h => by unfold Reps at h ⊢; exact h
  | d :: ds, _, h => by
    unfold Reps at h ⊢
    obtain ⟨x, r, e, h1, h2⟩ := h
    exact ⟨x, r, e, Rep.mono s d x h1, Reps.mono s ds r h2⟩
end
theorem Reps.nil : Reps K F [] [] := by unfold Reps; rfl
theorem Reps.cons {d : D} {ds : List D} {x : V} {xs : List V} (h : Rep K F d x) (t : Reps K F ds xs) : Reps K F (d :: ds) (x :: xs) := by
  unfold Reps; exact ⟨x, xs, rfl, h, t⟩
theorem Reps.of_cons {d : D} {ds : List D} {xs : List V} (h : Reps K F (d :: ds) xs) : ∃ x r, xs = x :: r ∧ Rep K F d x ∧ Reps K F ds r := by
  unfold Reps at h; exact h
theorem Reps.of_nil {xs : List V} (h : Reps K F [] xs) : xs = [] := by unfold Reps at h; exact h
theorem Reps.length : ∀ {ds : List D} {xs : List V}, Reps K F ds xs → xs.length = ds.length
  | [], _, h => by rw [h.of_nil]; rfl
  | d :: ds, _, h => by
    obtain ⟨x, r, rfl, _, h2⟩ := h.of_cons
    simp [Reps.length h2]
theorem Reps.get : ∀ {ds : List D} {xs : List V} {i : Nat} {d : D}, Reps K F ds xs → ds[i]? = some d → ∃ x, xs[i]? = some x ∧ Rep K F d x
  | [], _, _, _, _, e => by simp at e
  | d :: ds, _, 0, _, h, e => by
    obtain ⟨x, r, rfl, h1, _⟩ := h.of_cons
    simp at e; subst e; exact ⟨x, rfl, h1⟩
  | d :: ds, _, i + 1, _, h, e => by
    obtain ⟨x, r, rfl, _, h2⟩ := h.of_cons
    obtain ⟨y, e1, e2⟩ := Reps.get (i := i) h2 (by simpa using e)
    exact ⟨y, by simpa using e1, e2⟩
theorem Reps.get' : ∀ {ds : List D} {xs : List V} {i : Nat} {x : V}, Reps K F ds xs → xs[i]? = some x → ∃ d, ds[i]? = some d ∧ Rep K F d x
  | [], _, _, _, h, e => by rw [h.of_nil] at e; simp at e
  | d :: ds, _, 0, _, h, e => by
    obtain ⟨x, r, rfl, h1, _⟩ := h.of_cons
    simp at e; subst e; exact ⟨d, rfl, h1⟩
  | d :: ds, _, i + 1, _, h, e => by
    obtain ⟨x, r, rfl, _, h2⟩ := h.of_cons
    obtain ⟨y, e1, e2⟩ := Reps.get' (i := i) h2 (by simpa using e)
    exact ⟨y, by simpa using e1, e2⟩
theorem Reps.append : ∀ {ds es : List D} {xs ys : List V}, Reps K F ds xs → Reps K F es ys → Reps K F (ds ++ es) (xs ++ ys)
  | [], _, _, _, h, g => by rw [h.of_nil]; exact g
  | d :: ds, _, _, _, h, g => by
    obtain ⟨x, r, rfl, h1, h2⟩ := h.of_cons
    exact .cons h1 (Reps.append h2 g)
theorem Reps.one {d : D} {x : V} (h : Rep K F d x) : Reps K F [d] [x] := .cons h .nil
theorem Reps.take : ∀ {ds : List D} {xs : List V} (n : Nat), Reps K F ds xs → Reps K F (ds.take n) (xs.take n)
  | _, _, 0, _ => by simp; exact .nil
  | [], _, n + 1, h => by rw [h.of_nil]; exact .nil
  | d :: ds, _, n + 1, h => by
    obtain ⟨x, r, rfl, h1, h2⟩ := h.of_cons
    exact .cons h1 (Reps.take n h2)
theorem Reps.drop : ∀ {ds : List D} {xs : List V} (n : Nat), Reps K F ds xs → Reps K F (ds.drop n) (xs.drop n)
  | _, _, 0, h => h
  | [], _, n + 1, h => by rw [h.of_nil]; exact .nil
  | d :: ds, _, n + 1, h => by
    obtain ⟨x, r, rfl, h1, h2⟩ := h.of_cons
    exact Reps.drop n h2
theorem Reps.set : ∀ {ds : List D} {xs : List V} (n : Nat) {d : D} {x : V}, Reps K F ds xs → Rep K F d x → Reps K F (ds.set n d) (xs.set n x)
  | [], _, n, _, _, h, _ => by rw [h.of_nil]; exact .nil
  | d :: ds, _, 0, _, _, h, g => by
    obtain ⟨x, r, rfl, h1, h2⟩ := h.of_cons
    exact .cons g h2
  | d :: ds, _, n + 1, _, _, h, g => by
    obtain ⟨x, r, rfl, h1, h2⟩ := h.of_cons
    exact .cons h1 (Reps.set n h2 g)
theorem Reps.eraseIdx : ∀ {ds : List D} {xs : List V} (n : Nat), Reps K F ds xs → Reps K F (ds.eraseIdx n) (xs.eraseIdx n)
  | [], _, n, h => by rw [h.of_nil]; exact .nil
  | d :: ds, _, 0, h => by
    obtain ⟨x, r, rfl, h1, h2⟩ := h.of_cons
    exact h2
  | d :: ds, _, n + 1, h => by
    obtain ⟨x, r, rfl, h1, h2⟩ := h.of_cons
    exact .cons h1 (Reps.eraseIdx n h2)
theorem Reps.reverse : ∀ {ds : List D} {xs : List V}, Reps K F ds xs → Reps K F ds.reverse xs.reverse
  | [], _, h => by rw [h.of_nil]; exact .nil
  | d :: ds, _, h => by
    obtain ⟨x, r, rfl, h1, h2⟩ := h.of_cons
    rw [List.reverse_cons, List.reverse_cons]
    exact (Reps.reverse h2).append (.one h1)
/-- intsOf alone -/
def intsOf : List D → Option (List Int)
  | [] => some []
  | .int i :: r => (intsOf r).map (i :: ·)
  | _ :: _ => none
theorem intsOf_map (ns : List Int) : intsOf (ns.map D.int) = some ns := by
  induction ns with
  | nil => rfl
  | cons n ns ih => simp [intsOf, ih]
theorem Reps.intsOf : ∀ {ds : List D} {xs : List V} {ns : List Int}, Reps K F ds xs → Cb.intsOf ds = some ns → xs = ns.map V.int
  | [], _, _, h, e => by
    rw [h.of_nil]
    simp [Cb.intsOf] at e; subst e; rfl
  | d :: ds, _, ns, h, e => by
    obtain ⟨x, r, rfl, h1, h2⟩ := h.of_cons
    cases d with
    | int i =>
      unfold Rep at h1
      simp only [Cb.intsOf, Option.map_eq_some_iff] at e
      obtain ⟨m, e1, rfl⟩ := e
      rw [h1, Reps.intsOf h2 e1]; rfl
    | _ => simp [Cb.intsOf] at e
def boolsOf : List D → Option (List Bool)
  | [] => some []
  | .bl i :: r => (boolsOf r).map (i :: ·)
  | _ :: _ => none
theorem boolsOf_map (ns : List Bool) : boolsOf (ns.map D.bl) = some ns := by
  induction ns with
  | nil => rfl
  | cons n ns ih => simp [boolsOf, ih]
theorem Reps.boolsOf : ∀ {ds : List D} {xs : List V} {ns : List Bool}, Reps K F ds xs → Cb.boolsOf ds = some ns → xs = ns.map V.bl
  | [], _, _, h, e => by
    rw [h.of_nil]
    simp [Cb.boolsOf] at e; subst e; rfl
  | d :: ds, _, ns, h, e => by
    obtain ⟨x, r, rfl, h1, h2⟩ := h.of_cons
    cases d with
    | bl i =>
      unfold Rep at h1
      simp only [Cb.boolsOf, Option.map_eq_some_iff] at e
      obtain ⟨m, e1, rfl⟩ := e
      rw [h1, Reps.boolsOf h2 e1]; rfl
    | _ => simp [Cb.boolsOf] at e
end

/-- in a slot: a value that never changes, an object that this def made and nobody else knows, one that a caller lent -/
inductive DV where
  | val (d : D) | own (d : D) | bor (d : D)
def DV.owned : DV → Bool
  | .val _ => false
  | _ => true
abbrev En := List (Option DV)

def OwnRep (K : PySem.W.Frag) (H F : Hp) (a : Addr) : D → Prop
  | .lst ds => ∃ xs, H a = some (.lst xs) ∧ Reps K F ds xs
  | .dk ks vs => ∃ kvs, H a = some (.dK kvs) ∧ kvs.map (·.1) = ks ∧ Reps K F vs (kvs.map (·.2))
  | .dt ks vs => ∃ kvs, H a = some (.dT kvs) ∧ kvs.map (·.1) = ks ∧ Reps K F vs (kvs.map (·.2))
  | _ => False
theorem OwnRep.there {K : PySem.W.Frag} {H F : Hp} {a : Addr} {d : D} (h : OwnRep K H F a d) : ∃ o, H a = some o := by
  cases d with
  | lst ds => obtain ⟨_, e, _⟩ := h; exact ⟨_, e⟩
  | dk ks vs => obtain ⟨_, e, _⟩ := h; exact ⟨_, e⟩
  | dt ks vs => obtain ⟨_, e, _⟩ := h; exact ⟨_, e⟩
  | _ => exact h.elim
theorem OwnRep.mono {K : PySem.W.Frag} {H H' F F' : Hp} {a : Addr} {d : D} (h : OwnRep K H F a d) (e : H' a = H a) (s : Same F F') : OwnRep K H' F' a d := by
  cases d with
  | lst ds => obtain ⟨xs, h1, h2⟩ := h; exact ⟨xs, e.trans h1, Reps.mono s _ _ h2⟩
  | dk ks vs => obtain ⟨xs, h1, h2, h3⟩ := h; exact ⟨xs, e.trans h1, h2, Reps.mono s _ _ h3⟩
  | dt ks vs => obtain ⟨xs, h1, h2, h3⟩ := h; exact ⟨xs, e.trans h1, h2, Reps.mono s _ _ h3⟩
  | _ => exact h.elim
/-- the object as it would stand, frozen -/
theorem OwnRep.frozen {K : PySem.W.Frag} {H F : Hp} {a : Addr} {d : D} (h : OwnRep K H F a d) (hn : F a = none) : ∃ o, H a = some o ∧ Same F (upd F a o) ∧ Rep K (upd F a o) d (.ref a) := by
  obtain ⟨o, e⟩ := h.there
  have s : Same F (upd F a o) := fun b u q => by rw [upd_ne (ne_of_none q hn)]; exact q
  refine ⟨o, e, s, ?_⟩
  cases d with
  | lst ds => obtain ⟨xs, h1, h2⟩ := h; rw [e] at h1; cases h1; unfold Rep; exact ⟨a, xs, rfl, upd_same, Reps.mono s _ _ h2⟩
  | dk ks vs => obtain ⟨xs, h1, h2, h3⟩ := h; rw [e] at h1; cases h1; unfold Rep; exact ⟨a, xs, rfl, upd_same, h2, Reps.mono s _ _ h3⟩
  | dt ks vs => obtain ⟨xs, h1, h2, h3⟩ := h; rw [e] at h1; cases h1; unfold Rep; exact ⟨a, xs, rfl, upd_same, h2, Reps.mono s _ _ h3⟩
  | _ => exact h.elim

def SlotOk (K : PySem.W.Frag) (Z : Hp) (B : Nat → Addr) (H F : Hp) (i : Nat) (v : V) : DV → Prop
  | .val d => Rep K F d v
  | .own d => ∃ a, v = .ref a ∧ F a = none ∧ Z a = none ∧ OwnRep K H F a d
  | .bor d => v = .ref (B i) ∧ F (B i) = none ∧ Z (B i) = none ∧ OwnRep K H F (B i) d
/-- F0: what was frozen ahead; Z: what must stay as it is; B: the lent objects' places -/
structure Rel (K : PySem.W.Frag) (F0 Z : Hp) (B : Nat → Addr) (σ : L2.St) (H F : Hp) (ρ : En) : Prop where
  len : ρ.length = σ.length
  sub : Same F H
  zsub : Same Z H
  base : ∀ (a : Addr) (o : HO), F a = some o → F0 a = some o ∨ Z a = none
  slot : ∀ (i : Nat) (dv : DV), ρ[i]? = some (some dv) → ∃ v, σ[i]? = some (some v) ∧ SlotOk K Z B H F i v dv
  apart : ∀ (i j : Nat) (di dj : DV) (a : Addr), i ≠ j → ρ[i]? = some (some di) → ρ[j]? = some (some dj) → di.owned = true → dj.owned = true → σ[i]? = some (some (V.ref a)) → σ[j]? = some (some (V.ref a)) → False
/-- no owned slot lies at a -/
def Off (σ : L2.St) (ρ : En) (a : Addr) : Prop := ∀ (i : Nat) (di : DV), ρ[i]? = some (some di) → di.owned = true → σ[i]? ≠ some (some (V.ref a))
/-- an expression's value -/
def ResOk (K : PySem.W.Frag) (Z : Hp) (σ : L2.St) (ρ : En) (H F : Hp) (v : V) : DV → Prop
  | .val d => Rep K F d v
  | .own d => ∃ a, v = .ref a ∧ F a = none ∧ Z a = none ∧ OwnRep K H F a d ∧ Off σ ρ a
  | .bor _ => False

section
variable {K : PySem.W.Frag} {F0 Z : Hp} {B : Nat → Addr} {σ : L2.St} {H F H' F' : Hp} {ρ : En}
theorem SlotOk.addr {i : Nat} {v : V} {dv : DV} (h : SlotOk K Z B H F i v dv) (o : dv.owned = true) : ∃ a, v = .ref a ∧ F a = none ∧ Z a = none ∧ ∃ u, H a = some u := by
  cases dv with
  | val d => cases o
  | own d => obtain ⟨a, e, h1, h2, h3⟩ := h; exact ⟨a, e, h1, h2, h3.there⟩
  | bor d => obtain ⟨e, h1, h2, h3⟩ := h; exact ⟨_, e, h1, h2, h3.there⟩
theorem SlotOk.move {i : Nat} {v : V} {dv : DV} (h : SlotOk K Z B H F i v dv) (s : Same F F') (g : ∀ a, dv.owned = true → v = .ref a → H' a = H a ∧ F' a = none) : SlotOk K Z B H' F' i v dv := by
  cases dv with
  | val d => exact Rep.mono s d v h
  | own d =>
    obtain ⟨a, e, h1, h2, h3⟩ := h
    obtain ⟨g1, g2⟩ := g a rfl e
    exact ⟨a, e, g2, h2, h3.mono g1 s⟩
  | bor d =>
    obtain ⟨e, h1, h2, h3⟩ := h
    obtain ⟨g1, g2⟩ := g _ rfl e
    exact ⟨e, g2, h2, h3.mono g1 s⟩
theorem Rel.off_new (R : Rel K F0 Z B σ H F ρ) {a : Addr} (hn : H a = none) : Off σ ρ a := fun i di e o q => by
  obtain ⟨v, e1, s⟩ := R.slot i di e
  obtain ⟨b, rfl, _, _, u, hb⟩ := s.addr o
  rw [e1] at q
  have : b = a := by injection Option.some.inj (Option.some.inj q)
  rw [this, hn] at hb
  cases hb
theorem Rel.fnone (R : Rel K F0 Z B σ H F ρ) {a : Addr} (hn : H a = none) : F a = none := R.sub.free hn
theorem Rel.znone (R : Rel K F0 Z B σ H F ρ) {a : Addr} (hn : H a = none) : Z a = none := R.zsub.free hn
/-- a new object that is not frozen -/
theorem Rel.alloc (R : Rel K F0 Z B σ H F ρ) {a : Addr} {o : HO} (hn : H a = none) : Rel K F0 Z B σ (upd H a o) F ρ where
  len := R.len
  sub := fun b u e => by rw [upd_ne (ne_of_none (R.sub _ _ e) hn)]; exact R.sub _ _ e
  zsub := fun b u e => by rw [upd_ne (ne_of_none (R.zsub _ _ e) hn)]; exact R.zsub _ _ e
  base := R.base
  slot := fun i dv e => by
    obtain ⟨v, e1, s⟩ := R.slot i dv e
    refine ⟨v, e1, s.move (Same.refl _) fun b ho eb => ?_⟩
    obtain ⟨c, ec, hF, _, u, hu⟩ := s.addr ho
    rw [eb] at ec; cases ec
    exact ⟨upd_ne (ne_of_none hu hn), hF⟩
  apart := R.apart
/-- an object at which no slot lies is frozen -/
theorem Rel.freeze (R : Rel K F0 Z B σ H F ρ) {a : Addr} {o : HO} (hF : F a = none) (hZ : Z a = none) (hH : H a = some o) (off : Off σ ρ a) : Rel K F0 Z B σ H (upd F a o) ρ where
  len := R.len
  sub := fun b u e => by
    by_cases h : b = a
    · subst h; rw [upd_same] at e; rw [hH]; exact e
    · rw [upd_ne h] at e; exact R.sub _ _ e
  zsub := R.zsub
  base := fun b u e => by
    by_cases h : b = a
    · subst h; exact .inr hZ
    · rw [upd_ne h] at e; exact R.base _ _ e
  slot := fun i dv e => by
    obtain ⟨v, e1, s⟩ := R.slot i dv e
    refine ⟨v, e1, s.move (fun b u q => by rw [upd_ne (ne_of_none q hF)]; exact q) fun b ho eb => ⟨rfl, ?_⟩⟩
    obtain ⟨c, ec, hFc, _, u, hu⟩ := s.addr ho
    rw [eb] at ec; cases ec
    have : b ≠ a := fun z => off i dv e ho (by rw [e1, eb, z])
    rw [upd_ne this]; exact hFc
  apart := R.apart
/-- a new frozen object -/
theorem Rel.allocF (R : Rel K F0 Z B σ H F ρ) {a : Addr} {o : HO} (hn : H a = none) : Rel K F0 Z B σ (upd H a o) (upd F a o) ρ ∧ Same F (upd F a o) :=
  ⟨(R.alloc hn).freeze (R.fnone hn) (R.znone hn) upd_same (R.off_new hn), fun b u q => by rw [upd_ne (ne_of_none q (R.fnone hn))]; exact q⟩
/-- a slot is forgotten -/
theorem get_set_none {ρ : En} {i j : Nat} {dv : DV} (e : (ρ.set i none)[j]? = some (some dv)) : j ≠ i ∧ ρ[j]? = some (some dv) := by
  by_cases h : i = j
  · subst h
    by_cases hl : i < ρ.length
    · rw [List.getElem?_set_self hl] at e; cases e
    · rw [List.getElem?_eq_none (by simpa using hl)] at e; cases e
  · rw [List.getElem?_set_ne h] at e; exact ⟨Ne.symm h, e⟩
theorem Rel.drop (R : Rel K F0 Z B σ H F ρ) (i : Nat) : Rel K F0 Z B σ H F (ρ.set i none) where
  len := by rw [List.length_set]; exact R.len
  sub := R.sub
  zsub := R.zsub
  base := R.base
  slot := fun j dv e => R.slot j dv (get_set_none e).2
  apart := fun j l dj dl a n e1 e2 => R.apart j l dj dl a n (get_set_none e1).2 (get_set_none e2).2
/-- a value, or a new object, comes to a slot -/
theorem Rel.setSlot (R : Rel K F0 Z B σ H F ρ) {i : Nat} {v : V} {dv : DV} (h : ResOk K Z σ ρ H F v dv) : Rel K F0 Z B (σ.set i (some v)) H F (ρ.set i (some dv)) where
  len := by rw [List.length_set, List.length_set]; exact R.len
  sub := R.sub
  zsub := R.zsub
  base := R.base
  slot := fun j dj e => by
    by_cases hij : i = j
    · subst hij
      by_cases hl : i < ρ.length
      · rw [List.getElem?_set_self hl] at e
        have : dv = dj := Option.some.inj (Option.some.inj e)
        subst this
        refine ⟨v, by rw [List.getElem?_set_self (by rw [← R.len]; exact hl)], ?_⟩
        cases dv with
        | val d => exact h
        | own d => obtain ⟨a, e, h1, h2, h3, _⟩ := h; exact ⟨a, e, h1, h2, h3⟩
        | bor d => exact h.elim
      · rw [List.getElem?_eq_none (by simpa using hl)] at e; cases e
    · rw [List.getElem?_set_ne hij] at e
      rw [List.getElem?_set_ne hij]
      exact R.slot j dj e
  apart := fun j l dj dl a n e1 e2 o1 o2 s1 s2 => by
    have key : ∀ {p q : Nat} {dp dq : DV}, i = p → i ≠ q → (ρ.set i (some dv))[p]? = some (some dp) → (ρ.set i (some dv))[q]? = some (some dq) → dp.owned = true → dq.owned = true →
        (σ.set i (some v))[p]? = some (some (.ref a)) → (σ.set i (some v))[q]? = some (some (.ref a)) → False := by
      intro p q dp dq hp hq f1 f2 p1 p2 t1 t2
      subst hp
      have hl : i < ρ.length := by
        by_cases hl : i < ρ.length
        · exact hl
        · rw [List.getElem?_eq_none (by simpa using hl)] at f1; cases f1
      rw [List.getElem?_set_self hl] at f1
      have : dv = dp := Option.some.inj (Option.some.inj f1)
      subst this
      rw [List.getElem?_set_self (by rw [← R.len]; exact hl)] at t1
      have ev : v = .ref a := Option.some.inj (Option.some.inj t1)
      rw [List.getElem?_set_ne hq] at f2 t2
      cases dv with
      | val d => cases p1
      | bor d => exact h.elim
      | own d =>
        obtain ⟨b, eb, _, _, _, off⟩ := h
        rw [ev] at eb; cases eb
        exact off q dq f2 p2 t2
    by_cases hj : i = j
    · exact key hj (fun z => n (hj.symm.trans z)) e1 e2 o1 o2 s1 s2
    · by_cases hl : i = l
      · exact key hl (fun z => hj z) e2 e1 o2 o1 s2 s1
      · rw [List.getElem?_set_ne hj] at e1 s1
        rw [List.getElem?_set_ne hl] at e2 s2
        exact R.apart j l dj dl a n e1 e2 o1 o2 s1 s2
/-- an owned slot's object is written -/
def DV.to : DV → D → DV
  | .val _, d => .val d
  | .own _, d => .own d
  | .bor _, d => .bor d
def DV.get : DV → D
  | .val d => d
  | .own d => d
  | .bor d => d
theorem Rel.write (R : Rel K F0 Z B σ H F ρ) {i : Nat} {dv : DV} {a : Addr} {o : HO} {d' : D} (e : ρ[i]? = some (some dv)) (ho : dv.owned = true) (es : σ[i]? = some (some (.ref a)))
    (new : OwnRep K (upd H a o) F a d') : Rel K F0 Z B σ (upd H a o) F (ρ.set i (some (dv.to d'))) := by
  obtain ⟨v, e1, s⟩ := R.slot i dv e
  obtain ⟨b, eb, hF, hZ, u, hu⟩ := s.addr ho
  rw [e1] at es
  have ev : v = .ref a := Option.some.inj (Option.some.inj es)
  rw [ev] at eb; cases eb
  have hl : i < ρ.length := (List.getElem?_eq_some_iff.mp e).1
  have same : ∀ j dj, i ≠ j → ρ[j]? = some (some dj) → dj.owned = true → ∀ c, σ[j]? = some (some (.ref c)) → c ≠ a := fun j dj n ej oj c ec z => by
    subst z
    exact R.apart i j dv dj c n e ej ho oj (by rw [e1, ev]) ec
  refine ⟨by rw [List.length_set]; exact R.len, fun b u q => ?_, fun b u q => ?_, R.base, fun j dj ej => ?_, fun j l dj dl c n ej el oj ol sj sl => ?_⟩
  · rw [upd_ne (ne_of_none q hF)]; exact R.sub _ _ q
  · rw [upd_ne (ne_of_none q hZ)]; exact R.zsub _ _ q
  · by_cases hij : i = j
    · subst hij
      rw [List.getElem?_set_self hl] at ej
      have : dv.to d' = dj := Option.some.inj (Option.some.inj ej)
      subst this
      refine ⟨v, e1, ?_⟩
      cases dv with
      | val d => cases ho
      | own d => exact ⟨a, ev, hF, hZ, new⟩
      | bor d =>
        obtain ⟨e2, _⟩ := s
        rw [ev] at e2
        have : a = B i := by injection e2
        subst this
        exact ⟨ev, hF, hZ, new⟩
    · rw [List.getElem?_set_ne hij] at ej
      obtain ⟨w, e2, s2⟩ := R.slot j dj ej
      refine ⟨w, e2, s2.move (Same.refl _) fun c oc ec => ?_⟩
      obtain ⟨c', ec', hFc, _, _, _⟩ := s2.addr oc
      rw [ec] at ec'; cases ec'
      exact ⟨upd_ne (same j dj hij ej oc c (by rw [e2, ec])), hFc⟩
  · have low : ∀ {p : Nat} {dp : DV}, (ρ.set i (some (dv.to d')))[p]? = some (some dp) → dp.owned = true → ∃ dq, ρ[p]? = some (some dq) ∧ dq.owned = true := fun {p dp} q oq => by
      by_cases hp : i = p
      · subst hp; exact ⟨dv, e, ho⟩
      · rw [List.getElem?_set_ne hp] at q; exact ⟨dp, q, oq⟩
    obtain ⟨dj', q1, q2⟩ := low ej oj
    obtain ⟨dl', q3, q4⟩ := low el ol
    exact R.apart j l dj' dl' c n q1 q3 q2 q4 sj sl
end

/-! ### expressions as functions -/
abbrev ME := En → Option (DV × En)
abbrev MV := En → Option (D × En)
abbrev MT := En → Option (Bool × En)
def tOf (K : PySem.W.Frag) (m : ME) : TE := fun σ H Q => ∃ F0 Z B F ρ dv ρ', Rel K F0 Z B σ H F ρ ∧ m ρ = some (dv, ρ') ∧
  ∀ v H' F', Rel K F0 Z B σ H' F' ρ' → Same F F' → ResOk K Z σ ρ' H' F' v dv → Q v H'
def tOfV (K : PySem.W.Frag) (m : MV) : TE := fun σ H Q => ∃ F0 Z B F ρ d ρ', Rel K F0 Z B σ H F ρ ∧ m ρ = some (d, ρ') ∧
  ∀ v H' F', Rel K F0 Z B σ H' F' ρ' → Same F F' → Rep K F' d v → Q v H'
def tOfT (K : PySem.W.Frag) (m : MT) : TT := fun σ H Q => ∃ F0 Z B F ρ b ρ', Rel K F0 Z B σ H F ρ ∧ m ρ = some (b, ρ') ∧
  ∀ H' F', Rel K F0 Z B σ H' F' ρ' → Same F F' → Q b H'
theorem PE_imp {X : Cx} {e : Expr} {t t' : TE} (h : PE X e t) (i : ∀ σ H Q, t' σ H Q → t σ H Q) : PE X e t' := ⟨fun pins s σ H Q I q => h.run pins s σ H Q I (i _ _ _ q)⟩
theorem PT_imp {X : Cx} {e : Expr} {t t' : TT} (h : PT X e t) (i : ∀ σ H Q, t' σ H Q → t σ H Q) : PT X e t' := ⟨fun pins s σ H Q I q => h.run pins s σ H Q I (i _ _ _ q)⟩
abbrev Em (X : Cx) (e : Expr) (m : ME) : Prop := PE X e (tOf X.K m)
abbrev Ev (X : Cx) (e : Expr) (m : MV) : Prop := PE X e (tOfV X.K m)
abbrev Et (X : Cx) (e : Expr) (m : MT) : Prop := PT X e (tOfT X.K m)
/-- for use: run a reading -/
theorem tOf_of {K : PySem.W.Frag} {m : ME} {F0 Z : Hp} {B : Nat → Addr} {σ : L2.St} {H F : Hp} {ρ ρ' : En} {dv : DV} {Q : VK} (R : Rel K F0 Z B σ H F ρ) (e : m ρ = some (dv, ρ'))
    (h : ∀ v H' F', Rel K F0 Z B σ H' F' ρ' → Same F F' → ResOk K Z σ ρ' H' F' v dv → Q v H') : tOf K m σ H Q := ⟨F0, Z, B, F, ρ, dv, ρ', R, e, h⟩
theorem tOfV_of {K : PySem.W.Frag} {m : MV} {F0 Z : Hp} {B : Nat → Addr} {σ : L2.St} {H F : Hp} {ρ ρ' : En} {d : D} {Q : VK} (R : Rel K F0 Z B σ H F ρ) (e : m ρ = some (d, ρ'))
    (h : ∀ v H' F', Rel K F0 Z B σ H' F' ρ' → Same F F' → Rep K F' d v → Q v H') : tOfV K m σ H Q := ⟨F0, Z, B, F, ρ, d, ρ', R, e, h⟩
theorem tOfT_of {K : PySem.W.Frag} {m : MT} {F0 Z : Hp} {B : Nat → Addr} {σ : L2.St} {H F : Hp} {ρ ρ' : En} {b : Bool} {Q : Bool → Hp → Prop} (R : Rel K F0 Z B σ H F ρ) (e : m ρ = some (b, ρ'))
    (h : ∀ H' F', Rel K F0 Z B σ H' F' ρ' → Same F F' → Q b H') : tOfT K m σ H Q := ⟨F0, Z, B, F, ρ, b, ρ', R, e, h⟩

/-- an expression's value, frozen -/
def fz (m : ME) : MV := fun ρ => match m ρ with
  | some (.val d, ρ') => some (d, ρ')
  | some (.own d, ρ') => some (d, ρ')
  | _ => none
def vl (m : MV) : ME := fun ρ => match m ρ with
  | some (d, ρ') => some (.val d, ρ')
  | none => none
theorem ResOk.freeze {K : PySem.W.Frag} {F0 Z : Hp} {B : Nat → Addr} {σ : L2.St} {H F : Hp} {ρ : En} {v : V} {d : D} (R : Rel K F0 Z B σ H F ρ) (h : ResOk K Z σ ρ H F v (.own d)) : ∃ F', Rel K F0 Z B σ H F' ρ ∧ Same F F' ∧ Rep K F' d v := by
  obtain ⟨a, rfl, h1, h2, h3, h4⟩ := h
  obtain ⟨o, e, s, r⟩ := h3.frozen h1
  exact ⟨_, R.freeze h1 h2 e h4, s, r⟩
theorem Em.fz {X : Cx} {e : Expr} {m : ME} (h : Em X e m) : Ev X e (Cb.fz m) := PE_imp h fun σ H Q ⟨F0, Z, B, F, ρ, d, ρ', R, e, k⟩ => by
  unfold Cb.fz at e
  split at e
  · rename_i d0 ρ0 e1
    cases e
    exact tOf_of R e1 fun v H' F' R' s r => k v H' F' R' s r
  · rename_i d0 ρ0 e1
    cases e
    refine tOf_of R e1 fun v H' F' R' s r => ?_
    obtain ⟨F2, R2, s2, r2⟩ := r.freeze R'
    exact k v H' F2 R2 (s.trans s2) r2
  · cases e
theorem Ev.vl {X : Cx} {e : Expr} {m : MV} (h : Ev X e m) : Em X e (Cb.vl m) := PE_imp h fun σ H Q ⟨F0, Z, B, F, ρ, d, ρ', R, e, k⟩ => by
  unfold Cb.vl at e
  split at e
  · rename_i d0 ρ0 e1
    cases e
    exact tOfV_of R e1 fun v H' F' R' s r => k v H' F' R' s r
  · cases e
end Cb

set_option Elab.async false
set_option linter.all false
set_option maxRecDepth 100000
/-! Rules: names, constants, operators, comparisons, tests, displays, subscripts, slices. -/
namespace Cb
open PySem PySem.Spec PyProof.Rows L2

section
variable {X : Cx}
/-! ### names, constants -/
def mC (d : D) : ME := fun ρ => some (.val d, ρ)
/-- a name's value: what is owned is frozen -/
def mVar (i : Nat) : ME := fun ρ => match ρ[i]? with
  | some (some (.val d)) => some (.val d, ρ)
  | some (some (.own d)) => some (.val d, ρ.set i (some (.val d)))
  | _ => none
/-- .. it is handed on, the name forgotten -/
def mMove (i : Nat) : ME := fun ρ => match ρ[i]? with
  | some (some (.val d)) => some (.val d, ρ)
  | some (some (.own d)) => some (.own d, ρ.set i none)
  | _ => none
theorem set_len {ρ : En} {i : Nat} {o dv : DV} (e : ρ[i]? = some (some o)) : i < ρ.length := (List.getElem?_eq_some_iff.mp e).1
theorem Rel.fzSlot {K : PySem.W.Frag} {F0 Z : Hp} {B : Nat → Addr} {σ : L2.St} {H F : Hp} {ρ : En} {i : Nat} {d : D} {v : V} (R : Rel K F0 Z B σ H F ρ) (e : ρ[i]? = some (some (.own d))) (ev : σ[i]? = some (some v)) :
    ∃ F', Rel K F0 Z B σ H F' (ρ.set i (some (.val d))) ∧ Same F F' ∧ Rep K F' d v := by
  obtain ⟨w, e1, a, rfl, h1, h2, h3⟩ := R.slot i _ e
  rw [ev] at e1
  have e2 : v = .ref a := Option.some.inj (Option.some.inj e1)
  subst e2
  obtain ⟨o, eo, s, r⟩ := h3.frozen h1
  have off : Off σ (ρ.set i none) a := fun j dj ej oj es => by
    obtain ⟨n, ej⟩ := get_set_none ej
    exact R.apart j i dj (.own d) a n ej e oj rfl es ev
  have R2 := ((R.drop i).freeze h1 h2 eo off).setSlot (i := i) (v := .ref a) (dv := .val d) r
  have hl : i < σ.length := (List.getElem?_eq_some_iff.mp ev).1
  have es : σ.set i (some (.ref a)) = σ := by
    refine List.ext_getElem? fun j => ?_
    by_cases h : i = j
    · subst h; rw [List.getElem?_set_self hl, ev]
    · rw [List.getElem?_set_ne h]
  rw [es, List.set_set] at R2
  exact ⟨_, R2, s, r⟩
theorem em_c {e : Expr} {d : D} {v : V} (h : PE X e (tC v)) (r : ∀ F, Rep X.K F d v) : Em X e (mC d) := PE_imp h fun σ H Q ⟨F0, Z, B, F, ρ, dv, ρ', R, e, k⟩ => by
  cases e
  exact k v H F R (Same.refl _) (r F)
theorem em_int {i j pos} : Em X (.Constant (.int i) j pos) (mC (.int i)) := em_c pe_int fun F => by unfold Rep; rfl
theorem em_bl {i j pos} : Em X (.Constant (.bool i) j pos) (mC (.bl i)) := em_c pe_bl fun F => by unfold Rep; rfl
theorem em_non {j pos} : Em X (.Constant .none j pos) (mC .non) := em_c pe_non fun F => by unfold Rep; rfl
theorem em_str {x j pos} : Em X (.Constant (.str x) j pos) (mC (.str x)) := em_c pe_str fun F => by unfold Rep; rfl
/-- a module's constant -/
structure Glc (K : PySem.W.Frag) (mg : Str → Option Value) (x : Str) (d : D) : Prop where
  ex : ∃ v u, mg x = some u ∧ RelV v u ∧ ∀ F, Rep K F d v
theorem em_glob {x : Str} {d : D} {pos : Pos} (hg : Gl X x) (h : Glc X.K X.mg x d) (hd : (x == ("__debug__" : Str)) = false := by decide) : Em X (.Name x pos) (mC d) := by
  obtain ⟨v, u, hm, r, hr⟩ := h.ex
  exact em_c (pe_glob hg hm r hd) hr
theorem em_var {i : Nat} {x : Str} {pos : Pos} (h : PE X (.Name x pos) (tVar i)) : Em X (.Name x pos) (mVar i) := PE_imp h fun σ H Q ⟨F0, Z, B, F, ρ, dv, ρ', R, e, k⟩ => by
  unfold mVar at e
  split at e
  · rename_i d e1
    cases e
    obtain ⟨v, e2, s⟩ := R.slot i _ e1
    exact ⟨v, e2, k v H F R (Same.refl _) s⟩
  · rename_i d e1
    cases e
    obtain ⟨v, e2, _⟩ := R.slot i _ e1
    obtain ⟨F', R', s, r⟩ := R.fzSlot e1 e2
    exact ⟨v, e2, k v H F' R' s r⟩
  · cases e
theorem em_move {i : Nat} {x : Str} {pos : Pos} (h : PE X (.Name x pos) (tVar i)) : Em X (.Name x pos) (mMove i) := PE_imp h fun σ H Q ⟨F0, Z, B, F, ρ, dv, ρ', R, e, k⟩ => by
  unfold mMove at e
  split at e
  · rename_i d e1
    cases e
    obtain ⟨v, e2, s⟩ := R.slot i _ e1
    exact ⟨v, e2, k v H F R (Same.refl _) s⟩
  · rename_i d e1
    cases e
    obtain ⟨v, e2, a, rfl, h1, h2, h3⟩ := R.slot i _ e1
    refine ⟨_, e2, k _ H F (R.drop i) (Same.refl _) ⟨a, rfl, h1, h2, h3, fun j dj ej oj es => ?_⟩⟩
    obtain ⟨n, ej⟩ := get_set_none ej
    exact R.apart j i dj (.own d) a n ej e1 oj rfl es e2
  · cases e

/-! ### two-place operations -/
def OpS (K : PySem.W.Frag) (r : R2) (f : D → D → Option DV) : Prop := ∀ (F0 Z : Hp) (B : Nat → Addr) (σ : L2.St) (H F : Hp) (ρ : En) (x y : D) (v u : V) (dv : DV) (Q : VK), Rel K F0 Z B σ H F ρ → Rep K F x v → Rep K F y u →
  f x y = some dv → (∀ w H' F', Rel K F0 Z B σ H' F' ρ → Same F F' → ResOk K Z σ ρ H' F' w dv → Q w H') → r v u H Q
def m2 (f : D → D → Option DV) (ma mb : ME) : ME := fun ρ => (fz ma ρ).bind fun p => (fz mb p.2).bind fun q => (f p.1 q.1).map fun dv => (dv, q.2)
theorem run2 {a b : Expr} {ma mb : ME} {K : PySem.W.Frag} {r : R2} {f : D → D → Option DV} (os : OpS K r f) {σ : L2.St} {H : Hp} {Q : VK} (h : tOf K (m2 f ma mb) σ H Q) : tOp r (tOfV K (fz ma)) (tOfV K (fz mb)) σ H Q := by
  obtain ⟨F0, Z, B, F, ρ, dv, ρ', R, e, k⟩ := h
  unfold m2 at e
  obtain ⟨⟨x, ρ1⟩, e1, e⟩ := Option.bind_eq_some_iff.mp e
  obtain ⟨⟨y, ρ2⟩, e2, e⟩ := Option.bind_eq_some_iff.mp e
  obtain ⟨w, e3, e⟩ := Option.map_eq_some_iff.mp e
  cases e
  refine tOfV_of R e1 fun v H1 F1 R1 s1 r1 => tOfV_of R1 e2 fun u H2 F2 R2 s2 r2 => ?_
  exact os F0 Z B σ H2 F2 ρ2 x y v u _ Q R2 (Rep.mono s2 x v r1) r2 e3 fun w H' F' R' s' rr => k w H' F' R' (s1.trans (s2.trans s')) rr
theorem em_op {a b : Expr} {op : Operator} {pos : Pos} {ma mb : ME} {r : R2} {f : D → D → Option DV} (ho : OpR X (binaryOp op) r) (os : OpS X.K r f) (ha : Em X a ma) (hb : Em X b mb) : Em X (.BinOp a op b pos) (m2 f ma mb) :=
  PE_imp (pe_op ho ha.fz hb.fz) fun σ H Q h => run2 (a := a) (b := b) os h
theorem em_cmp {a b : Expr} {op : CmpOp} {pos : Pos} {ma mb : ME} {r : R2} {f : D → D → Option DV} (ho : OpR X (compareOp op) r) (os : OpS X.K r f) (ha : Em X a ma) (hb : Em X b mb) (hm : behindInMarks op b = false) : Em X (.Compare a [op] [b] pos) (m2 f ma mb) :=
  PE_imp (pe_cmpR ho ha.fz hb.fz hm) fun σ H Q h => run2 (a := a) (b := b) os h
/-- a value as a test: a bool -/
def tst (m : ME) : MT := fun ρ => match m ρ with
  | some (.val (.bl b), ρ') => some (b, ρ')
  | _ => none
theorem et_cmp {a b : Expr} {op : CmpOp} {pos : Pos} {ma mb : ME} {r : R2} {f : D → D → Option DV} (ho : OpR X (compareOp op) r) (os : OpS X.K r f) (ha : Em X a ma) (hb : Em X b mb) (hm : behindInMarks op b = false) : Et X (.Compare a [op] [b] pos) (tst (m2 f ma mb)) :=
  PT_imp (pt_cmpR ho ha.fz hb.fz hm) fun σ H Q ⟨F0, Z, B, F, ρ, t, ρ', R, e, k⟩ => by
    unfold tst at e
    split at e
    · rename_i t0 ρ0 e1
      cases e
      refine run2 (a := a) (b := b) os (tOf_of R e1 fun v H' F' R' s rr => ⟨t, ?_, k H' F' R' s⟩)
      have : Rep X.K F' (.bl t) v := rr
      unfold Rep at this; exact this
    · cases e
theorem et_val {e : Expr} {m : ME} (h : Em X e m) (he : ∀ whole, isTrue e X.env whole = (do let v ← whole; standAt e.pos; holding [v] (truthy v)) := by intro _; rfl) : Et X e (tst m) :=
  PT_imp (pt_val h he) fun σ H Q ⟨F0, Z, B, F, ρ, t, ρ', R, e, k⟩ => by
    unfold tst at e
    split at e
    · rename_i t0 ρ0 e1
      cases e
      refine tOf_of R e1 fun v H' F' R' s rr => ⟨t, ?_, k H' F' R' s⟩
      have : Rep X.K F' (.bl t) v := rr
      unfold Rep at this; exact this
    · cases e
/-- scalars out, the heap as it is -/
theorem OpS.pure {K : PySem.W.Frag} {r : R2} {f : D → D → Option DV} (h : ∀ F H x y v u dv Q, Same F H → Rep K F x v → Rep K F y u → f x y = some dv → (∀ w d, dv = .val d → (∀ F', Rep K F' d w) → Q w H) → r v u H Q) : OpS K r f :=
  fun F0 Z B σ H F ρ x y v u dv Q R rx ry e k => h F H x y v u dv Q R.sub rx ry e fun w d ed hr => by
    subst ed
    exact k w H F R (Same.refl _) (hr F)
def opII (g : Int → Int → Option D) : D → D → Option DV
  | .int i, .int j => (g i j).map .val
  | _, _ => none
def scalD : D → Bool
  | .non => true | .bl _ => true | .int _ => true | .str _ => true | _ => false
def toV : D → V
  | .bl b => .bl b | .int i => .int i | .str x => .str x | _ => .non
theorem scal_rep {K : PySem.W.Frag} {F : Hp} {d : D} (h : scalD d = true) : Rep K F d (toV d) := by
  cases d <;> first | (cases h; done) | (unfold Rep; rfl)
theorem rep_scal {K : PySem.W.Frag} {F : Hp} {d : D} {v : V} (h : scalD d = true) (r : Rep K F d v) : v = toV d := by
  cases d <;> first | (cases h; done) | (unfold Rep at r; exact r)
theorem opII_ok {K : PySem.W.Frag} {r : R2} {g : Int → Int → Option D} (h : ∀ i j d H Q, g i j = some d → Q (toV d) H → r (.int i) (.int j) H Q) (hs : ∀ i j d, g i j = some d → scalD d = true) : OpS K r (opII g) :=
  .pure fun F H x y v u dv Q _ rx ry e k => by
    cases x <;> try (cases e; done)
    cases y <;> try (cases e; done)
    rename_i i j
    unfold Rep at rx ry
    subst rx ry
    obtain ⟨d, e1, e2⟩ := Option.map_eq_some_iff.mp (show (g i j).map DV.val = some dv from e)
    exact h i j d H Q e1 (k (toV d) d e2.symm fun F' => scal_rep (hs i j d e1))
def MulOk (i j : Int) : Prop := i.natAbs.log2 + j.natAbs.log2 < 1000000
instance (i j : Int) : Decidable (MulOk i j) := inferInstanceAs (Decidable (_ < _))
def DivOk (j : Int) : Prop := j ≠ 0 ∧ j.natAbs.log2 < 9000
instance (j : Int) : Decidable (DivOk j) := inferInstanceAs (Decidable (_ ∧ _))
def PowOk (i j : Int) : Prop := 0 ≤ j ∧ (Builtin.Int.intBits i : Int) * j ≤ 2 ^ 27
instance (i j : Int) : Decidable (PowOk i j) := inferInstanceAs (Decidable (_ ∧ _))
def dSub : D → D → Option DV := opII fun i j => some (.int (i - j))
def dFdiv : D → D → Option DV := opII fun i j => if DivOk j then some (.int (i.fdiv j)) else none
def dMod : D → D → Option DV := opII fun i j => if j ≠ 0 then some (.int (i.fmod j)) else none
def dPow : D → D → Option DV := opII fun i j => if PowOk i j then some (.int (i ^ j.toNat)) else none
def dLt : D → D → Option DV := opII fun i j => some (.bl (decide (i < j)))
def dLe : D → D → Option DV := opII fun i j => some (.bl (decide (i ≤ j)))
def dGt : D → D → Option DV := opII fun i j => some (.bl (decide (j < i)))
def dGe : D → D → Option DV := opII fun i j => some (.bl (decide (j ≤ i)))
theorem ite_some {α : Type} {c : Prop} [Decidable c] {a b : α} (h : (if c then some a else none) = some b) : c ∧ a = b := by
  by_cases hc : c
  · rw [if_pos hc] at h; exact ⟨hc, Option.some.inj h⟩
  · rw [if_neg hc] at h; cases h
theorem os_sub {K : PySem.W.Frag} : OpS K (rI0 fun i j => .int (i - j)) dSub := opII_ok (fun i j d H Q e q => by cases e; exact ⟨i, j, rfl, rfl, q⟩) fun i j d e => by cases e; rfl
theorem op_fdivA : OpR X (binaryOp .FloorDiv) (rI (fun _ j => DivOk j) fun i j => .int (i.fdiv j)) := opI fun _ _ _ _ _ _ _ hc q => floordiv_int hc.1 q (.inl (PyProof.noPylong_of_log2 hc.2))
theorem os_fdiv {K : PySem.W.Frag} : OpS K (rI (fun _ j => DivOk j) fun i j => .int (i.fdiv j)) dFdiv := opII_ok (fun i j d H Q e q => by
  obtain ⟨hc, rfl⟩ := ite_some e; exact ⟨i, j, rfl, rfl, hc, q⟩) fun i j d e => by obtain ⟨_, rfl⟩ := ite_some e; rfl
theorem os_mod {K : PySem.W.Frag} : OpS K (rI (fun _ j => j ≠ 0) fun i j => .int (i.fmod j)) dMod := opII_ok (fun i j d H Q e q => by
  obtain ⟨hc, rfl⟩ := ite_some e; exact ⟨i, j, rfl, rfl, hc, q⟩) fun i j d e => by obtain ⟨_, rfl⟩ := ite_some e; rfl
theorem op_powA : OpR X (binaryOp .Pow) (rI PowOk fun i j => .int (i ^ j.toNat)) := opI fun _ _ _ _ _ _ _ hc q => pow_int hc.1 hc.2 q
theorem os_pow {K : PySem.W.Frag} : OpS K (rI PowOk fun i j => .int (i ^ j.toNat)) dPow := opII_ok (fun i j d H Q e q => by
  obtain ⟨hc, rfl⟩ := ite_some e; exact ⟨i, j, rfl, rfl, hc, q⟩) fun i j d e => by obtain ⟨_, rfl⟩ := ite_some e; rfl
theorem os_lt {K : PySem.W.Frag} : OpS K (rI0 fun i j => .bl (decide (i < j))) dLt := opII_ok (fun i j d H Q e q => by cases e; exact ⟨i, j, rfl, rfl, q⟩) fun i j d e => by cases e; rfl
theorem os_le {K : PySem.W.Frag} : OpS K (rI0 fun i j => .bl (decide (i ≤ j))) dLe := opII_ok (fun i j d H Q e q => by cases e; exact ⟨i, j, rfl, rfl, q⟩) fun i j d e => by cases e; rfl
theorem os_gt {K : PySem.W.Frag} : OpS K (rI0 fun i j => .bl (decide (j < i))) dGt := opII_ok (fun i j d H Q e q => by cases e; exact ⟨i, j, rfl, rfl, q⟩) fun i j d e => by cases e; rfl
theorem os_ge {K : PySem.W.Frag} : OpS K (rI0 fun i j => .bl (decide (j ≤ i))) dGe := opII_ok (fun i j d H Q e q => by cases e; exact ⟨i, j, rfl, rfl, q⟩) fun i j d e => by cases e; rfl

/-- a new list, a new tuple -/
theorem new_lst {K : PySem.W.Frag} {F0 Z : Hp} {B : Nat → Addr} {σ : L2.St} {H F : Hp} {ρ : En} {p : Addr} {xs : List V} {ds : List D} (R : Rel K F0 Z B σ H F ρ) (hp : H p = none) (r : Reps K F ds xs) :
    Rel K F0 Z B σ (upd H p (.lst xs)) F ρ ∧ ResOk K Z σ ρ (upd H p (.lst xs)) F (.ref p) (.own (.lst ds)) :=
  ⟨R.alloc hp, p, rfl, R.fnone hp, R.znone hp, ⟨xs, upd_same, r⟩, R.off_new hp⟩
theorem new_tup {K : PySem.W.Frag} {F0 Z : Hp} {B : Nat → Addr} {σ : L2.St} {H F : Hp} {ρ : En} {p : Addr} {xs : List V} {ds : List D} (R : Rel K F0 Z B σ H F ρ) (hp : H p = none) (r : Reps K F ds xs) :
    Rel K F0 Z B σ (upd H p (.tup xs)) (upd F p (.tup xs)) ρ ∧ Same F (upd F p (.tup xs)) ∧ Rep K (upd F p (.tup xs)) (.tup ds) (.ref p) := by
  obtain ⟨R2, s⟩ := R.allocF (o := .tup xs) hp
  exact ⟨R2, s, by unfold Rep; exact ⟨p, xs, rfl, .inl (.inl upd_same), Reps.mono s _ _ r⟩⟩
def line : Nat := 16777216
theorem line_eq : line = sizeLine := sizeLine_eq.symm
def dAdd : D → D → Option DV
  | .int i, .int j => some (.val (.int (i + j)))
  | .str x, .str y => if x.length + y.length ≤ line then some (.val (.str (x ++ y))) else none
  | .lst x, .lst y => if x.length + y.length ≤ line then some (.own (.lst (x ++ y))) else none
  | .tup x, .tup y => if x.length + y.length ≤ line then some (.val (.tup (x ++ y))) else none
  | _, _ => none
def rAddA (K : PySem.W.Frag) : R2 := fun x y H Q => rI0 (fun i j => .int (i + j)) x y H Q ∨ (∃ i j, x = .str i ∧ y = .str j ∧ i.length + j.length ≤ sizeLine ∧ Q (.str (i ++ j)) H) ∨ rCat x y H Q ∨ rCatA K x y H Q
theorem op_addA : OpR X (binaryOp .Add) (rAddA X.K) := op_add.or (op_add_str.or (op_cat.or op_catA))
theorem os_add {K : PySem.W.Frag} : OpS K (rAddA K) dAdd := fun F0 Z B σ H F ρ x y v u dv Q R rx ry e k => by
  cases x <;> cases y <;> try (cases e; done)
  · unfold Rep at rx ry; subst rx ry; cases e
    exact .inl ⟨_, _, rfl, rfl, k _ H F R (Same.refl _) (by show Rep K F _ _; unfold Rep; rfl)⟩
  · unfold Rep at rx ry; subst rx ry
    obtain ⟨hc, rfl⟩ := ite_some e
    exact .inr (.inl ⟨_, _, rfl, rfl, by rw [← line_eq]; exact hc, k _ H F R (Same.refl _) (by show Rep K F _ _; unfold Rep; rfl)⟩)
  · unfold Rep at rx ry
    obtain ⟨hc, rfl⟩ := ite_some e
    obtain ⟨a, xs, rfl, ha, qa⟩ := rx
    obtain ⟨b, ys, rfl, hb, qb⟩ := ry
    refine .inr (.inr (.inr ⟨a, b, xs, ys, rfl, rfl, SqT_mono R.sub ha, SqT_mono R.sub hb, by rw [qa.length, qb.length, ← line_eq]; exact hc, fun e0 => ?_, fun _ e0 => ?_, fun _ _ p hp => ?_⟩))
    · subst e0
      refine k _ H F R (Same.refl _) ?_
      show Rep K F _ _
      have := qa.append qb
      unfold Rep; exact ⟨b, _, rfl, hb, by simpa using this⟩
    · subst e0
      refine k _ H F R (Same.refl _) ?_
      show Rep K F _ _
      have := qa.append qb
      unfold Rep; exact ⟨a, _, rfl, ha, by simpa using this⟩
    · obtain ⟨R2, s2, r2⟩ := new_tup R hp (qa.append qb)
      exact k _ _ _ R2 s2 r2
  · unfold Rep at rx ry
    obtain ⟨hc, rfl⟩ := ite_some e
    obtain ⟨a, xs, rfl, ha, qa⟩ := rx
    obtain ⟨b, ys, rfl, hb, qb⟩ := ry
    refine .inr (.inr (.inl ⟨a, b, xs, ys, rfl, rfl, R.sub _ _ ha, R.sub _ _ hb, by rw [qa.length, qb.length, ← line_eq]; exact hc, fun p hp => ?_⟩))
    obtain ⟨R2, r2⟩ := new_lst R hp (qa.append qb)
    exact k _ _ _ R2 (Same.refl _) r2
def rptL (ds : List D) (n : Nat) : List D := (List.replicate n ds).flatten
theorem Reps.rpt {K : PySem.W.Frag} {F : Hp} {ds : List D} {xs : List V} (h : Reps K F ds xs) (n : Nat) : Reps K F (rptL ds n) (List.replicate n xs).flatten := by
  unfold rptL
  induction n with
  | zero => exact .nil
  | succ n ih => rw [List.replicate_succ, List.replicate_succ, List.flatten_cons, List.flatten_cons]; exact h.append ih
def dMul : D → D → Option DV
  | .int i, .int j => if MulOk i j then some (.val (.int (i * j))) else none
  | .lst x, .int n => if -(2 ^ 63) ≤ n ∧ n < 2 ^ 63 ∧ x.length * n.toNat ≤ line then some (.own (.lst (rptL x n.toNat))) else none
  | .tup x, .int n => if 2 ≤ n ∧ n ≤ 1000 ∧ x.length ≠ 0 ∧ x.length ≤ 1000 then some (.val (.tup (rptL x n.toNat))) else none
  | _, _ => none
def rMulA (K : PySem.W.Frag) : R2 := fun x y H Q => rI CMulW (fun i j => .int (i * j)) x y H Q ∨ rRep x y H Q ∨ rRepT K x y H Q
theorem op_mulA : OpR X (binaryOp .Mult) (rMulA X.K) := op_mulW.or (op_rep.or op_repT)
theorem os_mul {K : PySem.W.Frag} : OpS K (rMulA K) dMul := fun F0 Z B σ H F ρ x y v u dv Q R rx ry e k => by
  cases x <;> cases y <;> try (cases e; done)
  · unfold Rep at rx ry; subst rx ry
    obtain ⟨hc, rfl⟩ := ite_some e
    exact .inl ⟨_, _, rfl, rfl, hc, k _ H F R (Same.refl _) (by show Rep K F _ _; unfold Rep; rfl)⟩
  · unfold Rep at rx ry; subst ry
    obtain ⟨⟨h1, h2, h3, h4⟩, rfl⟩ := ite_some e
    obtain ⟨a, xs, rfl, ha, qa⟩ := rx
    refine .inr (.inr ⟨a, _, xs, rfl, rfl, SqT_mono R.sub ha, fun z => h3 (by rw [← qa.length, z]; rfl), h1, h2, by rw [qa.length]; exact h4, fun p hp => ?_⟩)
    obtain ⟨R2, s2, r2⟩ := new_tup R hp (qa.rpt _)
    exact k _ _ _ R2 s2 r2
  · unfold Rep at rx ry; subst ry
    obtain ⟨⟨h1, h2, h3⟩, rfl⟩ := ite_some e
    obtain ⟨a, xs, rfl, ha, qa⟩ := rx
    refine .inr (.inl ⟨a, _, xs, rfl, rfl, R.sub _ _ ha, h1, h2, by rw [qa.length, ← line_eq]; exact h3, fun p hp => ?_⟩)
    obtain ⟨R2, r2⟩ := new_lst R hp (qa.rpt _)
    exact k _ _ _ R2 (Same.refl _) r2
/-! ### one-place operations -/
def m1 (f : D → Option DV) (ma : ME) : ME := fun ρ => (fz ma ρ).bind fun p => (f p.1).map fun dv => (dv, p.2)
def dNeg : D → Option DV
  | .int i => some (.val (.int (-i)))
  | _ => none
theorem em_neg {a : Expr} {pos : Pos} {ma : ME} (ha : Em X a ma) : Em X (.UnaryOp .USub a pos) (m1 dNeg ma) := PE_imp (pe_un un_neg ha.fz) fun σ H Q ⟨F0, Z, B, F, ρ, dv, ρ', R, e, k⟩ => by
  unfold m1 at e
  obtain ⟨⟨x, ρ1⟩, e1, e⟩ := Option.bind_eq_some_iff.mp e
  obtain ⟨w, e3, e⟩ := Option.map_eq_some_iff.mp e
  cases e
  refine tOfV_of R e1 fun v H1 F1 R1 s1 r1 => ?_
  cases x <;> try (cases e3; done)
  unfold Rep at r1; cases e3
  exact ⟨_, r1, k _ H1 F1 R1 s1 (by show Rep X.K F1 _ _; unfold Rep; rfl)⟩
def dNot : D → Option DV
  | .bl b => some (.val (.bl (!b)))
  | _ => none
theorem em_not {a : Expr} {pos : Pos} {ma : ME} (ha : Em X a ma) : Em X (.UnaryOp .Not a pos) (m1 dNot ma) := PE_imp (pe_not ha.fz) fun σ H Q ⟨F0, Z, B, F, ρ, dv, ρ', R, e, k⟩ => by
  unfold m1 at e
  obtain ⟨⟨x, ρ1⟩, e1, e⟩ := Option.bind_eq_some_iff.mp e
  obtain ⟨w, e3, e⟩ := Option.map_eq_some_iff.mp e
  cases e
  refine tOfV_of R e1 fun v H1 F1 R1 s1 r1 => ?_
  cases x <;> try (cases e3; done)
  unfold Rep at r1; cases e3
  exact ⟨_, r1, k _ H1 F1 R1 s1 (by show Rep X.K F1 _ _; unfold Rep; rfl)⟩
/-! ### and, or, not, if-else -/
def tNotm (m : MT) : MT := fun ρ => (m ρ).map fun p => (!p.1, p.2)
def tAndm (m n : MT) : MT := fun ρ => (m ρ).bind fun p => if p.1 = true then n p.2 else some (false, p.2)
def tOrm (m n : MT) : MT := fun ρ => (m ρ).bind fun p => if p.1 = true then some (true, p.2) else n p.2
abbrev Ew (X : Cx) (e : Expr) (m : MT) : Prop := PW X e (tOfT X.K m)
theorem PW_imp {e : Expr} {t t' : TT} (h : PW X e t) (i : ∀ σ H Q, t' σ H Q → t σ H Q) : PW X e t' := ⟨fun w pins s σ H Q I q => h.run w pins s σ H Q I (i _ _ _ q)⟩
theorem et_not {a : Expr} {pos : Pos} {m : MT} (ha : Et X a m) : Et X (.UnaryOp .Not a pos) (tNotm m) := PT_imp (pt_not ha) fun σ H Q ⟨F0, Z, B, F, ρ, b, ρ', R, e, k⟩ => by
  obtain ⟨⟨c, ρ1⟩, e1, e⟩ := Option.map_eq_some_iff.mp e
  cases e
  exact tOfT_of R e1 fun H' F' R' s => k H' F' R' s
theorem ew_and1 {a : Expr} {pos : Pos} {m : MT} (ha : Et X a m) : Ew X (.BoolOp .And [a] pos) m := pw_and1 ha
theorem ew_or1 {a : Expr} {pos : Pos} {m : MT} (ha : Et X a m) : Ew X (.BoolOp .Or [a] pos) m := pw_or1 ha
theorem ew_and {a b : Expr} {rest : List Expr} {pos : Pos} {m n : MT} (ha : Et X a m) (hb : Ew X (.BoolOp .And (b :: rest) pos) n) : Ew X (.BoolOp .And (a :: b :: rest) pos) (tAndm m n) := PW_imp (pw_and ha hb) fun σ H Q ⟨F0, Z, B, F, ρ, c, ρ', R, e, k⟩ => by
  obtain ⟨⟨d, ρ1⟩, e1, e⟩ := Option.bind_eq_some_iff.mp e
  refine tOfT_of R e1 fun H' F' R' s => ?_
  cases d with
  | true =>
    rw [if_pos rfl]
    exact tOfT_of R' e fun H2 F2 R2 s2 => k H2 F2 R2 (s.trans s2)
  | false =>
    rw [if_neg Bool.false_ne_true]
    cases e
    exact k H' F' R' s
theorem ew_or {a b : Expr} {rest : List Expr} {pos : Pos} {m n : MT} (ha : Et X a m) (hb : Ew X (.BoolOp .Or (b :: rest) pos) n) : Ew X (.BoolOp .Or (a :: b :: rest) pos) (tOrm m n) := PW_imp (pw_or ha hb) fun σ H Q ⟨F0, Z, B, F, ρ, c, ρ', R, e, k⟩ => by
  obtain ⟨⟨d, ρ1⟩, e1, e⟩ := Option.bind_eq_some_iff.mp e
  refine tOfT_of R e1 fun H' F' R' s => ?_
  cases d with
  | false =>
    rw [if_neg Bool.false_ne_true]
    exact tOfT_of R' e fun H2 F2 R2 s2 => k H2 F2 R2 (s.trans s2)
  | true =>
    rw [if_pos rfl]
    cases e
    exact k H' F' R' s
theorem et_w {e : Expr} {m : MT} (h : Ew X e m) : Et X e m := h.pt
/-- as values: bools -/
def mAnd (m n : ME) : ME := fun ρ => (fz m ρ).bind fun p => match p.1 with
  | .bl true => n p.2
  | .bl false => some (.val (.bl false), p.2)
  | _ => none
def mOr (m n : ME) : ME := fun ρ => (fz m ρ).bind fun p => match p.1 with
  | .bl false => n p.2
  | .bl true => some (.val (.bl true), p.2)
  | _ => none
theorem em_one {op : BoolOp} {a : Expr} {pos : Pos} {m : ME} (ha : Em X a m) : Em X (.BoolOp op [a] pos) m := pe_one ha
theorem em_and {a b : Expr} {rest : List Expr} {pos : Pos} {m n : ME} (ha : Em X a m) (hb : Em X (.BoolOp .And (b :: rest) pos) n) : Em X (.BoolOp .And (a :: b :: rest) pos) (mAnd m n) := PE_imp (pe_and ha.fz hb) fun σ H Q ⟨F0, Z, B, F, ρ, dv, ρ', R, e, k⟩ => by
  obtain ⟨⟨d, ρ1⟩, e1, e⟩ := Option.bind_eq_some_iff.mp e
  refine tOfV_of R e1 fun v H' F' R' s r => ?_
  split at e
  · rename_i hd
    cases (show d = .bl true from hd)
    unfold Rep at r
    refine ⟨true, r, ?_⟩
    rw [if_pos rfl]
    exact tOf_of R' e fun w H2 F2 R2 s2 r2 => k w H2 F2 R2 (s.trans s2) r2
  · rename_i hd
    cases (show d = .bl false from hd)
    unfold Rep at r
    refine ⟨false, r, ?_⟩
    rw [if_neg Bool.false_ne_true]
    cases e
    exact k _ H' F' R' s (by show Rep X.K F' _ _; unfold Rep; rfl)
  · cases e
theorem em_or {a b : Expr} {rest : List Expr} {pos : Pos} {m n : ME} (ha : Em X a m) (hb : Em X (.BoolOp .Or (b :: rest) pos) n) : Em X (.BoolOp .Or (a :: b :: rest) pos) (mOr m n) := PE_imp (pe_or ha.fz hb) fun σ H Q ⟨F0, Z, B, F, ρ, dv, ρ', R, e, k⟩ => by
  obtain ⟨⟨d, ρ1⟩, e1, e⟩ := Option.bind_eq_some_iff.mp e
  refine tOfV_of R e1 fun v H' F' R' s r => ?_
  split at e
  · rename_i hd
    cases (show d = .bl false from hd)
    unfold Rep at r
    refine ⟨false, r, ?_⟩
    rw [if_neg Bool.false_ne_true]
    exact tOf_of R' e fun w H2 F2 R2 s2 r2 => k w H2 F2 R2 (s.trans s2) r2
  · rename_i hd
    cases (show d = .bl true from hd)
    unfold Rep at r
    refine ⟨true, r, ?_⟩
    rw [if_pos rfl]
    cases e
    exact k _ H' F' R' s (by show Rep X.K F' _ _; unfold Rep; rfl)
  · cases e
def mIf (c : MT) (m n : ME) : ME := fun ρ => (c ρ).bind fun p => if p.1 = true then m p.2 else n p.2
theorem em_if {c a b : Expr} {pos : Pos} {mc : MT} {m n : ME} (hc : Et X c mc) (ha : Em X a m) (hb : Em X b n) : Em X (.IfExp c a b pos) (mIf mc m n) := PE_imp (pe_ifExp hc ha hb) fun σ H Q ⟨F0, Z, B, F, ρ, dv, ρ', R, e, k⟩ => by
  obtain ⟨⟨d, ρ1⟩, e1, e⟩ := Option.bind_eq_some_iff.mp e
  refine tOfT_of R e1 fun H' F' R' s => ?_
  cases d with
  | true =>
    rw [if_pos rfl]
    exact tOf_of R' e fun w H2 F2 R2 s2 r2 => k w H2 F2 R2 (s.trans s2) r2
  | false =>
    rw [if_neg Bool.false_ne_true]
    exact tOf_of R' e fun w H2 F2 R2 s2 r2 => k w H2 F2 R2 (s.trans s2) r2
/-! ### chains -/
def mChain (f g : D → D → Option DV) (ma mb mc : ME) : ME := fun ρ => (fz ma ρ).bind fun p => (fz mb p.2).bind fun q => (f p.1 q.1).bind fun z => match z with
  | .val (.bl true) => (fz mc q.2).bind fun r => (g q.1 r.1).map fun dv => (dv, r.2)
  | .val (.bl false) => some (.val (.bl false), q.2)
  | _ => none
theorem runChain {a b c : Expr} {ma mb mc : ME} {K : PySem.W.Frag} {r r' : R2} {f g : D → D → Option DV} (os : OpS K r f) (os' : OpS K r' g) {σ : L2.St} {H : Hp} {Q : VK} (h : tOf K (mChain f g ma mb mc) σ H Q) :
    tChain r r' (tOfV K (fz ma)) (tOfV K (fz mb)) (tOfV K (fz mc)) σ H Q := by
  obtain ⟨F0, Z, B, F, ρ, dv, ρ', R, e, k⟩ := h
  unfold mChain at e
  obtain ⟨⟨x, ρ1⟩, e1, e⟩ := Option.bind_eq_some_iff.mp e
  obtain ⟨⟨y, ρ2⟩, e2, e⟩ := Option.bind_eq_some_iff.mp e
  obtain ⟨z, e3, e⟩ := Option.bind_eq_some_iff.mp e
  refine tOfV_of R e1 fun v H1 F1 R1 s1 r1 => tOfV_of R1 e2 fun u H2 F2 R2 s2 r2 => ?_
  refine os F0 Z B σ H2 F2 ρ2 x y v u _ _ R2 (Rep.mono s2 x v r1) r2 e3 fun w H3 F3 R3 s3 rr => ?_
  split at e
  · have rb : Rep K F3 (.bl true) w := rr
    unfold Rep at rb
    refine ⟨true, rb, ?_⟩
    rw [if_pos rfl]
    obtain ⟨⟨c', ρ3⟩, e4, e⟩ := Option.bind_eq_some_iff.mp e
    obtain ⟨dw, e5, e⟩ := Option.map_eq_some_iff.mp e
    cases e
    refine tOfV_of R3 e4 fun v4 H4 F4 R4 s4 r4 => ?_
    exact os' F0 Z B σ H4 F4 ρ3 y c' u v4 _ Q R4 (Rep.mono (s3.trans s4) y u r2) r4 e5 fun w5 H5 F5 R5 s5 r5 => k w5 H5 F5 R5 (s1.trans (s2.trans (s3.trans (s4.trans s5)))) r5
  · have rb : Rep K F3 (.bl false) w := rr
    unfold Rep at rb
    refine ⟨false, rb, ?_⟩
    rw [if_neg Bool.false_ne_true]
    cases e
    exact k _ H3 F3 R3 (s1.trans (s2.trans s3)) (by show Rep K F3 _ _; unfold Rep; rfl)
  · cases e
theorem em_chain {op op' : CmpOp} {a b c : Expr} {pos : Pos} {ma mb mc : ME} {r r' : R2} {f g : D → D → Option DV} (ho : OpR X (compareOp op) r) (ho' : OpR X (compareOp op') r') (os : OpS X.K r f) (os' : OpS X.K r' g) (ha : Em X a ma) (hb : Em X b mb) (hc : Em X c mc)
    (hm : lastMarks [op, op'] [b, c] = false := by with_unfolding_all rfl) : Em X (.Compare a [op, op'] [b, c] pos) (mChain f g ma mb mc) :=
  PE_imp (pe_chain ho ho' ha.fz hb.fz hc.fz hm) fun σ H Q h => runChain (a := a) (b := b) (c := c) os os' h
theorem et_chain {op op' : CmpOp} {a b c : Expr} {pos : Pos} {ma mb mc : ME} {r r' : R2} {f g : D → D → Option DV} (ho : OpR X (compareOp op) r) (ho' : OpR X (compareOp op') r') (os : OpS X.K r f) (os' : OpS X.K r' g) (ha : Em X a ma) (hb : Em X b mb) (hc : Em X c mc)
    (hm : lastMarks [op, op'] [b, c] = false := by with_unfolding_all rfl) : Et X (.Compare a [op, op'] [b, c] pos) (tst (mChain f g ma mb mc)) :=
  PT_imp (pt_chain ho ho' ha.fz hb.fz hc.fz hm) fun σ H Q ⟨F0, Z, B, F, ρ, t, ρ', R, e, k⟩ => by
    unfold tst at e
    split at e
    · rename_i t0 ρ0 e1
      cases e
      refine runChain (a := a) (b := b) (c := c) os os' (tOf_of R e1 fun v H' F' R' s rr => ⟨t, ?_, k H' F' R' s⟩)
      have : Rep X.K F' (.bl t) v := rr
      unfold Rep at this; exact this
    · cases e
end
end Cb

set_option Elab.async false
set_option linter.all false
set_option maxRecDepth 100000
/-! Rules: ==, displays, subscripts, slices, built-ins. -/
namespace Cb
open PySem PySem.Spec PyProof.Rows L2

/-! ### == -/
mutual
def py : D → PyData
  | .non => .none
  | .bl b => .bool b
  | .int i => .int i
  | .str x => .str x
  | .tup ds => .tuple (pys ds)
  | .lst ds => .list (pys ds)
  | _ => .none
def pys : List D → List PyData
  | [] => []
  | d :: ds => py d :: pys ds
end
mutual
/-- data that may be compared, at most so deep -/
def okD : Nat → D → Bool
  | _, .non => true
  | _, .bl _ => true
  | _, .int _ => true
  | _, .str x => PyData.strOk x
  | 0, _ => false
  | n + 1, .tup ds => okDs n ds
  | n + 1, .lst ds => okDs n ds
  | _ + 1, _ => false
def okDs : Nat → List D → Bool
  | _, [] => true
  | n, d :: ds => okD n d && okDs n ds
end
mutual
def eqD : D → D → Bool
  | .non, .non => true
  | .bl a, .bl b => a == b
  | .bl a, .int j => (if a then 1 else 0) == j
  | .int i, .bl b => i == (if b then 1 else 0)
  | .int i, .int j => i == j
  | .str x, .str y => x == y
  | .lst xs, .lst ys => eqDs xs ys
  | .tup xs, .tup ys => eqDs xs ys
  | _, _ => false
def eqDs : List D → List D → Bool
  | [], [] => true
  | x :: xs, y :: ys => eqD x y && eqDs xs ys
  | _, _ => false
end
theorem okDs_iff {n : Nat} : ∀ {ds : List D}, okDs n ds = true ↔ ∀ d ∈ ds, okD n d = true
  | [] => by simp [okDs]
  | d :: ds => by simp [okDs, okDs_iff (ds := ds)]
theorem okD_tup {n : Nat} {ds : List D} (h : ∀ d ∈ ds, okD n d = true) : okD (n + 1) (.tup ds) = true := by unfold okD; exact okDs_iff.mpr h
theorem okD_lst {n : Nat} {ds : List D} (h : ∀ d ∈ ds, okD n d = true) : okD (n + 1) (.lst ds) = true := by unfold okD; exact okDs_iff.mpr h
mutual
theorem py_lay : ∀ (n : Nat) (d : D), okD n d = true → (py d).canLay0 = true ∧ (py d).depth ≤ n
  | n, .non, _ => by simp [py, PyData.canLay0, PyData.depth]
  | n, .bl _, _ => by simp [py, PyData.canLay0, PyData.depth]
  | n, .int _, _ => by simp [py, PyData.canLay0, PyData.depth]
  | n, .str x, h => by
    have h' : PyData.strOk x = true := by simpa [okD] using h
    simp [py, PyData.canLay0, PyData.depth, h']
  | 0, .tup ds, h => by simp [okD] at h
  | 0, .lst ds, h => by simp [okD] at h
  | 0, .dk _ _, h => by simp [okD] at h
  | 0, .dt _ _, h => by simp [okD] at h
  | 0, .scr _, h => by simp [okD] at h
  | n + 1, .tup ds, h => by
    have h' : okDs n ds = true := by simpa [okD] using h
    obtain ⟨h1, h2⟩ := pys_lay n ds h'
    simp only [py, PyData.canLay0, PyData.depth]
    exact ⟨h1, by omega⟩
  | n + 1, .lst ds, h => by
    have h' : okDs n ds = true := by simpa [okD] using h
    obtain ⟨h1, h2⟩ := pys_lay n ds h'
    simp only [py, PyData.canLay0, PyData.depth]
    exact ⟨h1, by omega⟩
  | n + 1, .dk _ _, h => by simp [okD] at h
  | n + 1, .dt _ _, h => by simp [okD] at h
  | n + 1, .scr _, h => by simp [okD] at h
theorem pys_lay : ∀ (n : Nat) (ds : List D), okDs n ds = true → PyData.canLayAll0 (pys ds) = true ∧ PyData.depthAll (pys ds) ≤ n
  | n, [], _ => by simp [pys, PyData.canLayAll0, PyData.depthAll]
  | n, d :: ds, h => by
    have h' : okD n d = true ∧ okDs n ds = true := by simpa [okDs] using h
    obtain ⟨h1, h2⟩ := py_lay n d h'.1
    obtain ⟨h3, h4⟩ := pys_lay n ds h'.2
    simp only [pys, PyData.canLayAll0, PyData.depthAll, h1, h3, Bool.and_self]
    exact ⟨trivial, Nat.max_le.mpr ⟨h2, h4⟩⟩
end
theorem py_shaped {d : D} (h : okD 8 d = true) : SeqAt.shaped (py d) = true := by
  obtain ⟨h1, h2⟩ := py_lay 8 d h
  unfold SeqAt.shaped
  rw [h1, decide_eq_true (show (py d).depth ≤ 64 by omega)]; rfl
mutual
theorem py_eqv : ∀ (n m : Nat) (x y : D), okD n x = true → okD m y = true → PyData.eqv (py x) (py y) = eqD x y
  | n, m, x, y, hx, hy => by
    cases x <;> cases y <;> first
      | (cases n <;> simp [okD] at hx; done)
      | (cases m <;> simp [okD] at hy; done)
      | (simp only [py, PyData.eqv, eqD]; done)
      | skip
    · rename_i ds es
      cases n with
      | zero => simp [okD] at hx
      | succ n =>
        cases m with
        | zero => simp [okD] at hy
        | succ m =>
          simp only [py, PyData.eqv, eqD]
          exact pys_eqv n m ds es (by simpa [okD] using hx) (by simpa [okD] using hy)
    · rename_i ds es
      cases n with
      | zero => simp [okD] at hx
      | succ n =>
        cases m with
        | zero => simp [okD] at hy
        | succ m =>
          simp only [py, PyData.eqv, eqD]
          exact pys_eqv n m ds es (by simpa [okD] using hx) (by simpa [okD] using hy)
theorem pys_eqv : ∀ (n m : Nat) (xs ys : List D), okDs n xs = true → okDs m ys = true → PyData.eqvAll (pys xs) (pys ys) = eqDs xs ys
  | n, m, [], [], _, _ => by simp [pys, PyData.eqvAll, eqDs]
  | n, m, [], _ :: _, _, _ => by simp [pys, PyData.eqvAll, eqDs]
  | n, m, _ :: _, [], _, _ => by simp [pys, PyData.eqvAll, eqDs]
  | n, m, x :: xs, y :: ys, hx, hy => by
    have hx' : okD n x = true ∧ okDs n xs = true := by simpa [okDs] using hx
    have hy' : okD m y = true ∧ okDs m ys = true := by simpa [okDs] using hy
    simp only [pys, PyData.eqvAll, eqDs]
    rw [py_eqv n m x y hx'.1 hy'.1, pys_eqv n m xs ys hx'.2 hy'.2]
end
mutual
theorem rep_dp {K : PySem.W.Frag} {F H : Hp} (s : Same F H) : ∀ (n : Nat) (d : D) (v : V), okD n d = true → Rep K F d v → Dp K H v (py d)
  | n, .non, v, _, r => by unfold Rep at r; subst r; simp only [py]; exact .non
  | n, .bl _, v, _, r => by unfold Rep at r; subst r; simp only [py]; exact .bl _
  | n, .int _, v, _, r => by unfold Rep at r; subst r; simp only [py]; exact .int _
  | n, .str x, v, _, r => by unfold Rep at r; subst r; simp only [py]; exact .str _
  | 0, .tup ds, _, h, _ => by simp [okD] at h
  | 0, .lst ds, _, h, _ => by simp [okD] at h
  | 0, .dk _ _, _, h, _ => by simp [okD] at h
  | 0, .dt _ _, _, h, _ => by simp [okD] at h
  | 0, .scr _, _, h, _ => by simp [okD] at h
  | n + 1, .tup ds, v, h, r => by
    have h' : okDs n ds = true := by simpa [okD] using h
    unfold Rep at r
    obtain ⟨a, xs, rfl, h1, h2⟩ := r
    simp only [py]
    exact .tup (SqT_mono s h1) (reps_dp s n ds xs h' h2)
  | n + 1, .lst ds, v, h, r => by
    have h' : okDs n ds = true := by simpa [okD] using h
    unfold Rep at r
    obtain ⟨a, xs, rfl, h1, h2⟩ := r
    simp only [py]
    exact .lst (.of (s _ _ h1)) (reps_dp s n ds xs h' h2)
  | n + 1, .dk _ _, _, h, _ => by simp [okD] at h
  | n + 1, .dt _ _, _, h, _ => by simp [okD] at h
  | n + 1, .scr _, _, h, _ => by simp [okD] at h
theorem reps_dp {K : PySem.W.Frag} {F H : Hp} (s : Same F H) : ∀ (n : Nat) (ds : List D) (xs : List V), okDs n ds = true → Reps K F ds xs → DpAll K H xs (pys ds)
  | n, [], xs, _, r => by rw [r.of_nil]; simp only [pys]; exact .nil
  | n, d :: ds, _, h, r => by
    have h' : okD n d = true ∧ okDs n ds = true := by simpa [okDs] using h
    obtain ⟨x, t, rfl, r1, r2⟩ := r.of_cons
    simp only [pys]
    exact .cons (rep_dp s n d x h'.1 r1) (reps_dp s n ds t h'.2 r2)
end
def dEq (x y : D) : Option DV := if okD 8 x = true ∧ okD 8 y = true then some (.val (.bl (eqD x y))) else none
def dNe (x y : D) : Option DV := if okD 8 x = true ∧ okD 8 y = true then some (.val (.bl (!eqD x y))) else none
theorem os_eq {K : PySem.W.Frag} : OpS K (rEqD K) dEq := .pure fun F H x y v u dv Q s rx ry e k => by
  obtain ⟨⟨h1, h2⟩, rfl⟩ := ite_some e
  refine ⟨py x, py y, rep_dp s 8 x v h1 rx, rep_dp s 8 y u h2 ry, py_shaped h1, py_shaped h2, ?_⟩
  rw [py_eqv 8 8 x y h1 h2]
  exact k _ _ rfl fun F' => by unfold Rep; rfl
theorem os_ne {K : PySem.W.Frag} : OpS K (rNeD K) dNe := .pure fun F H x y v u dv Q s rx ry e k => by
  obtain ⟨⟨h1, h2⟩, rfl⟩ := ite_some e
  refine ⟨py x, py y, rep_dp s 8 x v h1 rx, rep_dp s 8 y u h2 ry, py_shaped h1, py_shaped h2, ?_⟩
  rw [py_eqv 8 8 x y h1 h2]
  exact k _ _ rfl fun F' => by unfold Rep; rfl
mutual
/-- no bool within -/
def nob : D → Bool
  | .bl _ => false
  | .tup ds => nobs ds
  | .lst ds => nobs ds
  | .dk _ _ => false
  | .dt _ _ => false
  | .scr _ => false
  | _ => true
def nobs : List D → Bool
  | [] => true
  | d :: ds => nob d && nobs ds
end
theorem nobs_iff : ∀ {ds : List D}, nobs ds = true ↔ ∀ d ∈ ds, nob d = true
  | [] => by simp [nobs]
  | d :: ds => by simp [nobs, nobs_iff (ds := ds)]
mutual
theorem eqD_iff : ∀ (x y : D), nob x = true → nob y = true → (eqD x y = true ↔ x = y)
  | .non, y, hx, hy => by cases y <;> simp [eqD, nob] at *
  | .bl _, y, hx, hy => by simp [nob] at hx
  | .int i, y, hx, hy => by cases y <;> simp [eqD, nob] at *
  | .str i, y, hx, hy => by cases y <;> simp [eqD, nob] at *
  | .tup ds, y, hx, hy => by
    cases y <;> simp [eqD, nob] at *
    exact eqDs_iff ds _ hx hy
  | .lst ds, y, hx, hy => by
    cases y <;> simp [eqD, nob] at *
    exact eqDs_iff ds _ hx hy
  | .dk _ _, y, hx, hy => by simp [nob] at hx
  | .dt _ _, y, hx, hy => by simp [nob] at hx
  | .scr _, y, hx, hy => by simp [nob] at hx
theorem eqDs_iff : ∀ (xs ys : List D), nobs xs = true → nobs ys = true → (eqDs xs ys = true ↔ xs = ys)
  | [], [], _, _ => by simp [eqDs]
  | [], _ :: _, _, _ => by simp [eqDs]
  | _ :: _, [], _, _ => by simp [eqDs]
  | x :: xs, y :: ys, hx, hy => by
    have hx' : nob x = true ∧ nobs xs = true := by simpa [nobs] using hx
    have hy' : nob y = true ∧ nobs ys = true := by simpa [nobs] using hy
    simp only [eqDs, Bool.and_eq_true, List.cons.injEq]
    rw [eqD_iff x y hx'.1 hy'.1, eqDs_iff xs ys hx'.2 hy'.2]
end
section
variable {X : Cx}
/-! ### is None, is of bools -/
def isN : D → Bool
  | .non => true
  | _ => false
def dIsN : D → D → Option DV
  | x, .non => some (.val (.bl (isN x)))
  | .bl a, .bl b => some (.val (.bl (a == b)))
  | _, _ => none
def dNotN : D → D → Option DV
  | x, .non => some (.val (.bl (!isN x)))
  | .bl a, .bl b => some (.val (.bl (!(a == b))))
  | _, _ => none
theorem rep_non {K : PySem.W.Frag} {F : Hp} {d : D} {v : V} (r : Rep K F d v) : decide (v = .non) = isN d := by
  cases d <;> unfold Rep at r
  · subst r; rfl
  · subst r; rfl
  · subst r; rfl
  · subst r; rfl
  · obtain ⟨a, xs, rfl, _⟩ := r; rfl
  · obtain ⟨a, xs, rfl, _⟩ := r; rfl
  · obtain ⟨a, xs, rfl, _⟩ := r; rfl
  · obtain ⟨a, xs, rfl, _⟩ := r; rfl
  · obtain ⟨a, rfl, _⟩ := r; rfl
def rIsA : R2 := fun x y H Q => (y = .non ∧ Q (.bl (decide (x = .non))) H) ∨ rIsB x y H Q
def rNotA : R2 := fun x y H Q => (y = .non ∧ Q (.bl (!decide (x = .non))) H) ∨ rNotB x y H Q
theorem op_isA : OpR X (compareOp .Is) rIsA := op_isN.or op_isBl
theorem op_notA : OpR X (compareOp .IsNot) rNotA := op_notN.or op_notBl
theorem os_is {K : PySem.W.Frag} : OpS K rIsA dIsN := .pure fun F H x y v u dv Q s rx ry e k => by
  cases y with
  | non =>
    unfold Rep at ry; subst ry
    cases e
    refine .inl ⟨rfl, ?_⟩
    rw [rep_non rx]
    exact k _ _ rfl fun F' => by unfold Rep; rfl
  | bl b =>
    cases x <;> try (cases e; done)
    rename_i a
    unfold Rep at rx ry; subst rx ry
    cases e
    refine .inr ⟨a, b, rfl, rfl, k _ _ rfl fun F' => by unfold Rep; cases a <;> cases b <;> rfl⟩
  | _ => cases x <;> cases e
theorem os_isnot {K : PySem.W.Frag} : OpS K rNotA dNotN := .pure fun F H x y v u dv Q s rx ry e k => by
  cases y with
  | non =>
    unfold Rep at ry; subst ry
    cases e
    refine .inl ⟨rfl, ?_⟩
    rw [rep_non rx]
    exact k _ _ rfl fun F' => by unfold Rep; rfl
  | bl b =>
    cases x <;> try (cases e; done)
    rename_i a
    unfold Rep at rx ry; subst rx ry
    cases e
    refine .inr ⟨a, b, rfl, rfl, k _ _ rfl fun F' => by unfold Rep; cases a <;> cases b <;> rfl⟩
  | _ => cases x <;> cases e
/-! ### argument lists, displays -/
abbrev MA := En → Option (List D × En)
def tAOf (K : PySem.W.Frag) (m : MA) : TA := fun σ H Q => ∃ F0 Z B F ρ ds ρ', Rel K F0 Z B σ H F ρ ∧ m ρ = some (ds, ρ') ∧ ∀ vs H' F', Rel K F0 Z B σ H' F' ρ' → Same F F' → Reps K F' ds vs → Q vs H'
abbrev Am (X : Cx) (es : List Expr) (m : MA) : Prop := PA X es (tAOf X.K m)
theorem PA_imp {es : List Expr} {t t' : TA} (h : PA X es t) (i : ∀ σ H Q, t' σ H Q → t σ H Q) : PA X es t' := ⟨fun p pins s σ H Q I q => h.run p pins s σ H Q I (i _ _ _ q)⟩
theorem tAOf_of {K : PySem.W.Frag} {m : MA} {F0 Z : Hp} {B : Nat → Addr} {σ : L2.St} {H F : Hp} {ρ ρ' : En} {ds : List D} {Q : List V → Hp → Prop} (R : Rel K F0 Z B σ H F ρ) (e : m ρ = some (ds, ρ'))
    (h : ∀ vs H' F', Rel K F0 Z B σ H' F' ρ' → Same F F' → Reps K F' ds vs → Q vs H') : tAOf K m σ H Q := ⟨F0, Z, B, F, ρ, ds, ρ', R, e, h⟩
def aNil : MA := fun ρ => some ([], ρ)
def aCons (m : ME) (ms : MA) : MA := fun ρ => (fz m ρ).bind fun p => (ms p.2).map fun q => (p.1 :: q.1, q.2)
theorem am_nil : Am X [] aNil := PA_imp pa_nil fun σ H Q ⟨F0, Z, B, F, ρ, ds, ρ', R, e, k⟩ => by
  cases e
  exact k [] H F R (Same.refl _) .nil
theorem am_cons {e : Expr} {es : List Expr} {m : ME} {ms : MA} (ha : Em X e m) (hr : Am X es ms) (hs : starEach (e :: es) X.env = (false, eval e X.env) :: starEach es X.env := by rfl) : Am X (e :: es) (aCons m ms) := PA_imp (pa_cons ha.fz hr hs) fun σ H Q ⟨F0, Z, B, F, ρ, ds, ρ', R, e, k⟩ => by
  obtain ⟨⟨x, ρ1⟩, e1, e⟩ := Option.bind_eq_some_iff.mp e
  obtain ⟨⟨xs, ρ2⟩, e2, e⟩ := Option.map_eq_some_iff.mp e
  cases e
  exact tOfV_of R e1 fun v H1 F1 R1 s1 r1 => tAOf_of R1 e2 fun vs H2 F2 R2 s2 r2 => k (v :: vs) H2 F2 R2 (s1.trans s2) (.cons (Rep.mono s2 _ _ r1) r2)
def aStar (m : ME) (ms : MA) : MA := fun ρ => (fz m ρ).bind fun p => match p.1 with
  | .lst ds => (ms p.2).map fun q => (ds ++ q.1, q.2)
  | .tup ds => (ms p.2).map fun q => (ds ++ q.1, q.2)
  | _ => none
theorem am_star {e : Expr} {es : List Expr} {p : Pos} {m : ME} {ms : MA} (ha : Em X e m) (hr : Am X es ms) (hs : starEach (.Starred e p :: es) X.env = (true, eval e X.env) :: starEach es X.env := by rfl) : Am X (.Starred e p :: es) (aStar m ms) := PA_imp (StX.pa_star ha.fz hr hs) fun σ H Q ⟨F0, Z, B, F, ρ, ds, ρ', R, e, k⟩ => by
  obtain ⟨⟨x, ρ1⟩, e1, e⟩ := Option.bind_eq_some_iff.mp e
  refine tOfV_of R e1 fun v H1 F1 R1 s1 r1 => ?_
  split at e
  · rename_i ds' hd
    cases (show x = .lst ds' from hd)
    obtain ⟨⟨xs, ρ2⟩, e2, e⟩ := Option.map_eq_some_iff.mp e
    cases e
    unfold Rep at r1
    obtain ⟨a, ys, rfl, h1, h2⟩ := r1
    exact ⟨a, ys, rfl, .inr (.of (R1.sub _ _ h1)), tAOf_of R1 e2 fun vs H2 F2 R2 s2 r2 => k _ H2 F2 R2 (s1.trans s2) ((Reps.mono s2 _ _ h2).append r2)⟩
  · rename_i ds' hd
    cases (show x = .tup ds' from hd)
    obtain ⟨⟨xs, ρ2⟩, e2, e⟩ := Option.map_eq_some_iff.mp e
    cases e
    unfold Rep at r1
    obtain ⟨a, ys, rfl, h1, h2⟩ := r1
    exact ⟨a, ys, rfl, .inl (SqT_mono R1.sub h1), tAOf_of R1 e2 fun vs H2 F2 R2 s2 r2 => k _ H2 F2 R2 (s1.trans s2) ((Reps.mono s2 _ _ h2).append r2)⟩
  · cases e
def mTup (ms : MA) : ME := fun ρ => (ms ρ).bind fun p => if p.1.length ≤ line then some (.val (.tup p.1), p.2) else none
def mLst (ms : MA) : ME := fun ρ => (ms ρ).bind fun p => if p.1.length ≤ line then some (.own (.lst p.1), p.2) else none
theorem em_tup {es : List Expr} {x1} {pos : Pos} {ms : MA} (h : Am X es ms) : Em X (.Tuple es x1 pos) (mTup ms) := PE_imp (pe_tup h) fun σ H Q ⟨F0, Z, B, F, ρ, dv, ρ', R, e, k⟩ => by
  obtain ⟨⟨ds, ρ1⟩, e1, e⟩ := Option.bind_eq_some_iff.mp e
  obtain ⟨hl, e⟩ := ite_some e
  cases e
  refine tAOf_of R e1 fun vs H1 F1 R1 s1 r1 => ⟨by rw [r1.length, ← line_eq]; exact hl, fun p hp => ?_⟩
  obtain ⟨R2, s2, r2⟩ := new_tup R1 hp r1
  exact k _ _ _ R2 (s1.trans s2) r2
theorem em_lst {es : List Expr} {pos : Pos} {ms : MA} (h : Am X es ms) : Em X (.List es pos) (mLst ms) := PE_imp (pe_lst h) fun σ H Q ⟨F0, Z, B, F, ρ, dv, ρ', R, e, k⟩ => by
  obtain ⟨⟨ds, ρ1⟩, e1, e⟩ := Option.bind_eq_some_iff.mp e
  obtain ⟨hl, e⟩ := ite_some e
  cases e
  refine tAOf_of R e1 fun vs H1 F1 R1 s1 r1 => ⟨by rw [r1.length, ← line_eq]; exact hl, fun p hp => ?_⟩
  obtain ⟨R2, r2⟩ := new_lst R1 hp r1
  exact k _ _ _ R2 s1 r2
/-! ### subscripts -/
def dIx : D → D → Option D
  | .tup ds, .int i => atI ds i
  | .lst ds, .int i => atI ds i
  | .scr ns, .int i => (atI ns i).map .int
  | .str z, .int i => if z.length ≤ line then (atI z.cps.toList i).map fun c => .str ⟨#[c]⟩ else none
  | _, _ => none
def dIxV (x y : D) : Option DV := (dIx x y).map .val
theorem Reps.atI {K : PySem.W.Frag} {F : Hp} {ds : List D} {xs : List V} {i : Int} {d : D} (r : Reps K F ds xs) (e : L2.atI ds i = some d) : ∃ x, L2.atI xs i = some x ∧ Rep K F d x := by
  unfold L2.atI at e ⊢
  rw [r.length]
  obtain ⟨j, e1, e2⟩ := Option.bind_eq_some_iff.mp e
  obtain ⟨x, h1, h2⟩ := r.get e2
  exact ⟨x, by rw [e1]; exact h1, h2⟩
theorem atI_map {α β : Type} {f : α → β} {xs : List α} {i : Int} {x : α} (e : L2.atI xs i = some x) : L2.atI (xs.map f) i = some (f x) := by
  unfold L2.atI at e ⊢
  obtain ⟨j, e1, e2⟩ := Option.bind_eq_some_iff.mp e
  rw [List.length_map, e1]
  show (xs.map f)[j]? = _
  rw [List.getElem?_map, e2]; rfl
/-- what an owned or frozen thing at v gives at an index -/
theorem ix_of {K : PySem.W.Frag} {H F : Hp} {x y d : D} {v u : V} {Q : VK} (s : Same F H) (rx : Rep K F x v ∨ ∃ a, v = .ref a ∧ OwnRep K H F a x) (ry : Rep K F y u) (e : dIx x y = some d) (k : ∀ w, Rep K F d w → Q w H) : rIx K v u H Q := by
  cases y <;> try (cases x <;> cases e; done)
  rename_i i
  unfold Rep at ry; subst ry
  cases x <;> try (cases e; done)
  · rename_i z
    have e' : (if z.length ≤ line then (L2.atI z.cps.toList i).map fun c => D.str ⟨#[c]⟩ else none) = some d := e
    have hl : z.length ≤ line := by
      by_cases hl : z.length ≤ line
      · exact hl
      · rw [if_neg hl] at e'; cases e'
    rw [if_pos hl] at e'
    clear e
    have e := e'
    rcases rx with rx | ⟨a, _, rx⟩
    · unfold Rep at rx; subst rx
      obtain ⟨c, e1, e2⟩ := Option.map_eq_some_iff.mp e
      subst e2
      exact .inr (.inr ⟨_, i, c, rfl, rfl, by rw [← line_eq]; exact hl, e1, k _ (by unfold Rep; rfl)⟩)
    · exact rx.elim
  · rcases rx with rx | ⟨a, _, rx⟩
    · unfold Rep at rx
      obtain ⟨a, xs, rfl, h1, h2⟩ := rx
      obtain ⟨w, e1, r1⟩ := h2.atI e
      exact .inr (.inl ⟨a, xs, i, w, rfl, rfl, SqT_mono s h1, e1, k w r1⟩)
    · exact rx.elim
  · rename_i ds
    have : ∃ a xs, v = .ref a ∧ H a = some (.lst xs) ∧ Reps K F ds xs := by
      rcases rx with rx | ⟨a, ea, rx⟩
      · unfold Rep at rx
        obtain ⟨a, xs, rfl, h1, h2⟩ := rx
        exact ⟨a, xs, rfl, s _ _ h1, h2⟩
      · obtain ⟨xs, h1, h2⟩ := rx
        exact ⟨a, xs, ea, h1, h2⟩
    obtain ⟨a, xs, rfl, h1, h2⟩ := this
    obtain ⟨w, e1, r1⟩ := h2.atI e
    exact .inl ⟨a, xs, i, w, rfl, rfl, .of h1, e1, k w r1⟩
  · rcases rx with rx | ⟨a, _, rx⟩
    · unfold Rep at rx
      obtain ⟨a, rfl, h1⟩ := rx
      obtain ⟨n, e1, e2⟩ := Option.map_eq_some_iff.mp (show (L2.atI _ i).map D.int = some d from e)
      subst e2
      exact .inl ⟨a, _, i, .int n, rfl, rfl, s.seq h1, atI_map e1, k _ (by unfold Rep; rfl)⟩
    · exact rx.elim
theorem os_ix {K : PySem.W.Frag} : OpS K (rIx K) dIxV := fun F0 Z B σ H F ρ x y v u dv Q R rx ry e k => by
  obtain ⟨d, e1, e2⟩ := Option.map_eq_some_iff.mp e
  subst e2
  exact ix_of R.sub (.inl rx) ry e1 fun w r => k w H F R (Same.refl _) r
theorem em_ix {a b : Expr} {pos : Pos} {ma mb : ME} (ha : Em X a ma) (hb : Em X b mb) (hs : PlainIx b := by intro _ _; rfl) : Em X (.Subscript a b pos) (m2 dIxV ma mb) :=
  PE_imp (pe_ix ix_seq ha.fz hb.fz hs) fun σ H Q h => run2 (a := a) (b := b) os_ix h
/-- .. of a name, which stays as it is -/
def peek (ρ : En) (i : Nat) : Option D := match ρ[i]? with
  | some (some dv) => some dv.get
  | _ => none
theorem peek_ok {K : PySem.W.Frag} {F0 Z : Hp} {B : Nat → Addr} {σ : L2.St} {H F : Hp} {ρ : En} {i : Nat} {d : D} (R : Rel K F0 Z B σ H F ρ) (e : peek ρ i = some d) : ∃ v, σ[i]? = some (some v) ∧ (Rep K F d v ∨ ∃ a, v = .ref a ∧ OwnRep K H F a d) := by
  unfold peek at e
  split at e
  · rename_i dv e1
    cases e
    obtain ⟨v, e2, s⟩ := R.slot i dv e1
    refine ⟨v, e2, ?_⟩
    cases dv with
    | val d => exact .inl s
    | own d => obtain ⟨a, ea, _, _, h⟩ := s; exact .inr ⟨a, ea, h⟩
    | bor d => obtain ⟨ea, _, _, h⟩ := s; exact .inr ⟨_, ea, h⟩
  · cases e
def mIxS (i : Nat) (mb : ME) : ME := fun ρ => (peek ρ i).bind fun _ => (fz mb ρ).bind fun q => (peek q.2 i).bind fun x => (dIx x q.1).map fun d => (.val d, q.2)
theorem em_ixS {i : Nat} {x : Str} {b : Expr} {px pos : Pos} {mb : ME} (ha : PE X (.Name x px) (tVar i)) (hb : Em X b mb) (hs : PlainIx b := by intro _ _; rfl) : Em X (.Subscript (.Name x px) b pos) (mIxS i mb) :=
  PE_imp (pe_ix ix_seq ha hb.fz hs) fun σ H Q ⟨F0, Z, B, F, ρ, dv, ρ', R, e, k⟩ => by
    obtain ⟨x0, e0, e⟩ := Option.bind_eq_some_iff.mp e
    obtain ⟨⟨y, ρ1⟩, e1, e⟩ := Option.bind_eq_some_iff.mp e
    obtain ⟨x, e2, e⟩ := Option.bind_eq_some_iff.mp e
    obtain ⟨d, e3, e⟩ := Option.map_eq_some_iff.mp e
    cases e
    obtain ⟨v, ev, _⟩ := peek_ok R e0
    refine ⟨v, ev, tOfV_of R e1 fun u H1 F1 R1 s1 r1 => ?_⟩
    obtain ⟨w, ew, rw'⟩ := peek_ok R1 e2
    rw [ev] at ew
    have : v = w := Option.some.inj (Option.some.inj ew)
    subst this
    exact ix_of R1.sub rw' r1 e3 fun z r => k z H1 F1 R1 s1 r
end
end Cb

set_option Elab.async false
set_option linter.all false
set_option maxRecDepth 100000
/-! Rules: slices, built-ins. -/
namespace Cb
open PySem PySem.Spec PyProof.Rows L2
section
variable {X : Cx}
/-! ### slices -/
abbrev MP := En → Option (Option Int × En)
def tPOf (K : PySem.W.Frag) (m : MP) : TO := fun σ H Q => ∃ F0 Z B F ρ o ρ', Rel K F0 Z B σ H F ρ ∧ m ρ = some (o, ρ') ∧ ∀ H' F', Rel K F0 Z B σ H' F' ρ' → Same F F' → Q o H'
abbrev Po (X : Cx) (e : Option Expr) (m : MP) : Prop := PO X e (tPOf X.K m)
def pNone : MP := fun ρ => some (none, ρ)
def pSome (m : ME) : MP := fun ρ => (fz m ρ).bind fun p => match p.1 with
  | .int i => some (some i, p.2)
  | _ => none
theorem PO_imp {e : Option Expr} {t t' : TO} (h : PO X e t) (i : ∀ σ H Q, t' σ H Q → t σ H Q) : PO X e t' := ⟨fun pins s σ H Q I q => h.run pins s σ H Q I (i _ _ _ q)⟩
theorem pm_none : Po X none pNone := PO_imp po_none fun σ H Q ⟨F0, Z, B, F, ρ, o, ρ', R, e, k⟩ => by
  cases e
  exact k H F R (Same.refl _)
theorem pm_some {e : Expr} {m : ME} (h : Em X e m) : Po X (some e) (pSome m) := PO_imp (po_some h.fz) fun σ H Q ⟨F0, Z, B, F, ρ, o, ρ', R, e, k⟩ => by
  obtain ⟨⟨d, ρ1⟩, e1, e⟩ := Option.bind_eq_some_iff.mp e
  refine tOfV_of R e1 fun v H' F' R' s r => ?_
  split at e
  · rename_i i hd
    cases (show d = .int i from hd)
    unfold Rep at r
    cases e
    exact ⟨i, r, k H' F' R' s⟩
  · cases e
def cutL {α : Type} (xs : List α) (lo hi : Option Int) : List α := (xs.drop (HT.sIx xs.length 0 lo)).take (HT.sIx xs.length xs.length hi - HT.sIx xs.length 0 lo)
theorem Reps.cut {K : PySem.W.Frag} {F : Hp} {ds : List D} {xs : List V} (r : Reps K F ds xs) (lo hi : Option Int) : Reps K F (cutL ds lo hi) (cutV xs lo hi) := by
  unfold cutL cutV
  rw [r.length]
  exact (r.drop _).take _
theorem cutL_all {α : Type} (xs : List α) (lo hi : Option Int) (h1 : HT.sIx xs.length 0 lo = 0) (h2 : HT.sIx xs.length xs.length hi = xs.length) : cutL xs lo hi = xs := by
  unfold cutL
  rw [h1, h2]; simp
theorem cutL_map {α β : Type} (f : α → β) (xs : List α) (lo hi : Option Int) : cutL (xs.map f) lo hi = (cutL xs lo hi).map f := by
  unfold cutL
  simp [List.map_take, List.map_drop]
def dSl : D → Option Int → Option Int → Option DV
  | .lst ds, lo, hi => some (.own (.lst (cutL ds lo hi)))
  | .tup ds, lo, hi => some (.val (.tup (cutL ds lo hi)))
  | .scr ns, lo, hi => some (.own (.lst ((cutL ns lo hi).map .int)))
  | .str z, lo, hi => if z.length ≤ line then some (.val (.str (cutS z lo hi))) else none
  | _, _, _ => none
def mSl (ma : ME) (ml mh : MP) : ME := fun ρ => (fz ma ρ).bind fun p => (ml p.2).bind fun l => (mh l.2).bind fun h => (dSl p.1 l.1 h.1).map fun dv => (dv, h.2)
def rSlAll (K : PySem.W.Frag) : V → Option Int → Option Int → Hp → VK → Prop := fun x lo hi H Q => rSlL K x lo hi H Q ∨ rSlA K x lo hi H Q ∨ rSlS x lo hi H Q
theorem sl_all : SlR X (rSlAll X.K) := sl_list.or (sl_tupA.or sl_str)
theorem em_slice {a : Expr} {lo hi : Option Expr} {pos p2 : Pos} {ma : ME} {ml mh : MP} (ha : Em X a ma) (hl : Po X lo ml) (hh : Po X hi mh) : Em X (.Subscript a (.Slice lo hi none p2) pos) (mSl ma ml mh) :=
  PE_imp (pe_slice sl_all ha.fz hl hh) fun σ H Q ⟨F0, Z, B, F, ρ, dv, ρ', R, e, k⟩ => by
    obtain ⟨⟨x, ρ1⟩, e1, e⟩ := Option.bind_eq_some_iff.mp e
    obtain ⟨⟨l, ρ2⟩, e2, e⟩ := Option.bind_eq_some_iff.mp e
    obtain ⟨⟨h, ρ3⟩, e3, e⟩ := Option.bind_eq_some_iff.mp e
    obtain ⟨w, e4, e⟩ := Option.map_eq_some_iff.mp e
    cases e
    refine tOfV_of R e1 fun v H1 F1 R1 s1 r1 => ⟨F0, Z, B, F1, ρ1, l, ρ2, R1, e2, fun H2 F2 R2 s2 => ⟨F0, Z, B, F2, ρ2, h, ρ3, R2, e3, fun H3 F3 R3 s3 => ?_⟩⟩
    clear e
    have r3 := Rep.mono (s2.trans s3) _ _ r1
    have s13 : Same F F3 := s1.trans (s2.trans s3)
    cases x with
    | str z =>
      obtain ⟨hz, rfl⟩ := ite_some (show (if z.length ≤ line then some (DV.val (.str (cutS z l h))) else none) = some dv from e4)
      unfold Rep at r3; subst r3
      exact .inr (.inr ⟨z, rfl, by rw [← line_eq]; exact hz, k _ H3 F3 R3 s13 (by show Rep X.K F3 _ _; unfold Rep; rfl)⟩)
    | tup ds =>
      cases e4
      unfold Rep at r3
      obtain ⟨a, xs, rfl, h1, h2⟩ := r3
      refine .inr (.inl ⟨a, xs, rfl, SqT_mono R3.sub h1, fun hw => ?_, fun hw p hp => ?_⟩)
      · refine k _ H3 F3 R3 s13 ?_
        rw [h2.length] at hw
        rw [cutL_all ds l h hw.1 hw.2]
        show Rep X.K F3 _ _
        unfold Rep
        exact ⟨a, xs, rfl, h1, h2⟩
      · obtain ⟨R4, s4, r4⟩ := new_tup R3 hp (h2.cut l h)
        exact k _ _ _ R4 (s13.trans s4) r4
    | lst ds =>
      cases e4
      unfold Rep at r3
      obtain ⟨a, xs, rfl, h1, h2⟩ := r3
      refine .inl ⟨a, xs, rfl, .of (R3.sub _ _ h1), fun p hp => ?_⟩
      obtain ⟨R4, r4⟩ := new_lst R3 hp (h2.cut l h)
      exact k _ _ _ R4 s13 r4
    | scr ns =>
      cases e4
      unfold Rep at r3
      obtain ⟨a, rfl, h1⟩ := r3
      refine .inl ⟨a, _, rfl, R3.sub.seq h1, fun p hp => ?_⟩
      have : cutV (ns.map V.int) l h = (cutL ns l h).map V.int := by
        have := cutL_map V.int ns l h
        exact this
      rw [this]
      have hr : Reps X.K F3 ((cutL ns l h).map .int) ((cutL ns l h).map V.int) := by
        generalize cutL ns l h = zs
        induction zs with
        | nil => exact .nil
        | cons z zs ih => exact .cons (by unfold Rep; rfl) ih
      obtain ⟨R4, r4⟩ := new_lst R3 hp hr
      exact k _ _ _ R4 s13 r4
    | _ => cases e4

/-! ### xs[lo:hi:step] of a list -/
def pickG {α : Type} (xs : List α) (lo hi st : Option Int) : List α := (sliceRange (sliceBounds lo hi st xs.length).1 (sliceBounds lo hi st xs.length).2.1 (sliceBounds lo hi st xs.length).2.2).filterMap (xs[·]?)
theorem slicePick_pickG (its : List Value) (lo hi st : Option Int) : slicePick its.toArray lo hi st = (pickG its lo hi st).toArray := by
  unfold slicePick pickG
  simp
theorem Vals.pick {xs : List V} {us : List Value} (r : Vals xs us) : ∀ is : List Nat, Vals (is.filterMap (xs[·]?)) (is.filterMap (us[·]?))
  | [] => .nil
  | i :: is => by
    rw [List.filterMap_cons, List.filterMap_cons]
    cases e : xs[i]? with
    | none =>
      rw [r.none_of e]
      exact Vals.pick r is
    | some x =>
      obtain ⟨u, hu, ru⟩ := r.get e
      rw [hu]
      exact .cons ru (Vals.pick r is)
theorem Vals.pickG {xs : List V} {us : List Value} (r : Vals xs us) (lo hi st : Option Int) : Vals (Cb.pickG xs lo hi st) (Cb.pickG us lo hi st) := by
  unfold Cb.pickG
  rw [r.length]
  exact Vals.pick r _
theorem Reps.pick {K : PySem.W.Frag} {F : Hp} {ds : List D} {xs : List V} (r : Reps K F ds xs) : ∀ is : List Nat, Reps K F (is.filterMap (ds[·]?)) (is.filterMap (xs[·]?))
  | [] => .nil
  | i :: is => by
    rw [List.filterMap_cons, List.filterMap_cons]
    cases e : ds[i]? with
    | none =>
      have h1 : ds.length ≤ i := List.getElem?_eq_none_iff.mp e
      rw [List.getElem?_eq_none (by rw [r.length]; exact h1)]
      exact Reps.pick r is
    | some x =>
      obtain ⟨u, hu, ru⟩ := r.get e
      rw [hu]
      exact .cons ru (Reps.pick r is)
theorem Reps.pickG {K : PySem.W.Frag} {F : Hp} {ds : List D} {xs : List V} (r : Reps K F ds xs) (lo hi st : Option Int) : Reps K F (Cb.pickG ds lo hi st) (Cb.pickG xs lo hi st) := by
  unfold Cb.pickG
  rw [r.length]
  exact Reps.pick r _
def tSl3 (K : PySem.W.Frag) (te : TE) (tl th ts : TO) : TE := fun σ H Q => te σ H fun x H1 => tl σ H1 fun l H2 => th σ H2 fun u H3 => ts σ H3 fun st H4 => ∃ a xs, x = .ref a ∧ SqL K H4 a xs ∧ st ≠ some 0 ∧ ∀ p, H4 p = none → Q (.ref p) (upd H4 p (.lst (pickG xs l u st)))
theorem pe_sl3 {e : Expr} {lo hi : Option Expr} {st : Expr} {te : TE} {tl th ts : TO} {p2 pos : Pos} (he : PE X e te) (hl : PO X lo tl) (hu : PO X hi th) (hs : PO X (some st) ts) : PE X (.Subscript e (.Slice lo hi (some st) p2) pos) (tSl3 X.K te tl th ts) := by
  refine ⟨fun pins s σ H Q I h => ?_⟩
  refine Subscript_ (thn (he.run pins s σ H _ I h) fun v s1 ⟨x, H1, I1, r1, q1⟩ => ?_)
  refine wpAny_Slice (thn (hl.run pins s1 σ H1 _ I1 q1) fun vl s2 ⟨l, H2, I2, pl, q2⟩ => thn (hu.run pins s2 σ H2 _ I2 q2) fun vu s3 ⟨u, H3, I3, pu, q3⟩ => thn (hs.run pins s3 σ H3 _ I3 q3) fun vs s4 ⟨o, H4, I4, ps, a, xs, ex, hx, h0, q⟩ => ?_)
  subst ex
  cases r1
  have I5 : Inv X pins σ H4 { s4 with heap := s4.heap.push { cls := .type "slice", data := .fields #[vl, vu, vs] } } := I4.kept (t' := s4.toks) fun b ob q => Heap.get?_push_of_some _ q
  obtain ⟨its, r, ht, hz⟩ := I5.list hx
  have hlen := r.length
  show wpAny (model X.prog X.w) X.A (subscriptTail e (.Slice lo hi (some st) p2) (.ref a) (.ref s4.heap.objs.size)) (EP X pins σ Q) X.xe { s4 with heap := s4.heap.push { cls := .type "slice", data := .fields #[vl, vu, vs] } }
  refine tail_any (ops := [.ref a, .ref s4.heap.objs.size]) ht.isList.typeIs (PySem.slot_list_getitem.lookup) ?_ (by with_unfolding_all rfl)
  refine wpAny_getItem_list_slice ht.isList (Heap.IsSliceOf.new _ vl vu vs) pl pu ps h0 ?_ (by rw [List.size_toArray]; omega)
  have hsz := slicePick_size_le its.toArray l u o
  rw [slicePick_pickG] at hsz ⊢
  refine ⟨.ref _, _, I5.laid (t' := s4.toks) (o := .lst (pickG xs l u o)) (fun b ob q => Heap.get?_push_of_some _ q) (Nat.le_refl _) ?_, rfl, q _ (I5.hok.fresh (Nat.le_refl _))⟩
  have rv := Vals.pickG r l u o
  refine ⟨?_, _, 0, rv, Heap.get?_push_size _ rfl⟩
  rw [rv.length]
  simp only [List.size_toArray] at hsz
  omega
def mSl3 (ma : ME) (ml mh ms : MP) : ME := fun ρ => (fz ma ρ).bind fun p => (ml p.2).bind fun l => (mh l.2).bind fun h => (ms h.2).bind fun s => match p.1 with
  | .lst ds => if s.1 ≠ some 0 then some (.own (.lst (pickG ds l.1 h.1 s.1)), s.2) else none
  | _ => none
theorem em_sl3 {a : Expr} {lo hi : Option Expr} {st : Expr} {pos p2 : Pos} {ma : ME} {ml mh ms : MP} (ha : Em X a ma) (hl : Po X lo ml) (hh : Po X hi mh) (hs : Po X (some st) ms) : Em X (.Subscript a (.Slice lo hi (some st) p2) pos) (mSl3 ma ml mh ms) :=
  PE_imp (pe_sl3 ha.fz hl hh hs) fun σ H Q ⟨F0, Z, B, F, ρ, dv, ρ', R, e, k⟩ => by
    obtain ⟨⟨x, ρ1⟩, e1, e⟩ := Option.bind_eq_some_iff.mp e
    obtain ⟨⟨l, ρ2⟩, e2, e⟩ := Option.bind_eq_some_iff.mp e
    obtain ⟨⟨h, ρ3⟩, e3, e⟩ := Option.bind_eq_some_iff.mp e
    obtain ⟨⟨o, ρ4⟩, e4, e⟩ := Option.bind_eq_some_iff.mp e
    refine tOfV_of R e1 fun v H1 F1 R1 s1 r1 => ⟨F0, Z, B, F1, ρ1, l, ρ2, R1, e2, fun H2 F2 R2 s2 => ⟨F0, Z, B, F2, ρ2, h, ρ3, R2, e3, fun H3 F3 R3 s3 => ⟨F0, Z, B, F3, ρ3, o, ρ4, R3, e4, fun H4 F4 R4 s4 => ?_⟩⟩⟩
    cases x with
    | lst ds =>
      obtain ⟨h0, e5⟩ := ite_some (show (if o ≠ some 0 then some (DV.own (.lst (pickG ds l h o)), ρ4) else none) = some (dv, ρ') from e)
      cases e5
      have r4 := Rep.mono (s2.trans (s3.trans s4)) _ _ r1
      unfold Rep at r4
      obtain ⟨b, xs, rfl, q1, q2⟩ := r4
      refine ⟨b, xs, rfl, .of (R4.sub _ _ q1), h0, fun p hp => ?_⟩
      obtain ⟨R5, r5⟩ := new_lst R4 hp (q2.pickG l h o)
      exact k _ _ _ R5 (s1.trans (s2.trans (s3.trans s4))) r5
    | _ => cases e
/-! ### t[::-1] of a tuple -/
theorem getItem_tuple_rev {prog : Program} {w : World} {A : Around} {E : Value → Shared → Prop} {s : Shared} {t sl : Addr} {items : List Value} {u : Tok} {Q : Value → Shared → Prop} (ht : IsTup s.heap t items.toArray) (hs : s.heap.IsSliceOf sl .none .none (.int (-1) u))
    (h : Q (.ref s.heap.objs.size) { s with heap := s.heap.push { cls := .type "tuple", data := .seq items.reverse.toArray } }) (hsz : items.length ≤ sizeLine) : wpAny (model prog w) A (getItem (.ref t) (.ref sl)) Q E s := by
  obtain ⟨os, hos, hcs, hds⟩ := id hs
  have hTs : s.TypeIs (.ref sl) "slice" := ⟨os, hos, hcs⟩
  unfold getItem
  try with_reducible refine wpAny_holding ?_
  first | refine wpAny_bind (wpAny_pure ?_) | skip
  refine wpAny_bind (wpAny_sequenceKey ht.typeIs (by decide) ?_)
  refine wpAny_bind (wpAny_callSpecial?_slot (name := Str.ofString "__getitem__") ht.typeIs PyProof.Rows.slot_tuple_getitem
    (wpAny_call_entry PyProof.Rows.slot_tuple_getitem ht.typeIs entry_tuple_getitem ?_ (args_tuple_getitem _ _)))
  show wpAny _ _ (Builtin.Tuple.tupleItemsOf (.ref t) >>= _) _ _ s
  refine wpAny_bind (PyProof.Rows.tupleItemsOf_ ht ?_)
  refine wpAny_bind (wpAny_typeOf hTs ?_)
  rw [if_pos (by decide)]
  refine wpAny_bind ?_
  unfold Builtin.Slice.sliceApplied Builtin.Slice.sliceFields
  refine wpAny_bind (wpAny_bind (wpAny_field hos hds (x := .none) rfl (wpAny_bind (wpAny_field hos hds (x := .none) rfl (wpAny_bind (wpAny_field hos hds (x := .int (-1) u) rfl (wpAny_pure ?_)))))))
  refine wpAny_bind (slicePart_int ?_)
  show wpAny _ _ (if ((-1 : Int) == 0) = true then _ else _) _ _ s
  rw [if_neg (by decide)]
  refine wpAny_bind (slicePart_none (wpAny_bind (slicePart_none (wpAny_bind (wpAny_pure ?_)))))
  show wpAny _ _ (match Builtin.Slice.sliceAdjust none none (-1) (items.toArray.size : Int) with | (lo, hi) => pure (lo, (-1 : Int), Builtin.Slice.slicePlaces lo hi (-1))) _ _ s
  have e1 : Builtin.Slice.sliceAdjust none none (-1) (items.toArray.size : Int) = ((items.length : Int) - 1, -1) := by
    unfold Builtin.Slice.sliceAdjust
    simp
  rw [e1]
  have e2 : Builtin.Slice.slicePlaces ((items.length : Int) - 1) (-1) (-1) = items.length := by
    unfold Builtin.Slice.slicePlaces
    simp
    omega
  show wpAny _ _ (pure ((items.length : Int) - 1, (-1 : Int), Builtin.Slice.slicePlaces ((items.length : Int) - 1) (-1) (-1))) _ _ s
  rw [e2]
  refine wpAny_pure ?_
  show wpAny _ _ (if (((items.length : Int) - 1) == 0 && (-1 : Int) == 1 && items.length == items.toArray.size) = true then _ else _) _ _ s
  rw [if_neg (by simp)]
  have e3 : ((List.range items.length).filterMap fun (m : Nat) => items.toArray[(((items.length : Int) - 1) + (m : Int) * (-1)).toNat]?).toArray = items.reverse.toArray := by
    congr 1
    refine List.ext_getElem? fun i => ?_
    have key : ∀ (n : Nat) (xs : List Value) (hn : n ≤ xs.length), (List.range n).filterMap (fun (m : Nat) => xs.toArray[(((xs.length : Int) - 1) + (m : Int) * (-1)).toNat]?) = (xs.reverse).take n := by
      intro n xs
      induction n with
      | zero => intro _; simp
      | succ n ih =>
        intro hn
        rw [List.range_succ, List.filterMap_append, ih (by omega)]
        have e4 : (((xs.length : Int) - 1) + (n : Int) * (-1)).toNat = xs.length - 1 - n := by omega
        have hl : xs.length - 1 - n < xs.length := by omega
        simp only [List.filterMap_cons, List.filterMap_nil, e4]
        have e5 : xs.toArray[xs.length - 1 - n]? = some xs[xs.length - 1 - n] := by simp [hl]
        rw [e5]
        rw [List.take_succ]
        congr 1
        rw [List.getElem?_reverse (by omega)]
        simp [hl]
    rw [key items.length items (Nat.le_refl _)]
    rw [List.take_of_length_le (by simp)]
  rw [e3]
  have hsz' : sizeOk (.seq items.reverse.toArray) := by
    show items.reverse.toArray.size ≤ sizeLine
    simpa using hsz
  first
    | exact wpAny_bind (m := Builtin.Tuple.tupleExact _) (wpAny_newObj_type (wpAny_pure ⟨_, rfl, wpAny_pure h⟩) hsz')
    | exact wpAny_bind (m := Builtin.Tuple.tupleExact _) (wpAny_newObj_type (wpAny_bind (wpAny_pure (wpAny_pure ⟨_, rfl, wpAny_pure h⟩))) hsz')
    | exact wpAny_bind (wpAny_bind (m := Builtin.Tuple.tupleExact _) (wpAny_newObj_type (wpAny_pure (wpAny_pure ⟨_, rfl, wpAny_pure h⟩)) hsz'))
    | exact wpAny_bind (wpAny_bind (m := Builtin.Tuple.tupleExact _) (wpAny_newObj_type (wpAny_pure ⟨_, rfl, wpAny_pure h⟩) hsz'))
theorem Vals.reverse : ∀ {xs : List V} {us : List Value}, Vals xs us → Vals xs.reverse us.reverse
  | _, _, .nil => .nil
  | _, _, .cons r t => by
    rw [List.reverse_cons, List.reverse_cons]
    exact (Vals.reverse t).append (.cons r .nil)
def tRevT (K : PySem.W.Frag) (te : TE) : TE := fun σ H Q => te σ H fun x H1 => ∃ a xs, x = .ref a ∧ SqT K H1 a xs ∧ ∀ p, H1 p = none → Q (.ref p) (upd H1 p (.tup xs.reverse))
theorem pe_revT {e : Expr} {te : TE} {k : Nat} {p1 p2 p3 pos : Pos} (he : PE X e te) : PE X (.Subscript e (.Slice none none (some (.UnaryOp .USub (.Constant (.int 1) k p1) p2)) p3) pos) (tRevT X.K te) := by
  refine ⟨fun pins s σ H Q I h => ?_⟩
  refine Subscript_ (thn (he.run pins s σ H _ I h) fun v s1 ⟨x, H1, I1, r1, q1⟩ => ?_)
  obtain ⟨a, xs, ex, hx, q⟩ := q1
  subst ex
  cases r1
  have hst : PO X (some (.UnaryOp .USub (.Constant (.int 1) k p1) p2)) (tPart (tUn (rU fun i => .int (-i)) (tC (.int 1)))) := po_some (pe_un un_neg pe_int)
  refine wpAny_Slice (thn (po_none.run pins s1 σ H1 (fun o H2 => o = none ∧ H2 = H1) I1 ⟨rfl, rfl⟩) fun vl s2 ⟨l, H2, I2, pl, el, e2⟩ => ?_)
  subst el e2
  refine thn (po_none.run pins s2 σ H2 (fun o H3 => o = none ∧ H3 = H2) I2 ⟨rfl, rfl⟩) fun vu s3 ⟨u, H3, I3, pu, eu, e3⟩ => ?_
  subst eu e3
  refine thn (hst.run pins s3 σ H3 (fun o H4 => o = some (-1) ∧ H4 = H3) I3 ⟨1, rfl, -1, rfl, rfl, rfl⟩) fun vs s4 ⟨o, H4, I4, ps, eo, e4⟩ => ?_
  subst eo e4
  have evl : vl = .none := by cases pl; rfl
  have evu : vu = .none := by cases pu; rfl
  obtain ⟨tk, evs⟩ : ∃ tk, vs = Value.int (-1) tk := by cases ps; exact ⟨_, rfl⟩
  subst evl evu evs
  have I5 : Inv X pins σ H4 { s4 with heap := s4.heap.push { cls := .type "slice", data := .fields #[.none, .none, .int (-1) tk] } } := I4.kept (t' := s4.toks) fun b ob q => Heap.get?_push_of_some _ q
  obtain ⟨its, r, ht, hz⟩ := I5.tuple hx
  have hlen := r.length
  show wpAny (model X.prog X.w) X.A (subscriptTail e (.Slice none none (some (.UnaryOp .USub (.Constant (.int 1) k p1) p2)) p3) (.ref a) (.ref s4.heap.objs.size)) (EP X pins σ Q) X.xe { s4 with heap := s4.heap.push { cls := .type "slice", data := .fields #[.none, .none, .int (-1) tk] } }
  refine tail_any (ops := [.ref a, .ref s4.heap.objs.size]) ht.typeIs (PyProof.Rows.slot_tuple_getitem.lookup) ?_ (by with_unfolding_all rfl)
  refine getItem_tuple_rev ht (Heap.IsSliceOf.new _ .none .none (.int (-1) tk)) ?_ (by omega)
  refine ⟨.ref _, _, I5.laid (t' := s4.toks) (o := .tup xs.reverse) (fun b ob q => Heap.get?_push_of_some _ q) (Nat.le_refl _) ?_, rfl, q _ (I5.hok.fresh (Nat.le_refl _))⟩
  exact ⟨by rw [List.length_reverse]; exact hz, _, Vals.reverse r, IsTup.new _ _⟩
def mRevT (ma : ME) : ME := fun ρ => (fz ma ρ).bind fun p => match p.1 with
  | .tup ds => some (.val (.tup ds.reverse), p.2)
  | _ => none
theorem em_revT {e : Expr} {k : Nat} {p1 p2 p3 pos : Pos} {ma : ME} (ha : Em X e ma) : Em X (.Subscript e (.Slice none none (some (.UnaryOp .USub (.Constant (.int 1) k p1) p2)) p3) pos) (mRevT ma) :=
  PE_imp (pe_revT ha.fz) fun σ H Q ⟨F0, Z, B, F, ρ, dv, ρ', R, e, kk⟩ => by
    obtain ⟨⟨x, ρ1⟩, e1, e⟩ := Option.bind_eq_some_iff.mp e
    refine tOfV_of R e1 fun v H1 F1 R1 s1 r1 => ?_
    split at e
    · rename_i ds hd
      cases (show x = .tup ds from hd)
      cases e
      unfold Rep at r1
      obtain ⟨b, xs, rfl, q1, q2⟩ := r1
      refine ⟨b, xs, rfl, SqT_mono R1.sub q1, fun p hp => ?_⟩
      obtain ⟨R5, s5, r5⟩ := new_tup R1 hp q2.reverse
      exact kk _ _ _ R5 (s1.trans s5) r5
    · cases e
end
end Cb

set_option Elab.async false
set_option linter.all false
set_option maxRecDepth 100000
/-! Rules: built-in calls. -/
namespace Cb
open PySem PySem.Spec PyProof.Rows L2
section
variable {X : Cx}
def CallS (K : PySem.W.Frag) (r : List V → Hp → VK → Prop) (f : List D → Option DV) : Prop := ∀ (F0 Z : Hp) (B : Nat → Addr) (σ : L2.St) (H F : Hp) (ρ : En) (ds : List D) (vs : List V) (dv : DV) (Q : VK), Rel K F0 Z B σ H F ρ → Reps K F ds vs → f ds = some dv →
  (∀ w H' F', Rel K F0 Z B σ H' F' ρ → Same F F' → ResOk K Z σ ρ H' F' w dv → Q w H') → r vs H Q
def mB (f : List D → Option DV) (ms : MA) : ME := fun ρ => (ms ρ).bind fun p => (f p.1).map fun dv => (dv, p.2)
theorem runB {K : PySem.W.Frag} {r : List V → Hp → VK → Prop} {f : List D → Option DV} {ms : MA} (cs : CallS K r f) {σ : L2.St} {H : Hp} {Q : VK} (h : tOf K (mB f ms) σ H Q) : tCB r (tAOf K ms) σ H Q := by
  obtain ⟨F0, Z, B, F, ρ, dv, ρ', R, e, k⟩ := h
  obtain ⟨⟨ds, ρ1⟩, e1, e2⟩ := Option.bind_eq_some_iff.mp e
  obtain ⟨w, e3, e4⟩ := Option.map_eq_some_iff.mp e2
  cases e4
  exact tAOf_of R e1 fun vs H1 F1 R1 s1 r1 => cs F0 Z B σ H1 F1 ρ1 ds vs dv Q R1 r1 e3 fun w H' F' R' s' rr => k w H' F' R' (s1.trans s') rr
theorem em_callB {x : Str} {p pos : Pos} {e : Expr} {es : List Expr} {ms : MA} {id : String} {r : List V → Hp → VK → Prop} {f : List D → Option DV} (hc : CallR X (.builtin id) r) (cs : CallS X.K r f) (hg : Gl X x) (hm : X.mg x = none) (hv : bootBuiltins x = some (.builtin id)) (ha : Am X (e :: es) ms)
    (hn : x ≠ "__name__" := by decide) (hdb : (x == ("__debug__" : Str)) = false := by decide) (he : starEach (e :: es) X.env = (false, eval e X.env) :: starEach es X.env := by rfl) (hpl : (backTo pos (starEach es X.env)).any (·.1) = false := by rfl) :
    Em X (.Call (.Name x p) (e :: es) [] pos) (mB f ms) := PE_imp (pe_callB hc hg hm hv ha hn hdb he hpl) fun _ _ _ h => runB cs h
theorem em_callTy {x : Str} {p pos : Pos} {e : Expr} {es : List Expr} {ms : MA} {T : String} {r : List V → Hp → VK → Prop} {f : List D → Option DV} (hc : CallR X (.type T) r) (cs : CallS X.K r f) (hg : Gl X x) (hm : X.mg x = none) (hv : bootBuiltins x = some (.type T)) (ha : Am X (e :: es) ms)
    (hn : x ≠ "__name__" := by decide) (hdb : (x == ("__debug__" : Str)) = false := by decide) (he : starEach (e :: es) X.env = (false, eval e X.env) :: starEach es X.env := by rfl) (hpl : (backTo pos (starEach es X.env)).any (·.1) = false := by rfl) :
    Em X (.Call (.Name x p) (e :: es) [] pos) (mB f ms) := PE_imp (pe_callTy hc hg hm hv ha hn hdb he hpl) fun _ _ _ h => runB cs h
theorem CallR_or {f : Value} {r r' : List V → Hp → VK → Prop} (h : CallR X f r) (h' : CallR X f r') : CallR X f (fun xs H Q => r xs H Q ∨ r' xs H Q) := by
  intro pins s σ H xs us Q I rx q
  rcases q with q | q
  · exact h pins s σ H xs us Q I rx q
  · exact h' pins s σ H xs us Q I rx q
theorem rep_int {K : PySem.W.Frag} {F : Hp} {i : Int} : Rep K F (.int i) (.int i) := by unfold Rep; rfl
theorem rep_bl {K : PySem.W.Frag} {F : Hp} {i : Bool} : Rep K F (.bl i) (.bl i) := by unfold Rep; rfl
theorem rep_str {K : PySem.W.Frag} {F : Hp} {i : Str} : Rep K F (.str i) (.str i) := by unfold Rep; rfl
theorem res_int {K : PySem.W.Frag} {Z : Hp} {σ : L2.St} {ρ : En} {H F : Hp} {i : Int} : ResOk K Z σ ρ H F (.int i) (.val (.int i)) := rep_int (K := K) (F := F)
theorem res_bl {K : PySem.W.Frag} {Z : Hp} {σ : L2.St} {ρ : En} {H F : Hp} {i : Bool} : ResOk K Z σ ρ H F (.bl i) (.val (.bl i)) := rep_bl (K := K) (F := F)
theorem res_str {K : PySem.W.Frag} {Z : Hp} {σ : L2.St} {ρ : En} {H F : Hp} {i : Str} : ResOk K Z σ ρ H F (.str i) (.val (.str i)) := rep_str (K := K) (F := F)
theorem reps1 {K : PySem.W.Frag} {F : Hp} {d : D} {vs : List V} (r : Reps K F [d] vs) : ∃ v, vs = [v] ∧ Rep K F d v := by
  obtain ⟨v, t, rfl, r1, r2⟩ := r.of_cons
  rw [r2.of_nil]; exact ⟨v, rfl, r1⟩
theorem reps2 {K : PySem.W.Frag} {F : Hp} {d e : D} {vs : List V} (r : Reps K F [d, e] vs) : ∃ v u, vs = [v, u] ∧ Rep K F d v ∧ Rep K F e u := by
  obtain ⟨v, t, rfl, r1, r2⟩ := r.of_cons
  obtain ⟨u, rfl, r3⟩ := reps1 r2
  exact ⟨v, u, rfl, r1, r3⟩
theorem reps3 {K : PySem.W.Frag} {F : Hp} {d e f : D} {vs : List V} (r : Reps K F [d, e, f] vs) : ∃ v u w, vs = [v, u, w] ∧ Rep K F d v ∧ Rep K F e u ∧ Rep K F f w := by
  obtain ⟨v, t, rfl, r1, r2⟩ := r.of_cons
  obtain ⟨u, w, rfl, r3, r4⟩ := reps2 r2
  exact ⟨v, u, w, rfl, r1, r3, r4⟩
theorem sq_of {K : PySem.W.Frag} {F H : Hp} {ds : List D} {v : V} (s : Same F H) (r : Rep K F (.lst ds) v) : ∃ a xs, v = .ref a ∧ SqL K H a xs ∧ Reps K F ds xs := by
  unfold Rep at r
  obtain ⟨a, xs, e, h1, h2⟩ := r
  exact ⟨a, xs, e, .of (s _ _ h1), h2⟩
theorem st_of {K : PySem.W.Frag} {F H : Hp} {ds : List D} {v : V} (s : Same F H) (r : Rep K F (.tup ds) v) : ∃ a xs, v = .ref a ∧ SqT K H a xs ∧ Reps K F ds xs := by
  unfold Rep at r
  obtain ⟨a, xs, e, h1, h2⟩ := r
  exact ⟨a, xs, e, SqT_mono s h1, h2⟩
/-! ### len -/
def dLen : List D → Option DV
  | [.lst ds] => some (.val (.int ds.length))
  | [.tup ds] => some (.val (.int ds.length))
  | [.scr ns] => some (.val (.int ns.length))
  | [.str z] => if z.length ≤ line then some (.val (.int z.length)) else none
  | _ => none
theorem cs_len {K : PySem.W.Frag} : CallS K (fun xs H Q => ∃ x n, xs = [x] ∧ LenV K x H n ∧ Q (.int n) H) dLen := fun F0 Z B σ H F ρ ds vs dv Q R r e k => by
  unfold dLen at e
  split at e
  · rename_i ds
    obtain ⟨v, rfl, r1⟩ := reps1 r
    obtain ⟨a, xs, rfl, h1, h2⟩ := sq_of R.sub r1
    cases e
    exact ⟨_, ds.length, rfl, .inl ⟨xs, h1, h2.length.symm⟩, k _ H F R (Same.refl _) res_int⟩
  · rename_i ds
    obtain ⟨v, rfl, r1⟩ := reps1 r
    obtain ⟨a, xs, rfl, h1, h2⟩ := st_of R.sub r1
    cases e
    exact ⟨_, ds.length, rfl, .inr ⟨xs, h1, h2.length.symm⟩, k _ H F R (Same.refl _) res_int⟩
  · rename_i ns
    obtain ⟨v, rfl, r1⟩ := reps1 r
    unfold Rep at r1
    obtain ⟨a, rfl, h1⟩ := r1
    cases e
    exact ⟨_, ns.length, rfl, .inl ⟨_, R.sub.seq h1, by simp⟩, k _ H F R (Same.refl _) res_int⟩
  · rename_i z
    obtain ⟨v, rfl, r1⟩ := reps1 r
    unfold Rep at r1
    subst r1
    obtain ⟨hz, rfl⟩ := ite_some e
    exact ⟨_, z.length, rfl, ⟨by rw [← line_eq]; exact hz, rfl⟩, k _ H F R (Same.refl _) res_int⟩
  · cases e
/-- len of a name, which stays as it is -/
def dLen1 : D → Option D
  | .lst ds => some (.int ds.length)
  | .tup ds => some (.int ds.length)
  | .scr ns => some (.int ns.length)
  | _ => none
def mLenS (i : Nat) : ME := fun ρ => (peek ρ i).bind fun x => (dLen1 x).map fun d => (.val d, ρ)
theorem em_lenS {i : Nat} {x y : Str} {p px pos : Pos} (hg : Gl X y) (hm : X.mg y = none) (hv : bootBuiltins y = some (.builtin "len")) (ha : PE X (.Name x px) (tVar i))
    (hn : y ≠ "__name__" := by decide) (hdb : (y == ("__debug__" : Str)) = false := by decide) (he : starEach [.Name x px] X.env = (false, eval (.Name x px) X.env) :: starEach [] X.env := by rfl) (hpl : (backTo pos (starEach [] X.env)).any (·.1) = false := by rfl) :
    Em X (.Call (.Name y p) [.Name x px] [] pos) (mLenS i) := PE_imp (pe_callB call_len hg hm hv (pa_cons ha pa_nil he) hn hdb he hpl) fun σ H Q ⟨F0, Z, B, F, ρ, dv, ρ', R, e, k⟩ => by
  obtain ⟨x0, e0, e1⟩ := Option.bind_eq_some_iff.mp e
  obtain ⟨d, e2, e3⟩ := Option.map_eq_some_iff.mp e1
  cases e3
  obtain ⟨v, ev, rv⟩ := peek_ok R e0
  refine ⟨v, ev, ?_⟩
  cases x0 with
  | lst ds =>
    cases e2
    have : ∃ a xs, v = .ref a ∧ SqL X.K H a xs ∧ Reps X.K F ds xs := by
      rcases rv with rv | ⟨a, ea, xs, h1, h2⟩
      · exact sq_of R.sub rv
      · exact ⟨a, xs, ea, .of h1, h2⟩
    obtain ⟨a, xs, rfl, h1, h2⟩ := this
    exact ⟨_, ds.length, rfl, .inl ⟨xs, h1, h2.length.symm⟩, k _ H F R (Same.refl _) res_int⟩
  | tup ds =>
    cases e2
    rcases rv with rv | ⟨a, ea, rv⟩
    · obtain ⟨a, xs, rfl, h1, h2⟩ := st_of R.sub rv
      exact ⟨_, ds.length, rfl, .inr ⟨xs, h1, h2.length.symm⟩, k _ H F R (Same.refl _) res_int⟩
    · exact rv.elim
  | scr ns =>
    cases e2
    rcases rv with rv | ⟨a, ea, rv⟩
    · unfold Rep at rv
      obtain ⟨a, rfl, h1⟩ := rv
      exact ⟨_, ns.length, rfl, .inl ⟨_, R.sub.seq h1, by simp⟩, k _ H F R (Same.refl _) res_int⟩
    · exact rv.elim
  | _ => cases e2
/-! ### abs, int, max, min, sum, all, any -/
def dAbs : List D → Option DV
  | [.int i] => some (.val (.int (if i < 0 then -i else i)))
  | _ => none
theorem cs_abs {K : PySem.W.Frag} : CallS K (fun xs H Q => ∃ i, xs = [.int i] ∧ Q (.int (if i < 0 then -i else i)) H) dAbs := fun F0 Z B σ H F ρ ds vs dv Q R r e k => by
  match ds, e with
  | [.int i], e =>
    obtain ⟨v, rfl, r1⟩ := reps1 r
    unfold Rep at r1; subst r1
    cases e
    exact ⟨i, rfl, k _ H F R (Same.refl _) res_int⟩
def dInt : List D → Option DV
  | [.int i] => some (.val (.int i))
  | [.bl b] => some (.val (.int (if b then 1 else 0)))
  | _ => none
theorem cs_int {K : PySem.W.Frag} : CallS K (fun xs H Q => (∃ i, xs = [.int i] ∧ Q (.int i) H) ∨ ∃ k, xs = [.bl k] ∧ Q (.int (if k then 1 else 0)) H) dInt := fun F0 Z B σ H F ρ ds vs dv Q R r e k => by
  match ds, e with
  | [.int i], e =>
    obtain ⟨v, rfl, r1⟩ := reps1 r
    unfold Rep at r1; subst r1
    cases e
    exact .inl ⟨i, rfl, k _ H F R (Same.refl _) res_int⟩
  | [.bl i], e =>
    obtain ⟨v, rfl, r1⟩ := reps1 r
    unfold Rep at r1; subst r1
    cases e
    exact .inr ⟨i, rfl, k _ H F R (Same.refl _) res_int⟩
theorem call_max3 (hc : X.calm = true) : CallR X (.builtin "max") (fun xs H Q => ∃ i j l, xs = [.int i, .int j, .int l] ∧ Q (.int (if j > i then (if l > j then l else j) else (if l > i then l else i))) H) := by
  intro pins s σ H xs us Q I r h
  obtain ⟨i, j, l, rfl, q⟩ := h
  cases r with
  | cons r1 r =>
    obtain ⟨u, w', rfl, ⟨t', rfl⟩, ⟨t'', rfl⟩⟩ := vals2 r
    obtain ⟨t, rfl⟩ := r1
    refine max_three_ints (I.ok.hd hc) fun h' tk k => ⟨_, H, I.kept k, ?_, q⟩
    split <;> split <;> exact ⟨_, rfl⟩
theorem call_min3 (hc : X.calm = true) : CallR X (.builtin "min") (fun xs H Q => ∃ i j l, xs = [.int i, .int j, .int l] ∧ Q (.int (if j < i then (if l < j then l else j) else (if l < i then l else i))) H) := by
  intro pins s σ H xs us Q I r h
  obtain ⟨i, j, l, rfl, q⟩ := h
  cases r with
  | cons r1 r =>
    obtain ⟨u, w', rfl, ⟨t', rfl⟩, ⟨t'', rfl⟩⟩ := vals2 r
    obtain ⟨t, rfl⟩ := r1
    refine min_three_ints (I.ok.hd hc) fun h' tk k => ⟨_, H, I.kept k, ?_, q⟩
    split <;> split <;> exact ⟨_, rfl⟩
def dMax : List D → Option DV
  | [.int i, .int j] => some (.val (.int (max i j)))
  | [.int i, .int j, .int l] => some (.val (.int (max (max i j) l)))
  | [.lst ds] => (intsOf ds).bind fun ns => (ns.max?).map fun m => .val (.int m)
  | _ => none
def dMin : List D → Option DV
  | [.int i, .int j] => some (.val (.int (min i j)))
  | [.int i, .int j, .int l] => some (.val (.int (min (min i j) l)))
  | [.lst ds] => (intsOf ds).bind fun ns => (ns.min?).map fun m => .val (.int m)
  | _ => none
def rMaxA (K : PySem.W.Frag) : List V → Hp → VK → Prop := fun xs H Q => (∃ i j, xs = [.int i, .int j] ∧ Q (.int (if j > i then j else i)) H) ∨ (∃ i j l, xs = [.int i, .int j, .int l] ∧ Q (.int (if j > i then (if l > j then l else j) else (if l > i then l else i))) H) ∨ rMax K xs H Q
def rMinA (K : PySem.W.Frag) : List V → Hp → VK → Prop := fun xs H Q => (∃ i j, xs = [.int i, .int j] ∧ Q (.int (if j < i then j else i)) H) ∨ (∃ i j l, xs = [.int i, .int j, .int l] ∧ Q (.int (if j < i then (if l < j then l else j) else (if l < i then l else i))) H) ∨ rMin K xs H Q
theorem call_maxA (hc : X.calm = true) : CallR X (.builtin "max") (rMaxA X.K) := CallR_or (call_max2 hc) (CallR_or (call_max3 hc) (cr_max hc))
theorem call_minA (hc : X.calm = true) : CallR X (.builtin "min") (rMinA X.K) := CallR_or (call_min2 hc) (CallR_or (call_min3 hc) (cr_min hc))
theorem cs_max {K : PySem.W.Frag} : CallS K (rMaxA K) dMax := fun F0 Z B σ H F ρ ds vs dv Q R r e k => by
  match ds, e with
  | [.int i, .int j], e =>
    obtain ⟨v, u, rfl, r1, r2⟩ := reps2 r
    unfold Rep at r1 r2; subst r1 r2
    cases e
    refine .inl ⟨i, j, rfl, ?_⟩
    have : (if j > i then j else i) = max i j := by split <;> omega
    rw [this]
    exact k _ H F R (Same.refl _) res_int
  | [.int i, .int j, .int l], e =>
    obtain ⟨v, u, w, rfl, r1, r2, r3⟩ := reps3 r
    unfold Rep at r1 r2 r3; subst r1 r2 r3
    cases e
    refine .inr (.inl ⟨i, j, l, rfl, ?_⟩)
    have : (if j > i then (if l > j then l else j) else (if l > i then l else i)) = max (max i j) l := by split <;> split <;> omega
    rw [this]
    exact k _ H F R (Same.refl _) res_int
  | [.lst ds], e =>
    obtain ⟨v, rfl, r1⟩ := reps1 r
    obtain ⟨a, xs, rfl, h1, h2⟩ := sq_of R.sub r1
    obtain ⟨ns, e1, e2⟩ := Option.bind_eq_some_iff.mp (show (intsOf ds).bind (fun ns => (ns.max?).map fun m => DV.val (.int m)) = some dv from e)
    obtain ⟨m, e3, e4⟩ := Option.map_eq_some_iff.mp e2
    subst e4
    have ex := h2.intsOf e1
    subst ex
    refine .inr (.inr ⟨a, ns, rfl, h1, ?_, fun m' hm' hall => ?_⟩)
    · cases ns with
      | nil => cases e3
      | cons n ns => exact Nat.succ_pos _
    · have := List.max?_eq_some_iff.mp e3
      have : m = m' := by
        have h3 := hall m this.1
        have h4 := this.2 m' hm'
        omega
      subst this
      exact k _ H F R (Same.refl _) res_int
theorem cs_min {K : PySem.W.Frag} : CallS K (rMinA K) dMin := fun F0 Z B σ H F ρ ds vs dv Q R r e k => by
  match ds, e with
  | [.int i, .int j], e =>
    obtain ⟨v, u, rfl, r1, r2⟩ := reps2 r
    unfold Rep at r1 r2; subst r1 r2
    cases e
    refine .inl ⟨i, j, rfl, ?_⟩
    have : (if j < i then j else i) = min i j := by split <;> omega
    rw [this]
    exact k _ H F R (Same.refl _) res_int
  | [.int i, .int j, .int l], e =>
    obtain ⟨v, u, w, rfl, r1, r2, r3⟩ := reps3 r
    unfold Rep at r1 r2 r3; subst r1 r2 r3
    cases e
    refine .inr (.inl ⟨i, j, l, rfl, ?_⟩)
    have : (if j < i then (if l < j then l else j) else (if l < i then l else i)) = min (min i j) l := by split <;> split <;> omega
    rw [this]
    exact k _ H F R (Same.refl _) res_int
  | [.lst ds], e =>
    obtain ⟨v, rfl, r1⟩ := reps1 r
    obtain ⟨a, xs, rfl, h1, h2⟩ := sq_of R.sub r1
    obtain ⟨ns, e1, e2⟩ := Option.bind_eq_some_iff.mp (show (intsOf ds).bind (fun ns => (ns.min?).map fun m => DV.val (.int m)) = some dv from e)
    obtain ⟨m, e3, e4⟩ := Option.map_eq_some_iff.mp e2
    subst e4
    have ex := h2.intsOf e1
    subst ex
    refine .inr (.inr ⟨a, ns, rfl, h1, ?_, fun m' hm' hall => ?_⟩)
    · cases ns with
      | nil => cases e3
      | cons n ns => exact Nat.succ_pos _
    · have := List.min?_eq_some_iff.mp e3
      have : m = m' := by
        have h3 := hall m this.1
        have h4 := this.2 m' hm'
        omega
      subst this
      exact k _ H F R (Same.refl _) res_int
def dSum : List D → Option DV
  | [.lst ds] => (intsOf ds).map fun ns => .val (.int ns.sum)
  | _ => none
theorem cs_sum {K : PySem.W.Frag} : CallS K (rSum K) dSum := fun F0 Z B σ H F ρ ds vs dv Q R r e k => by
  match ds, e with
  | [.lst ds], e =>
    obtain ⟨v, rfl, r1⟩ := reps1 r
    obtain ⟨a, xs, rfl, h1, h2⟩ := sq_of R.sub r1
    obtain ⟨ns, e1, e2⟩ := Option.map_eq_some_iff.mp (show (intsOf ds).map (fun ns => DV.val (.int ns.sum)) = some dv from e)
    subst e2
    have ex := h2.intsOf e1
    subst ex
    exact ⟨a, ns, rfl, h1, k _ H F R (Same.refl _) res_int⟩
def dAll : List D → Option DV
  | [.lst ds] => (boolsOf ds).map fun bs => .val (.bl (bs.all id))
  | _ => none
def dAny : List D → Option DV
  | [.lst ds] => (boolsOf ds).map fun bs => .val (.bl (bs.any id))
  | _ => none
theorem cs_all {K : PySem.W.Frag} : CallS K (rAll K) dAll := fun F0 Z B σ H F ρ ds vs dv Q R r e k => by
  match ds, e with
  | [.lst ds], e =>
    obtain ⟨v, rfl, r1⟩ := reps1 r
    obtain ⟨a, xs, rfl, h1, h2⟩ := sq_of R.sub r1
    obtain ⟨ns, e1, e2⟩ := Option.map_eq_some_iff.mp (show (boolsOf ds).map (fun bs => DV.val (.bl (bs.all id))) = some dv from e)
    subst e2
    have ex := h2.boolsOf e1
    subst ex
    exact ⟨a, ns, rfl, h1, k _ H F R (Same.refl _) res_bl⟩
theorem cs_any {K : PySem.W.Frag} : CallS K (rAny K) dAny := fun F0 Z B σ H F ρ ds vs dv Q R r e k => by
  match ds, e with
  | [.lst ds], e =>
    obtain ⟨v, rfl, r1⟩ := reps1 r
    obtain ⟨a, xs, rfl, h1, h2⟩ := sq_of R.sub r1
    obtain ⟨ns, e1, e2⟩ := Option.map_eq_some_iff.mp (show (boolsOf ds).map (fun bs => DV.val (.bl (bs.any id))) = some dv from e)
    subst e2
    have ex := h2.boolsOf e1
    subst ex
    exact ⟨a, ns, rfl, h1, k _ H F R (Same.refl _) res_bl⟩
/-! ### list, tuple -/
def dList : List D → Option DV
  | [.lst ds] => some (.own (.lst ds))
  | [.tup ds] => some (.own (.lst ds))
  | _ => none
theorem cs_list {K : PySem.W.Frag} : CallS K (fun xs H Q => ∃ p ys, xs = [.ref p] ∧ (SqL K H p ys ∨ SqT K H p ys) ∧ ∀ l, H l = none → Q (.ref l) (upd H l (.lst ys))) dList := fun F0 Z B σ H F ρ ds vs dv Q R r e k => by
  match ds, e with
  | [.lst ds], e =>
    obtain ⟨v, rfl, r1⟩ := reps1 r
    obtain ⟨a, xs, rfl, h1, h2⟩ := sq_of R.sub r1
    cases e
    refine ⟨a, xs, rfl, .inl h1, fun p hp => ?_⟩
    obtain ⟨R4, r4⟩ := new_lst R hp h2
    exact k _ _ _ R4 (Same.refl _) r4
  | [.tup ds], e =>
    obtain ⟨v, rfl, r1⟩ := reps1 r
    obtain ⟨a, xs, rfl, h1, h2⟩ := st_of R.sub r1
    cases e
    refine ⟨a, xs, rfl, .inr h1, fun p hp => ?_⟩
    obtain ⟨R4, r4⟩ := new_lst R hp h2
    exact k _ _ _ R4 (Same.refl _) r4
def dTuple : List D → Option DV
  | [.lst ds] => some (.val (.tup ds))
  | [.tup ds] => some (.val (.tup ds))
  | _ => none
theorem cs_tuple {K : PySem.W.Frag} : CallS K (fun xs H Q => ∃ p ys, xs = [.ref p] ∧ ((SqL K H p ys ∧ ∀ l, H l = none → Q (.ref l) (upd H l (.tup ys))) ∨ (SqT K H p ys ∧ Q (.ref p) H))) dTuple := fun F0 Z B σ H F ρ ds vs dv Q R r e k => by
  match ds, e with
  | [.lst ds], e =>
    obtain ⟨v, rfl, r1⟩ := reps1 r
    obtain ⟨a, xs, rfl, h1, h2⟩ := sq_of R.sub r1
    cases e
    refine ⟨a, xs, rfl, .inl ⟨h1, fun p hp => ?_⟩⟩
    obtain ⟨R4, s4, r4⟩ := new_tup R hp h2
    exact k _ _ _ R4 s4 r4
  | [.tup ds], e =>
    obtain ⟨v, rfl, r1⟩ := reps1 r
    have r0 := r1
    obtain ⟨a, xs, rfl, h1, h2⟩ := st_of R.sub r1
    cases e
    exact ⟨a, xs, rfl, .inr ⟨h1, k _ H F R (Same.refl _) r0⟩⟩
/-! ### list(range(..)) -/
def intsFT (a b : Int) : List D := (List.range (b - a).toNat).map fun i => D.int (a + (i : Nat))
theorem reps_rg {K : PySem.W.Frag} {F : Hp} (a b : Int) : Reps K F (intsFT a b) (rgV a b) := by
  unfold intsFT rgV
  generalize List.range (b - a).toNat = is
  induction is with
  | nil => exact .nil
  | cons i is ih => exact .cons rep_int ih
end
end Cb

set_option Elab.async false
set_option linter.all false
set_option maxRecDepth 100000
/-! Rules: calls of defs, isinstance, statements. -/
namespace Cb
open PySem PySem.Spec PyProof.Rows L2
section
variable {K : PySem.W.Frag} {F0 Z : Hp} {B : Nat → Addr} {σ : L2.St} {H F H' F' : Hp} {ρ : En}
/-- an object off the slots is kept meanwhile -/
theorem Rel.prot (R : Rel K F0 Z B σ H F ρ) {a : Addr} {o : HO} (hH : H a = some o) (off : Off σ ρ a) : Rel K F (upd Z a o) B σ H F ρ where
  len := R.len
  sub := R.sub
  zsub := fun b u e => by
    by_cases h : b = a
    · subst h; rw [upd_same] at e; rw [hH]; exact e
    · rw [upd_ne h] at e; exact R.zsub _ _ e
  base := fun b u e => .inl e
  slot := fun i dv e => by
    obtain ⟨v, e1, s⟩ := R.slot i dv e
    refine ⟨v, e1, ?_⟩
    have key : ∀ c, dv.owned = true → v = .ref c → Z c = none → upd Z a o c = none := fun c oc ec hz => by
      have : c ≠ a := fun z => off i dv e oc (by rw [e1, ec, z])
      rw [upd_ne this]; exact hz
    cases dv with
    | val d => exact s
    | own d => obtain ⟨c, ec, h1, h2, h3⟩ := s; exact ⟨c, ec, h1, key c rfl ec h2, h3⟩
    | bor d => obtain ⟨ec, h1, h2, h3⟩ := s; exact ⟨ec, h1, key _ rfl ec h2, h3⟩
  apart := R.apart
/-- behind it: the object stands, off the slots, not frozen -/
theorem Rel.unprot {F1 H1 : Hp} {ρ1 : En} {a : Addr} {o : HO} (R : Rel K F0 Z B σ H F ρ) (hF : F a = none) (hZ : Z a = none) (R1 : Rel K F (upd Z a o) B σ H1 F1 ρ1) : Rel K F0 Z B σ H1 F1 ρ1 ∧ H1 a = some o ∧ F1 a = none ∧ Off σ ρ1 a := by
  have hH1 : H1 a = some o := R1.zsub _ _ upd_same
  have hF1 : F1 a = none := by
    cases q : F1 a with
    | none => rfl
    | some u =>
      rcases R1.base _ _ q with z | z
      · rw [hF] at z; cases z
      · rw [upd_same] at z; cases z
  have off : Off σ ρ1 a := fun i di e oi es => by
    obtain ⟨v, e1, s⟩ := R1.slot i di e
    obtain ⟨c, ec, _, hz, _⟩ := s.addr oi
    rw [e1] at es
    have : v = .ref a := Option.some.inj (Option.some.inj es)
    rw [this] at ec; cases ec
    rw [upd_same] at hz; cases hz
  have zz : ∀ b u, Z b = some u → upd Z a o b = some u := fun b u e => by
    rw [upd_ne (ne_of_none e hZ)]; exact e
  have zn : ∀ b, upd Z a o b = none → Z b = none := fun b e => by
    cases q : Z b with
    | none => rfl
    | some u => rw [zz b u q] at e; cases e
  refine ⟨⟨R1.len, R1.sub, fun b u e => R1.zsub _ _ (zz b u e), fun b u e => ?_, fun i dv e => ?_, R1.apart⟩, hH1, hF1, off⟩
  · rcases R1.base b u e with z | z
    · exact R.base _ _ z
    · exact .inr (zn b z)
  · obtain ⟨v, e1, s⟩ := R1.slot i dv e
    refine ⟨v, e1, ?_⟩
    cases dv with
    | val d => exact s
    | own d => obtain ⟨c, ec, h1, h2, h3⟩ := s; exact ⟨c, ec, h1, zn _ h2, h3⟩
    | bor d => obtain ⟨ec, h1, h2, h3⟩ := s; exact ⟨ec, h1, zn _ h2, h3⟩
end

/-! ### what a def promises -/
def FRes (K : PySem.W.Frag) (H H' F' : Hp) (v : V) : DV → Prop
  | .val d => Rep K F' d v
  | .own d => ∃ a, v = .ref a ∧ F' a = none ∧ H a = none ∧ OwnRep K H' F' a d
  | .bor _ => False
structure Post (K : PySem.W.Frag) (io : Option Nat) (vs : List V) (H F : Hp) (r : DV) (o : D) (v : V) (H' F' : Hp) : Prop where
  same : Same F F'
  sub : Same F' H'
  new : ∀ a u, F' a = some u → F a = some u ∨ H a = none
  keep : ∀ a u, H a = some u → (∀ j, io = some j → vs[j]? ≠ some (V.ref a)) → H' a = some u
  out : ∀ j a, io = some j → vs[j]? = some (V.ref a) → F' a = none ∧ OwnRep K H' F' a o
  res : FRes K H H' F' v r
def spF (K : PySem.W.Frag) (io : Option Nat) (n : Nat) (φ : List D → Option (DV × D)) : Sp := fun vs H Q _ => vs.length = n ∧ ∃ F ds r o, Same F H ∧ ds.length = n ∧
  (∀ (j : Nat) (v : V) (d : D), vs[j]? = some v → ds[j]? = some d → (io ≠ some j → Rep K F d v) ∧ (io = some j → ∃ a, v = .ref a ∧ F a = none ∧ OwnRep K H F a d)) ∧ φ ds = some (r, o) ∧
  ∀ v H' F', Post K io vs H F r o v H' F' → Q v H'
def iniL (io : Option Nat) : Nat → List D → En
  | _, [] => []
  | j, d :: ds => (if io = some j then some (.bor d) else some (.val d)) :: iniL io (j + 1) ds
def ini (io : Option Nat) (n : Nat) (ds : List D) : En := iniL io 0 ds ++ List.replicate (n - ds.length) none
theorem iniL_length (io : Option Nat) : ∀ (j : Nat) (ds : List D), (iniL io j ds).length = ds.length
  | _, [] => rfl
  | j, d :: ds => by simp [iniL, iniL_length io (j + 1) ds]
theorem iniL_get (io : Option Nat) : ∀ (ds : List D) (j i : Nat), (iniL io j ds)[i]? = (ds[i]?).map fun d => if io = some (j + i) then some (.bor d) else some (.val d)
  | [], _, _ => by simp [iniL]
  | d :: ds, j, 0 => by simp [iniL]
  | d :: ds, j, i + 1 => by
    simp only [iniL, List.getElem?_cons_succ]
    rw [iniL_get io ds (j + 1) i]
    have : j + 1 + i = j + (i + 1) := by omega
    rw [this]
inductive Res where
  | nx (ρ : En) | rt (dv : DV) (ρ : En) | bk (ρ : En) | ct (ρ : En)
abbrev MS := En → Option Res
def outOf (io : Option Nat) (ρ : En) : Option D := match io with
  | none => some .non
  | some j => match ρ[j]? with
    | some (some (.bor d)) => some d
    | _ => none
def fin (io : Option Nat) : Res → Option (DV × D)
  | .rt dv ρ => (outOf io ρ).map fun o => (dv, o)
  | .nx ρ => (outOf io ρ).map fun o => (.val .non, o)
  | _ => none
def runFn (io : Option Nat) (n : Nat) (body : MS) (ds : List D) : Option (DV × D) := (body (ini io n ds)).bind (fin io)
def Hand (K : PySem.W.Frag) (F0 Z : Hp) (B : Nat → Addr) (F : Hp) (D : Ends) : Res → Prop
  | .nx ρ => ∀ σ' H' F', Rel K F0 Z B σ' H' F' ρ → Same F F' → D.nx σ' H'
  | .rt dv ρ => ∀ v σ' H' F', Rel K F0 Z B σ' H' F' ρ → Same F F' → ResOk K Z σ' ρ H' F' v dv → D.rt v H'
  | .bk ρ => ∀ σ' H' F', Rel K F0 Z B σ' H' F' ρ → Same F F' → D.bk σ' H'
  | .ct ρ => ∀ σ' H' F', Rel K F0 Z B σ' H' F' ρ → Same F F' → D.ct σ' H'
theorem Hand.mono {K : PySem.W.Frag} {F0 Z : Hp} {B : Nat → Addr} {F F1 : Hp} {D : Ends} {r : Res} (h : Hand K F0 Z B F D r) (s : Same F F1) : Hand K F0 Z B F1 D r := by
  cases r with
  | nx ρ => exact fun σ' H' F' R s' => h σ' H' F' R (s.trans s')
  | rt dv ρ => exact fun v σ' H' F' R s' => h v σ' H' F' R (s.trans s')
  | bk ρ => exact fun σ' H' F' R s' => h σ' H' F' R (s.trans s')
  | ct ρ => exact fun σ' H' F' R s' => h σ' H' F' R (s.trans s')
def tSOf (K : PySem.W.Frag) (m : MS) : TS := fun D σ H => ∃ F0 Z B F ρ r, Rel K F0 Z B σ H F ρ ∧ m ρ = some r ∧ Hand K F0 Z B F D r
abbrev Sm (X : Cx) (st : Stmt) (m : MS) : Prop := PS X st (tSOf X.K m)
abbrev Ss (X : Cx) (sts : List Stmt) (m : MS) : Prop := PSs X sts (tSOf X.K m)
theorem PS_imp {X : Cx} {st : Stmt} {t t' : TS} (h : PS X st t) (i : ∀ D σ H, t' D σ H → t D σ H) : PS X st t' := ⟨fun pins s σ H D I q => h.run pins s σ H D I (i _ _ _ q)⟩
theorem PSs_imp {X : Cx} {st : List Stmt} {t t' : TS} (h : PSs X st t) (i : ∀ D σ H, t' D σ H → t D σ H) : PSs X st t' := ⟨fun pins s σ H D I q => h.run pins s σ H D I (i _ _ _ q)⟩
theorem tSOf_of {K : PySem.W.Frag} {m : MS} {F0 Z : Hp} {B : Nat → Addr} {σ : L2.St} {H F : Hp} {ρ : En} {r : Res} {D : Ends} (R : Rel K F0 Z B σ H F ρ) (e : m ρ = some r) (h : Hand K F0 Z B F D r) : tSOf K m D σ H := ⟨F0, Z, B, F, ρ, r, R, e, h⟩
section
variable {P : Program} {w : World} {K : PySem.W.Frag} {mg : Str → Option Value} {base : Heap}
theorem start_get {N : List Str} {vs : List V} {i : Nat} {v : V} (h : vs[i]? = some v) : (L2.start N vs)[i]? = some (some v) := by
  unfold L2.start
  have hi : i < vs.length := (List.getElem?_eq_some_iff.mp h).1
  rw [List.getElem?_append_left (by simpa using hi), List.getElem?_map, h]; rfl
theorem rel_start {N : List Str} {io : Option Nat} {n : Nat} {vs : List V} {H F : Hp} {ds : List D} (hn : n ≤ N.length) (hv : vs.length = n) (hd : ds.length = n) (s : Same F H)
    (h : ∀ (j : Nat) (v : V) (d : D), vs[j]? = some v → ds[j]? = some d → (io ≠ some j → Rep K F d v) ∧ (io = some j → ∃ a, v = .ref a ∧ F a = none ∧ OwnRep K H F a d)) :
    ∃ Z B, Rel K F Z B (L2.start N vs) H F (ini io N.length ds) ∧ (∀ a, Z a = none → H a = none ∨ ∃ j, io = some j ∧ vs[j]? = some (.ref a)) ∧ (∀ a u, H a = some u → (∀ j, io = some j → vs[j]? ≠ some (V.ref a)) → Z a = some u) ∧
      (∀ j a, io = some j → vs[j]? = some (.ref a) → B j = a) := by
  classical
  let Z : Hp := fun a => if ∃ j, io = some j ∧ vs[j]? = some (.ref a) then none else H a
  let B : Nat → Addr := fun j => match vs[j]? with
    | some (.ref a) => a
    | _ => 0
  have get : ∀ (i : Nat) (dv : DV), (ini io N.length ds)[i]? = some (some dv) → ∃ d v, ds[i]? = some d ∧ vs[i]? = some v ∧ dv = (if io = some i then .bor d else .val d) := fun i dv e => by
    unfold ini at e
    have hi : i < ds.length := by
      by_cases hi : i < ds.length
      · exact hi
      · rw [List.getElem?_append_right (by rw [iniL_length]; omega), List.getElem?_replicate] at e
        split at e <;> cases e
    rw [List.getElem?_append_left (by rw [iniL_length]; exact hi), iniL_get] at e
    have h1 : ds[i]? = some ds[i] := List.getElem?_eq_getElem hi
    have hi2 : i < vs.length := by omega
    have h2 : vs[i]? = some vs[i] := List.getElem?_eq_getElem hi2
    refine ⟨_, _, h1, h2, ?_⟩
    rw [h1] at e
    simp only [Option.map_some, Nat.zero_add, Option.some.injEq] at e
    by_cases hio : io = some i
    · rw [if_pos hio] at e ⊢; exact (Option.some.inj e).symm
    · rw [if_neg hio] at e ⊢; exact (Option.some.inj e).symm
  refine ⟨Z, B, ⟨?_, s, fun a u e => ?_, fun a u e => .inl e, fun i dv e => ?_, fun i j di dj a ne e1 e2 o1 o2 s1 s2 => ?_⟩, fun a e => ?_, fun a u e ne => ?_, fun j a e1 e2 => ?_⟩
  · unfold ini L2.start
    simp [iniL_length]; omega
  · show H a = some u
    have e' : (if ∃ j, io = some j ∧ vs[j]? = some (V.ref a) then none else H a) = some u := e
    split at e'
    · cases e'
    · exact e'
  · obtain ⟨d, v, h1, h2, e3⟩ := get i dv e
    refine ⟨v, start_get h2, ?_⟩
    obtain ⟨g1, g2⟩ := h i v d h2 h1
    by_cases hio : io = some i
    · rw [if_pos hio] at e3
      subst e3
      obtain ⟨a, rfl, q1, q2⟩ := g2 hio
      have hB : B i = a := by show (match vs[i]? with | some (.ref a) => a | _ => 0) = a; rw [h2]
      refine ⟨by rw [hB], by rw [hB]; exact q1, ?_, by rw [hB]; exact q2⟩
      rw [hB]
      show (if ∃ j, io = some j ∧ vs[j]? = some (V.ref a) then none else H a) = none
      rw [if_pos ⟨i, hio, h2⟩]
    · rw [if_neg hio] at e3
      subst e3
      exact g1 hio
  · obtain ⟨d, v, _, _, e3⟩ := get i di e1
    obtain ⟨d', v', _, _, e4⟩ := get j dj e2
    have hi : io = some i := by
      by_cases hio : io = some i
      · exact hio
      · rw [if_neg hio] at e3; subst e3; cases o1
    have hj : io = some j := by
      by_cases hio : io = some j
      · exact hio
      · rw [if_neg hio] at e4; subst e4; cases o2
    rw [hi] at hj
    exact ne (Option.some.inj hj)
  · have e' : (if ∃ j, io = some j ∧ vs[j]? = some (V.ref a) then none else H a) = none := e
    split at e'
    · rename_i q; exact .inr q
    · exact .inl e'
  · show (if ∃ j, io = some j ∧ vs[j]? = some (V.ref a) then none else H a) = some u
    rw [if_neg (by rintro ⟨j, e1, e2⟩; exact ne j e1 e2)]
    exact e
  · show (match vs[j]? with | some (.ref a) => a | _ => 0) = a
    rw [e2]
theorem fn_ok {x qual : Str} {params : Arguments} {body : List Stmt} {scope : Scope} {f : Addr} {fd : FuncData} {N ps : List Str} {k n : Nat} {io : Option Nat} {m : MS} (Fd : FunD K x qual params body scope [] [] f fd) (S : FnScope N ps scope) (hn : ps.length = n)
    (hb : ∀ (cdv : Value) (A : Around) (outer : List Env) (s : Shared) (H : Hp) (E : XK), Room k (A.deeper (envOfC qual scope s.heap.objs.size f cdv)) → Ss (cxOf CX0 P w K mg base N qual scope f cdv A outer s H E).nox body m) :
    FnOk P w K mg base CX0 (k + 1) f fd ps (spF K io n (runFn io N.length m)) := by
  have hpl : n ≤ N.length := by have := congrArg List.length S.pre; rw [List.length_take] at this; omega
  refine Fd.ok S (fun vs H Q E h => by rw [h.1, hn]) fun cdv A outer s H vs Q E hr h => ⟨tSOf K m, PSs.nox (hb cdv A outer s H E hr), ?_⟩
  obtain ⟨hv, F, ds, r, o, sF, hd, hargs, hφ, hQ⟩ := h
  obtain ⟨Z, B, R, z1, z2, hB⟩ := rel_start (N := N) hpl hv hd sF hargs
  obtain ⟨res, e1, e2⟩ := Option.bind_eq_some_iff.mp hφ
  refine ⟨F, Z, B, F, _, res, R, e1, ?_⟩
  -- at an end
  have post : ∀ {ρ' : En} {dv : DV} {v : V} {σ' : L2.St} {H' F' : Hp}, Rel K F Z B σ' H' F' ρ' → Same F F' → ResOk K Z σ' ρ' H' F' v dv → (outOf io ρ').map (fun o => (dv, o)) = some (r, o) → Q v H' := fun {ρ' dv v σ' H' F'} R' s' rr eo => by
    obtain ⟨o', eo1, eo2⟩ := Option.map_eq_some_iff.mp eo
    have hdv : dv = r := congrArg Prod.fst eo2
    have ho : o' = o := congrArg Prod.snd eo2
    subst hdv ho
    -- the lent object
    have lent : ∀ j a, io = some j → vs[j]? = some (V.ref a) → F' a = none ∧ OwnRep K H' F' a o' ∧ σ'[j]? = some (some (.ref a)) ∧ ρ'[j]? = some (some (.bor o')) := fun j a ej ea => by
      subst ej
      unfold outOf at eo1
      simp only at eo1
      split at eo1
      · rename_i d' ed
        cases eo1
        obtain ⟨w', ew, rfl, q1, q2, q3⟩ := R'.slot j _ ed
        have : B j = a := hB j a rfl ea
        rw [this] at q1 q3 ew
        exact ⟨q1, q3, ew, ed⟩
      · cases eo1
    refine hQ v H' F' ⟨s', R'.sub, fun a u e => ?_, fun a u e ne => R'.zsub _ _ (z2 a u e ne), fun j a ej ea => ⟨(lent j a ej ea).1, (lent j a ej ea).2.1⟩, ?_⟩
    · rcases R'.base a u e with q | q
      · exact .inl q
      · rcases z1 a q with q | ⟨j, ej, ea⟩
        · exact .inr q
        · rw [(lent j a ej ea).1] at e; cases e
    · cases dv with
      | val d => exact rr
      | bor d => exact rr.elim
      | own d =>
        obtain ⟨a, ea, q1, q2, q3, off⟩ := rr
        refine ⟨a, ea, q1, ?_, q3⟩
        rcases z1 a q2 with q | ⟨j, ej, ea'⟩
        · exact q
        · obtain ⟨_, _, es, er⟩ := lent j a ej ea'
          exact (off j _ er rfl es).elim
  cases res with
  | nx ρ' => exact fun σ' H' F' R' s' => post R' s' (dv := .val .non) (show Rep K F' .non .non by unfold Rep; rfl) e2
  | rt dv ρ' => exact fun v σ' H' F' R' s' rr => post R' s' rr e2
  | bk ρ' => cases e2
  | ct ρ' => cases e2
end
/-! ### calls -/
section
variable {X : Cx}
theorem Rel.called {K : PySem.W.Frag} {F0 Z : Hp} {B : Nat → Addr} {σ : L2.St} {H F H' F' : Hp} {ρ : En} (R : Rel K F0 Z B σ H F ρ) (s : Same F F') (sub : Same F' H') (new : ∀ a u, F' a = some u → F a = some u ∨ H a = none) (keep : ∀ a u, H a = some u → H' a = some u) : Rel K F0 Z B σ H' F' ρ where
  len := R.len
  sub := sub
  zsub := fun a u e => keep _ _ (R.zsub _ _ e)
  base := fun a u e => by
    rcases new a u e with q | q
    · exact R.base _ _ q
    · exact .inr (R.zsub.free q)
  slot := fun i dv e => by
    obtain ⟨v, e1, sl⟩ := R.slot i dv e
    refine ⟨v, e1, sl.move s fun a oa ea => ?_⟩
    obtain ⟨b, eb, hF, _, u, hu⟩ := sl.addr oa
    rw [ea] at eb; cases eb
    refine ⟨(keep _ _ hu).trans hu.symm, ?_⟩
    cases q : F' a with
    | none => rfl
    | some t =>
      rcases new a t q with q | q
      · rw [hF] at q; cases q
      · rw [hu] at q; cases q
  apart := R.apart
def mCall (φ : List D → Option (DV × D)) (ms : MA) : ME := fun ρ => (ms ρ).bind fun p => (φ p.1).map fun r => (r.1, p.2)
theorem Reps.get2 {K : PySem.W.Frag} {F : Hp} : ∀ {ds : List D} {xs : List V} {j : Nat} {v : V} {d : D}, Reps K F ds xs → xs[j]? = some v → ds[j]? = some d → Rep K F d v := fun {ds xs j v d} r e1 e2 => by
  obtain ⟨x, h1, h2⟩ := r.get e2
  rw [e1] at h1; cases h1; exact h2
theorem ResOk.of_fres {K : PySem.W.Frag} {F0 Z : Hp} {B : Nat → Addr} {σ : L2.St} {H F H' F' : Hp} {ρ : En} {v : V} {dv : DV} (R : Rel K F0 Z B σ H F ρ) (h : FRes K H H' F' v dv) : ResOk K Z σ ρ H' F' v dv := by
  cases dv with
  | val d => exact h
  | own d =>
    obtain ⟨a, ea, h1, h2, h3⟩ := h
    exact ⟨a, ea, h1, R.znone h2, h3, R.off_new h2⟩
  | bor d => exact h.elim
theorem runCall {K : PySem.W.Frag} {φ : List D → Option (DV × D)} {ms : MA} {n : Nat} (hlen : ∀ ρ p, ms ρ = some p → p.1.length = n) {σ : L2.St} {H : Hp} {Q : VK} (h : tOf K (mCall φ ms) σ H Q) : tCall (spF K none n φ) [] E0 (tAOf K ms) σ H Q := by
  obtain ⟨F0, Z, B, F, ρ, dv, ρ', R, e, k⟩ := h
  obtain ⟨⟨ds, ρ1⟩, e1, e2⟩ := Option.bind_eq_some_iff.mp e
  obtain ⟨⟨r, o⟩, e3, e4⟩ := Option.map_eq_some_iff.mp e2
  cases e4
  refine tAOf_of R e1 fun vs H1 F1 R1 s1 r1 => ?_
  have hl := hlen ρ _ e1
  rw [List.append_nil]
  refine ⟨r1.length.trans hl, F1, ds, r, o, R1.sub, hl, fun j v d ev ed => ⟨fun _ => r1.get2 ev ed, fun z => by cases z⟩, e3, fun v H' F' po => ?_⟩
  have R2 := R1.called po.same po.sub po.new fun a u q => po.keep a u q fun j z => by cases z
  exact k v H' F' R2 (s1.trans po.same) (ResOk.of_fres R1 po.res)
theorem aLen_nil (ρ : En) (p) (h : aNil ρ = some p) : p.1.length = 0 := by cases h; rfl
theorem aLen_cons {m : ME} {ms : MA} {n : Nat} (hn : ∀ ρ p, ms ρ = some p → p.1.length = n) (ρ : En) (p) (h : aCons m ms ρ = some p) : p.1.length = n + 1 := by
  obtain ⟨q, e1, e2⟩ := Option.bind_eq_some_iff.mp h
  obtain ⟨t, e3, e4⟩ := Option.map_eq_some_iff.mp e2
  subst e4
  simp [hn _ _ e3]
/-- a def as callers use it -/
structure Fk (X : Cx) (x : Str) (io : Option Nat) (n : Nat) (φ : List D → Option (DV × D)) : Prop where
  ex : ∃ (k : Nat) (f : Addr) (fd : FuncData) (ps : List Str), FnOk X.prog X.w X.K X.mg X.base CX0 k f fd ps (spF X.K io n φ) ∧ Room k X.A ∧ X.mg x = some (.ref f) ∧ PySem.W.keepIn X.K (.ref f) = true ∧ Binds X.K fd ps []
theorem em_call {x : Str} {p pos : Pos} {e : Expr} {es : List Expr} {ms : MA} {n : Nat} {φ : List D → Option (DV × D)} (G : Fk X x none n φ) (hg : Gl X x) (ha : Am X (e :: es) ms) (hl : ∀ ρ p, ms ρ = some p → p.1.length = n)
    (hdb : (x == ("__debug__" : Str)) = false := by decide) (he : starEach (e :: es) X.env = (false, eval e X.env) :: starEach es X.env := by rfl) (hpl : (backTo pos (starEach es X.env)).any (·.1) = false := by rfl) :
    Em X (.Call (.Name x p) (e :: es) [] pos) (mCall φ ms) := by
  obtain ⟨k, f, fd, ps, F, hr, hm, hk, hb⟩ := G.ex
  exact PE_imp (pe_call F hr hg hm hk hb .nil pass0 ha hdb he hpl) fun _ _ _ h => runCall hl h
end
end Cb

set_option Elab.async false
set_option linter.all false
set_option maxRecDepth 100000
/-! Rules: calls that lend, isinstance, statements. -/
namespace Cb
open PySem PySem.Spec PyProof.Rows L2
section
variable {X : Cx}
/-! ### arguments, one lent -/
inductive AV where
  | v (d : D) | s (i : Nat)
def AReps (K : PySem.W.Frag) (F : Hp) (σ : L2.St) : List AV → List V → Prop
  | [], vs => vs = []
  | .v d :: r, vs => ∃ x t, vs = x :: t ∧ Rep K F d x ∧ AReps K F σ r t
  | .s i :: r, vs => ∃ x t, vs = x :: t ∧ σ[i]? = some (some x) ∧ AReps K F σ r t
theorem AReps.mono {K : PySem.W.Frag} {F F' : Hp} {σ : L2.St} (s : Same F F') : ∀ {as : List AV} {vs : List V}, AReps K F σ as vs → AReps K F' σ as vs
  | [], _, h => h
  | .v d :: r, _, ⟨x, t, e, h1, h2⟩ => ⟨x, t, e, Rep.mono s _ _ h1, AReps.mono s h2⟩
  | .s i :: r, _, ⟨x, t, e, h1, h2⟩ => ⟨x, t, e, h1, AReps.mono s h2⟩
abbrev ML := En → Option (List AV × En)
def tLOf (K : PySem.W.Frag) (m : ML) : TA := fun σ H Q => ∃ F0 Z B F ρ ds ρ', Rel K F0 Z B σ H F ρ ∧ m ρ = some (ds, ρ') ∧ ∀ vs H' F', Rel K F0 Z B σ H' F' ρ' → Same F F' → AReps K F' σ ds vs → Q vs H'
abbrev Al (X : Cx) (es : List Expr) (m : ML) : Prop := PA X es (tLOf X.K m)
theorem tLOf_of {K : PySem.W.Frag} {m : ML} {F0 Z : Hp} {B : Nat → Addr} {σ : L2.St} {H F : Hp} {ρ ρ' : En} {ds : List AV} {Q : List V → Hp → Prop} (R : Rel K F0 Z B σ H F ρ) (e : m ρ = some (ds, ρ'))
    (h : ∀ vs H' F', Rel K F0 Z B σ H' F' ρ' → Same F F' → AReps K F' σ ds vs → Q vs H') : tLOf K m σ H Q := ⟨F0, Z, B, F, ρ, ds, ρ', R, e, h⟩
def lNil : ML := fun ρ => some ([], ρ)
def lCons (m : ME) (ms : ML) : ML := fun ρ => (fz m ρ).bind fun p => (ms p.2).map fun q => (.v p.1 :: q.1, q.2)
def lLend (i : Nat) (ms : ML) : ML := fun ρ => (peek ρ i).bind fun _ => (ms ρ).map fun q => (.s i :: q.1, q.2)
theorem al_nil : Al X [] lNil := PA_imp pa_nil fun σ H Q ⟨F0, Z, B, F, ρ, ds, ρ', R, e, k⟩ => by
  cases e
  exact k [] H F R (Same.refl _) rfl
theorem al_cons {e : Expr} {es : List Expr} {m : ME} {ms : ML} (ha : Em X e m) (hr : Al X es ms) (hs : starEach (e :: es) X.env = (false, eval e X.env) :: starEach es X.env := by rfl) : Al X (e :: es) (lCons m ms) := PA_imp (pa_cons ha.fz hr hs) fun σ H Q ⟨F0, Z, B, F, ρ, ds, ρ', R, e, k⟩ => by
  obtain ⟨⟨x, ρ1⟩, e1, e2⟩ := Option.bind_eq_some_iff.mp e
  obtain ⟨⟨xs, ρ2⟩, e3, e4⟩ := Option.map_eq_some_iff.mp e2
  cases e4
  exact tOfV_of R e1 fun v H1 F1 R1 s1 r1 => tLOf_of R1 e3 fun vs H2 F2 R2 s2 r2 => k (v :: vs) H2 F2 R2 (s1.trans s2) ⟨v, vs, rfl, Rep.mono s2 _ _ r1, r2⟩
theorem al_lend {i : Nat} {e : Expr} {es : List Expr} {ms : ML} (ha : PE X e (tVar i)) (hr : Al X es ms) (hs : starEach (e :: es) X.env = (false, eval e X.env) :: starEach es X.env := by rfl) : Al X (e :: es) (lLend i ms) := PA_imp (pa_cons ha hr hs) fun σ H Q ⟨F0, Z, B, F, ρ, ds, ρ', R, e, k⟩ => by
  obtain ⟨x, e1, e2⟩ := Option.bind_eq_some_iff.mp e
  obtain ⟨⟨xs, ρ2⟩, e3, e4⟩ := Option.map_eq_some_iff.mp e2
  cases e4
  obtain ⟨v, ev, _⟩ := peek_ok R e1
  exact ⟨v, ev, tLOf_of R e3 fun vs H2 F2 R2 s2 r2 => k (v :: vs) H2 F2 R2 s2 ⟨v, vs, rfl, ev, r2⟩⟩
/-- the data handed over: at the place io (counted from p) what lies in the lent slot -/
def resolve (ρ : En) (io : Nat) : Nat → List AV → Option (List D)
  | _, [] => some []
  | p, .v d :: r => if p = io then none else (resolve ρ io (p + 1) r).map (d :: ·)
  | p, .s i :: r => if p = io then (match ρ[i]? with
    | some (some (.own d)) => (resolve ρ io (p + 1) r).map (d :: ·)
    | some (some (.bor d)) => (resolve ρ io (p + 1) r).map (d :: ·)
    | _ => none) else none
def slotAt : Nat → List AV → Option Nat
  | 0, .s i :: _ => some i
  | n + 1, _ :: r => slotAt n r
  | _, _ => none
def put (ρ : En) (i : Nat) (d : D) : Option En := match ρ[i]? with
  | some (some (.own _)) => some (ρ.set i (some (.own d)))
  | some (some (.bor _)) => some (ρ.set i (some (.bor d)))
  | _ => none
def mCallL (io : Nat) (φ : List D → Option (DV × D)) (ml : ML) : ME := fun ρ => (ml ρ).bind fun p => (resolve p.2 io 0 p.1).bind fun ds => (φ ds).bind fun r => (slotAt io p.1).bind fun i => (put p.2 i r.2).map fun ρ' => (r.1, ρ')
theorem put_ok {ρ ρ' : En} {i : Nat} {d : D} (h : put ρ i d = some ρ') : ∃ dv, ρ[i]? = some (some dv) ∧ dv.owned = true ∧ ρ' = ρ.set i (some (dv.to d)) := by
  unfold put at h
  split at h
  · rename_i d' e; cases h; exact ⟨_, e, rfl, rfl⟩
  · rename_i d' e; cases h; exact ⟨_, e, rfl, rfl⟩
  · cases h
theorem resolve_ok {K : PySem.W.Frag} {F0 Z : Hp} {B : Nat → Addr} {σ : L2.St} {H F : Hp} {ρ : En} {io : Nat} (R : Rel K F0 Z B σ H F ρ) : ∀ {as : List AV} {p : Nat} {ds : List D} {vs : List V}, AReps K F σ as vs → resolve ρ io p as = some ds →
    vs.length = ds.length ∧ as.length = ds.length ∧ ∀ (j : Nat) (v : V) (d : D), vs[j]? = some v → ds[j]? = some d → (io ≠ p + j → Rep K F d v) ∧ (io = p + j → (∃ a, v = .ref a ∧ F a = none ∧ OwnRep K H F a d) ∧ ∃ i, as[j]? = some (.s i) ∧ σ[i]? = some (some v))
  | [], p, ds, vs, h, e => by
    cases e
    cases h
    exact ⟨rfl, rfl, fun j v d ev => by simp at ev⟩
  | .v d :: r, p, ds, vs, ⟨x, t, ev, h1, h2⟩, e => by
    subst ev
    unfold resolve at e
    split at e
    · cases e
    · rename_i hp
      obtain ⟨ds', e1, e2⟩ := Option.map_eq_some_iff.mp e
      subst e2
      obtain ⟨g1, g2, g3⟩ := resolve_ok R h2 e1
      refine ⟨by simp [g1], by simp [g2], fun j v d' ev ed => ?_⟩
      cases j with
      | zero =>
        simp at ev ed
        subst ev ed
        exact ⟨fun _ => h1, fun z => absurd z.symm hp⟩
      | succ j =>
        simp at ev ed
        obtain ⟨q1, q2⟩ := g3 j v d' ev ed
        refine ⟨fun z => q1 (by omega), fun z => ?_⟩
        obtain ⟨q3, i, q4, q5⟩ := q2 (by omega)
        exact ⟨q3, i, by simpa using q4, q5⟩
  | .s i :: r, p, ds, vs, ⟨x, t, ev, h1, h2⟩, e => by
    subst ev
    unfold resolve at e
    split at e
    · rename_i hp
      have key : ∃ d dv ds', ρ[i]? = some (some dv) ∧ dv.owned = true ∧ dv.get = d ∧ resolve ρ io (p + 1) r = some ds' ∧ ds = d :: ds' := by
        split at e
        · rename_i d er
          obtain ⟨ds', e1, e2⟩ := Option.map_eq_some_iff.mp e
          exact ⟨d, _, ds', er, rfl, rfl, e1, e2.symm⟩
        · rename_i d er
          obtain ⟨ds', e1, e2⟩ := Option.map_eq_some_iff.mp e
          exact ⟨d, _, ds', er, rfl, rfl, e1, e2.symm⟩
        · cases e
      obtain ⟨d, dv, ds', er, ow, eg, e1, rfl⟩ := key
      obtain ⟨g1, g2, g3⟩ := resolve_ok R h2 e1
      refine ⟨by simp [g1], by simp [g2], fun j v d' ev ed => ?_⟩
      cases j with
      | zero =>
        simp at ev ed
        subst ev ed
        refine ⟨fun z => absurd hp.symm z, fun _ => ⟨?_, i, rfl, h1⟩⟩
        obtain ⟨w, ew, s⟩ := R.slot i dv er
        rw [h1] at ew
        have : x = w := Option.some.inj (Option.some.inj ew)
        subst this
        cases dv with
        | val d => cases ow
        | own d'' => obtain ⟨a, ea, q1, _, q2⟩ := s; cases eg; exact ⟨a, ea, q1, q2⟩
        | bor d'' => obtain ⟨ea, q1, _, q2⟩ := s; cases eg; exact ⟨_, ea, q1, q2⟩
      | succ j =>
        simp at ev ed
        obtain ⟨q1, q2⟩ := g3 j v d' ev ed
        refine ⟨fun z => q1 (by omega), fun z => ?_⟩
        obtain ⟨q3, i, q4, q5⟩ := q2 (by omega)
        exact ⟨q3, i, by simpa using q4, q5⟩
    · cases e
theorem slotAt_ok : ∀ {as : List AV} {n i : Nat}, slotAt n as = some i → as[n]? = some (.s i)
  | .s j :: _, 0, _, h => by cases h; rfl
  | .v _ :: _, 0, _, h => by cases h
  | [], 0, _, h => by cases h
  | [], _ + 1, _, h => by cases h
  | .s _ :: r, n + 1, i, h => by simpa using slotAt_ok (as := r) (n := n) (by simpa [slotAt] using h)
  | .v _ :: r, n + 1, i, h => by simpa using slotAt_ok (as := r) (n := n) (by simpa [slotAt] using h)
theorem Off.set {σ : L2.St} {ρ : En} {i : Nat} {dv dv' : DV} {a : Addr} (h : Off σ ρ a) (e : ρ[i]? = some (some dv)) (o : dv.owned = true) : Off σ (ρ.set i (some dv')) a := fun j dj ej oj => by
  by_cases hij : i = j
  · subst hij; exact h i dv e o
  · rw [List.getElem?_set_ne hij] at ej; exact h j dj ej oj
theorem runCallL {K : PySem.W.Frag} {φ : List D → Option (DV × D)} {ml : ML} {n io : Nat} (hlen : ∀ ρ p, ml ρ = some p → p.1.length = n) {σ : L2.St} {H : Hp} {Q : VK} (h : tOf K (mCallL io φ ml) σ H Q) : tCall (spF K (some io) n φ) [] E0 (tLOf K ml) σ H Q := by
  obtain ⟨F0, Z, B, F, ρ, dv, ρ', R, e, k⟩ := h
  obtain ⟨⟨as, ρ1⟩, e1, e2⟩ := Option.bind_eq_some_iff.mp e
  obtain ⟨ds, e3, e4⟩ := Option.bind_eq_some_iff.mp e2
  obtain ⟨⟨r, o⟩, e5, e6⟩ := Option.bind_eq_some_iff.mp e4
  obtain ⟨i, e7, e8⟩ := Option.bind_eq_some_iff.mp e6
  obtain ⟨ρ2, e9, e10⟩ := Option.map_eq_some_iff.mp e8
  cases e10
  refine tLOf_of R e1 fun vs H1 F1 R1 s1 r1 => ?_
  obtain ⟨g1, g2, g3⟩ := resolve_ok R1 r1 e3
  have hl : as.length = n := hlen ρ _ e1
  rw [List.append_nil]
  obtain ⟨dw, q1, q2, q3⟩ := put_ok e9
  subst q3
  obtain ⟨w, ew, sl⟩ := R1.slot i dw q1
  obtain ⟨a, ea, hFa, hZa, u, hu⟩ := sl.addr q2
  subst ea
  have hio : vs[io]? = some (V.ref a) := by
    have h1 := slotAt_ok e7
    have hlt : io < as.length := (List.getElem?_eq_some_iff.mp h1).1
    have hlt2 : io < vs.length := by omega
    have h2 : vs[io]? = some vs[io] := List.getElem?_eq_getElem hlt2
    have hlt3 : io < ds.length := by omega
    have h3 : ds[io]? = some ds[io] := List.getElem?_eq_getElem hlt3
    obtain ⟨_, i', h4, h5⟩ := (g3 io _ _ h2 h3).2 (by omega)
    rw [h1] at h4
    have : i = i' := by injection Option.some.inj h4
    subst this
    rw [ew] at h5
    rw [h2]
    exact congrArg some (Option.some.inj (Option.some.inj h5)).symm
  refine ⟨by omega, F1, ds, r, o, R1.sub, by omega, fun j v d ev ed => ?_, e5, fun v H' F' po => ?_⟩
  · obtain ⟨q4, q5⟩ := g3 j v d ev ed
    exact ⟨fun z => q4 fun z2 => z (by rw [z2]; simp), fun z => (q5 (by have := Option.some.inj z; omega)).1⟩
  · have keep : ∀ b u, b ≠ a → H1 b = some u → H' b = some u := fun b u hb e => po.keep b u e fun j ej ev => by
      cases ej
      rw [hio] at ev
      have : a = b := by injection Option.some.inj ev
      exact hb this.symm
    obtain ⟨oF, oR⟩ := po.out io a rfl hio
    have R2 : Rel K F0 Z B σ H' F' (ρ1.set i (some (dw.to o))) := by
      refine ⟨by rw [List.length_set]; exact R1.len, po.sub, fun b u e => ?_, fun b u e => ?_, fun j dj ej => ?_, fun j l dj dl c ne ej el oj ol sj sl' => ?_⟩
      · exact keep b u (fun z => by subst z; rw [hZa] at e; cases e) (R1.zsub _ _ e)
      · rcases po.new b u e with q | q
        · exact R1.base _ _ q
        · exact .inr (R1.zsub.free q)
      · by_cases hij : i = j
        · subst hij
          have hl' : i < ρ1.length := (List.getElem?_eq_some_iff.mp q1).1
          rw [List.getElem?_set_self hl'] at ej
          have : dw.to o = dj := Option.some.inj (Option.some.inj ej)
          subst this
          refine ⟨.ref a, ew, ?_⟩
          cases dw with
          | val d => cases q2
          | own d => exact ⟨a, rfl, oF, hZa, oR⟩
          | bor d =>
            obtain ⟨eb, _⟩ := sl
            have : a = B i := by injection eb
            subst this
            exact ⟨rfl, oF, hZa, oR⟩
        · rw [List.getElem?_set_ne hij] at ej
          obtain ⟨x, ex, s⟩ := R1.slot j dj ej
          refine ⟨x, ex, s.move po.same fun c oc ec => ?_⟩
          obtain ⟨c', ec', hFc, _, t, ht⟩ := s.addr oc
          rw [ec] at ec'; cases ec'
          have hca : c ≠ a := fun z => by
            subst z
            exact R1.apart i j dw dj c hij q1 ej q2 oc ew (by rw [ex, ec])
          refine ⟨(keep c t hca ht).trans ht.symm, ?_⟩
          cases q : F' c with
          | none => rfl
          | some t' =>
            rcases po.new c t' q with q | q
            · rw [hFc] at q; cases q
            · rw [ht] at q; cases q
      · have low : ∀ {p : Nat} {dp : DV}, (ρ1.set i (some (dw.to o)))[p]? = some (some dp) → dp.owned = true → ∃ dq, ρ1[p]? = some (some dq) ∧ dq.owned = true := fun {p dp} q oq => by
          by_cases hp : i = p
          · subst hp; exact ⟨dw, q1, q2⟩
          · rw [List.getElem?_set_ne hp] at q; exact ⟨dp, q, oq⟩
        obtain ⟨dj', t1, t2⟩ := low ej oj
        obtain ⟨dl', t3, t4⟩ := low el ol
        exact R1.apart j l dj' dl' c ne t1 t3 t2 t4 sj sl'
    refine k v H' F' R2 (s1.trans po.same) ?_
    have rr := ResOk.of_fres R1 po.res
    cases r with
    | val d => exact rr
    | own d => obtain ⟨b, eb, h1, h2, h3, off⟩ := rr; exact ⟨b, eb, h1, h2, h3, off.set q1 q2⟩
    | bor d => exact rr.elim
theorem lLen_nil (ρ : En) (p) (h : lNil ρ = some p) : p.1.length = 0 := by cases h; rfl
theorem lLen_cons {m : ME} {ms : ML} {n : Nat} (hn : ∀ ρ p, ms ρ = some p → p.1.length = n) (ρ : En) (p) (h : lCons m ms ρ = some p) : p.1.length = n + 1 := by
  obtain ⟨q, e1, e2⟩ := Option.bind_eq_some_iff.mp h
  obtain ⟨t, e3, e4⟩ := Option.map_eq_some_iff.mp e2
  subst e4
  simp [hn _ _ e3]
theorem lLen_lend {i : Nat} {ms : ML} {n : Nat} (hn : ∀ ρ p, ms ρ = some p → p.1.length = n) (ρ : En) (p) (h : lLend i ms ρ = some p) : p.1.length = n + 1 := by
  obtain ⟨q, e1, e2⟩ := Option.bind_eq_some_iff.mp h
  obtain ⟨t, e3, e4⟩ := Option.map_eq_some_iff.mp e2
  subst e4
  simp [hn _ _ e3]
theorem em_callL {x : Str} {p pos : Pos} {e : Expr} {es : List Expr} {ml : ML} {n io : Nat} {φ : List D → Option (DV × D)} (G : Fk X x (some io) n φ) (hg : Gl X x) (ha : Al X (e :: es) ml) (hl : ∀ ρ p, ml ρ = some p → p.1.length = n)
    (hdb : (x == ("__debug__" : Str)) = false := by decide) (he : starEach (e :: es) X.env = (false, eval e X.env) :: starEach es X.env := by rfl) (hpl : (backTo pos (starEach es X.env)).any (·.1) = false := by rfl) :
    Em X (.Call (.Name x p) (e :: es) [] pos) (mCallL io φ ml) := by
  obtain ⟨k, f, fd, ps, F, hr, hm, hk, hb⟩ := G.ex
  exact PE_imp (pe_call F hr hg hm hk hb .nil pass0 ha hdb he hpl) fun _ _ _ h => runCallL hl h
/-! ### isinstance(x, T) -/
def tyN : D → String
  | .non => "NoneType" | .bl _ => "bool" | .int _ => "int" | .str _ => "str" | .tup _ => "tuple" | .lst _ => "list" | .dk _ _ => "dict" | .dt _ _ => "dict" | .scr _ => "list"
theorem tyX_of {K : PySem.W.Frag} {F H : Hp} {d : D} {v : V} (s : Same F H) (r : Rep K F d v) : TyX K H v (.type (tyN d)) := by
  cases d with
  | non => unfold Rep at r; subst r; exact .base .non
  | bl b => unfold Rep at r; subst r; exact .base (.bl b)
  | int b => unfold Rep at r; subst r; exact .base (.int b)
  | str b => unfold Rep at r; subst r; exact .base (.str b)
  | tup ds =>
    obtain ⟨a, xs, rfl, h1, _⟩ := st_of s r
    rcases h1 with (h1 | ⟨o, h1⟩) | ⟨o, its, n, h1, h2, _⟩
    · exact .base (.tup h1)
    · exact .fTuple h1
    · exact .kTuple h1 h2
  | lst ds =>
    unfold Rep at r
    obtain ⟨a, xs, rfl, h1, _⟩ := r
    exact .base (.lst (s _ _ h1))
  | dk ks vs =>
    unfold Rep at r
    obtain ⟨a, xs, rfl, h1, _⟩ := r
    exact .base (.dK (s _ _ h1))
  | dt ks vs =>
    unfold Rep at r
    obtain ⟨a, xs, rfl, h1, _⟩ := r
    exact .base (.dT (s _ _ h1))
  | scr ns =>
    unfold Rep at r
    obtain ⟨a, rfl, h1⟩ := r
    rcases s.seq h1 with (h1 | ⟨o, h1⟩) | ⟨o, its, n, h1, h2, _⟩
    · exact .base (.lst h1)
    · exact .base (.frz h1)
    · exact .kList h1 h2
def dIsi (T : String) (d : D) : Option Bool := kitB (tyN d) T
def mIsi (T : String) (m : ME) : ME := fun ρ => (fz m ρ).bind fun p => (dIsi T p.1).map fun b => (.val (.bl b), p.2)
theorem em_isi {T : String} {x y : Str} {p p2 pos : Pos} {e : Expr} {m : ME} (ha : Em X e m) (hg : Gl X x) (hm : X.mg x = none) (hv : bootBuiltins x = some (.builtin "isinstance")) (hg2 : Gl X y) (hm2 : X.mg y = none) (hv2 : bootBuiltins y = some (.type T))
    (hn : x ≠ "__name__" := by decide) (hdb : (x == ("__debug__" : Str)) = false := by decide) (hn2 : y ≠ "__name__" := by decide) (hdb2 : (y == ("__debug__" : Str)) = false := by decide)
    (he : starEach [e, .Name y p2] X.env = (false, eval e X.env) :: starEach [.Name y p2] X.env := by rfl) (hpl : (backTo pos (starEach [.Name y p2] X.env)).any (·.1) = false := by rfl) :
    Em X (.Call (.Name x p) [e, .Name y p2] [] pos) (mIsi T m) :=
  PE_imp (pe_callB call_isi hg hm hv (pa_cons ha.fz (pa_cons (pe_bltn (v := .ty T) hg2 hm2 hv2 rfl hn2 hdb2) pa_nil) he) hn hdb he hpl) fun σ H Q ⟨F0, Z, B, F, ρ, dv, ρ', R, e, k⟩ => by
    obtain ⟨⟨x, ρ1⟩, e1, e2⟩ := Option.bind_eq_some_iff.mp e
    obtain ⟨b, e3, e4⟩ := Option.map_eq_some_iff.mp e2
    cases e4
    refine tOfV_of R e1 fun v H1 F1 R1 s1 r1 => ?_
    exact ⟨v, .ty T, .type (tyN x), .type T, b, rfl, .ty T, tyX_of R1.sub r1, kit_ty e3, k _ H1 F1 R1 s1 res_bl⟩
/-! ### statements -/
def sNever : MS := fun _ => none
theorem sm_never {st : Stmt} : Sm X st sNever := PS_imp ps_never fun D σ H ⟨F0, Z, B, F, ρ, r, R, e, k⟩ => by cases e
theorem ss_never {sts : List Stmt} : Ss X sts sNever := PSs_imp pss_never fun D σ H ⟨F0, Z, B, F, ρ, r, R, e, k⟩ => by cases e
def sNext : MS := fun ρ => some (.nx ρ)
def sSeq (m n : MS) : MS := fun ρ => (m ρ).bind fun r => match r with
  | .nx ρ' => n ρ'
  | r => some r
theorem ss_nil : Ss X [] sNext := PSs_imp pss_nil fun D σ H ⟨F0, Z, B, F, ρ, r, R, e, k⟩ => by
  cases e
  exact k σ H F R (Same.refl _)
theorem ss_one {st : Stmt} {m : MS} (h : Sm X st m) : Ss X [st] m := pss_one h
theorem ss_cons {st : Stmt} {sts : List Stmt} {m n : MS} (h1 : Sm X st m) (h2 : Ss X sts n) : Ss X (st :: sts) (sSeq m n) := PSs_imp (pss_cons h1 h2) fun D σ H ⟨F0, Z, B, F, ρ, r, R, e, k⟩ => by
  obtain ⟨r1, e1, e2⟩ := Option.bind_eq_some_iff.mp e
  refine tSOf_of R e1 ?_
  cases r1 with
  | nx ρ1 => exact fun σ' H' F' R' s' => tSOf_of R' e2 (k.mono s')
  | rt dv ρ1 => cases e2; exact k
  | bk ρ1 => cases e2; exact k
  | ct ρ1 => cases e2; exact k
def sExpr (m : ME) : MS := fun ρ => (m ρ).map fun p => .nx p.2
theorem sm_expr {e : Expr} {pos : Pos} {m : ME} (h : Em X e m) (hs : swapsWith e none pos.line X.env = pure false := by rfl) : Sm X (.Expr e pos) (sExpr m) := PS_imp (ps_expr h hs) fun D σ H ⟨F0, Z, B, F, ρ, r, R, e, k⟩ => by
  obtain ⟨⟨dv, ρ1⟩, e1, e2⟩ := Option.map_eq_some_iff.mp e
  subst e2
  exact tOf_of R e1 fun v H' F' R' s rr => k σ H' F' R' s
def sRet (m : ME) : MS := fun ρ => (m ρ).map fun p => .rt p.1 p.2
theorem sm_ret {e : Expr} {pos : Pos} {m : ME} (h : Em X e m) : Sm X (.Return (some e) pos) (sRet m) := PS_imp (ps_ret h) fun D σ H ⟨F0, Z, B, F, ρ, r, R, e, k⟩ => by
  obtain ⟨⟨dv, ρ1⟩, e1, e2⟩ := Option.map_eq_some_iff.mp e
  subst e2
  exact tOf_of R e1 fun v H' F' R' s rr => k v σ H' F' R' s rr
theorem sm_pass {pos : Pos} : Sm X (.Pass pos) sNext := PS_imp ps_pass fun D σ H ⟨F0, Z, B, F, ρ, r, R, e, k⟩ => by
  cases e
  exact k σ H F R (Same.refl _)
def sBreak : MS := fun ρ => some (.bk ρ)
def sCont : MS := fun ρ => some (.ct ρ)
theorem sm_break {pos : Pos} : Sm X (.Break pos) sBreak := PS_imp ps_break fun D σ H ⟨F0, Z, B, F, ρ, r, R, e, k⟩ => by
  cases e
  exact k σ H F R (Same.refl _)
theorem sm_cont {pos : Pos} : Sm X (.Continue pos) sCont := PS_imp ps_continue fun D σ H ⟨F0, Z, B, F, ρ, r, R, e, k⟩ => by
  cases e
  exact k σ H F R (Same.refl _)
def sIf (c : MT) (a b : MS) : MS := fun ρ => (c ρ).bind fun p => if p.1 = true then a p.2 else b p.2
theorem sm_if {c : Expr} {a b : List Stmt} {pos : Pos} {mc : MT} {ma mb : MS} (hc : Et X c mc) (ha : Ss X a ma) (hb : Ss X b mb) : Sm X (.If c a b pos) (sIf mc ma mb) := PS_imp (ps_if hc ha hb) fun D σ H ⟨F0, Z, B, F, ρ, r, R, e, k⟩ => by
  obtain ⟨⟨d, ρ1⟩, e1, e2⟩ := Option.bind_eq_some_iff.mp e
  refine tOfT_of R e1 fun H' F' R' s => ?_
  cases d with
  | true =>
    rw [if_pos rfl]
    exact tSOf_of R' e2 (k.mono s)
  | false =>
    rw [if_neg Bool.false_ne_true]
    exact tSOf_of R' e2 (k.mono s)
def sSet (i : Nat) (m : ME) : MS := fun ρ => (m ρ).map fun p => .nx (p.2.set i (some p.1))
theorem set_tail {K : PySem.W.Frag} {te : TE} {i : Nat} {m : ME} (ht : ∀ σ H Q, tOf K m σ H Q → te σ H Q) {D : Ends} {σ : L2.St} {H : Hp} (h : tSOf K (sSet i m) D σ H) : tAsg te (gName i) D σ H := by
  obtain ⟨F0, Z, B, F, ρ, r, R, e, k⟩ := h
  obtain ⟨⟨dv, ρ1⟩, e1, e2⟩ := Option.map_eq_some_iff.mp e
  subst e2
  exact ht _ _ _ (tOf_of R e1 fun v H' F' R' s rr => k (σ.set i (some v)) H' F' (R'.setSlot rr) s)
theorem sm_set {i : Nat} {x : Str} {e : Expr} {pos pos' : Pos} {m : ME} (hN : X.N.Nodup) (hi : X.N[i]? = some x) (hx : Loc X.env.scope x) (he : Em X e m) (hs : swapsWith e (some (.Name x pos')) pos.line X.env = pure false := by rfl) (hf : X.fn x = true ∨ X.env.scope.names.lookup x = some .local := by first | exact .inl rfl | exact .inr rfl | assumption) :
    Sm X (.Assign [.Name x pos'] e pos) (sSet i m) := PS_imp (ps_set hN hi hx he hs hf) fun D σ H h => set_tail (fun _ _ _ h => h) h
end
end Cb

set_option Elab.async false
set_option linter.all false
set_option maxRecDepth 100000
/-! Rules: targets, stores, changed lists, loops, comprehensions. -/
namespace Cb
open PySem PySem.Spec PyProof.Rows L2
section
variable {X : Cx}
/-! ### targets -/
abbrev MG := D → En → Option En
def tGOf (K : PySem.W.Frag) (ws : List Nat) (m : MG) : TG := fun v σ H Q => ∃ F0 Z B F ρ d ρ', Rel K F0 Z B σ H F ρ ∧ Rep K F d v ∧ m d ρ = some ρ' ∧ ∀ σ' F', Rel K F0 Z B σ' H F' ρ' → Same F F' → wipe σ' ws = wipe σ ws → Q σ' H
abbrev Gm (X : Cx) (e : Expr) (ws : List Nat) (m : MG) : Prop := PG X e (tGOf X.K ws m)
theorem PG_imp {e : Expr} {t t' : TG} (h : PG X e t) (i : ∀ v σ H Q, t' v σ H Q → t v σ H Q) : PG X e t' := ⟨fun pins s σ H v u Q I r q => h.run pins s σ H v u Q I r (i _ _ _ _ q)⟩
theorem wipe_get_ne {σ : L2.St} {i : Nat} : ∀ {ws : List Nat}, i ∉ ws → (wipe σ ws)[i]? = σ[i]?
  | [], _ => rfl
  | w :: ws, h => by
    unfold wipe
    rw [List.getElem?_set_ne (by intro e; exact h (by simp [e]))]
    exact wipe_get_ne (by intro e; exact h (by simp [e]))
theorem wipe_get_mem {σ : L2.St} {i : Nat} (hi : i < σ.length) : ∀ {ws : List Nat}, i ∈ ws → (wipe σ ws)[i]? = some none
  | [], h => by simp at h
  | w :: ws, h => by
    unfold wipe
    by_cases e : w = i
    · subst e
      rw [List.getElem?_set_self (by rw [wipe_length]; exact hi)]
    · rw [List.getElem?_set_ne e]
      exact wipe_get_mem hi (by
        rcases List.mem_cons.mp h with z | z
        · exact absurd z.symm e
        · exact z)
theorem wipe_ext {σ σ' : L2.St} {ws : List Nat} (hl : σ'.length = σ.length) (h : ∀ i, i ∉ ws → σ'[i]? = σ[i]?) : wipe σ' ws = wipe σ ws := by
  refine List.ext_getElem? fun i => ?_
  by_cases hi : i < σ.length
  · by_cases hm : i ∈ ws
    · rw [wipe_get_mem (by omega) hm, wipe_get_mem hi hm]
    · rw [wipe_get_ne hm, wipe_get_ne hm, h i hm]
  · rw [List.getElem?_eq_none (by rw [wipe_length]; omega), List.getElem?_eq_none (by rw [wipe_length]; omega)]
theorem wipe_of {σ σ' : L2.St} {ws : List Nat} (h : wipe σ' ws = wipe σ ws) : σ'.length = σ.length ∧ ∀ i, i ∉ ws → σ'[i]? = σ[i]? := by
  refine ⟨?_, fun i hi => ?_⟩
  · have := congrArg List.length h
    rwa [wipe_length, wipe_length] at this
  · have this : (wipe σ' ws)[i]? = (wipe σ ws)[i]? := by rw [h]
    rwa [wipe_get_ne hi, wipe_get_ne hi] at this
theorem wipe_sub {σ σ' : L2.St} {ws vs : List Nat} (h : wipe σ' ws = wipe σ ws) (s : ∀ i ∈ ws, i ∈ vs) : wipe σ' vs = wipe σ vs := by
  obtain ⟨h1, h2⟩ := wipe_of h
  exact wipe_ext h1 fun i hi => h2 i fun z => hi (s i z)
theorem wipe_trans {σ σ' σ'' : L2.St} {ws vs : List Nat} (h : wipe σ' ws = wipe σ ws) (h' : wipe σ'' vs = wipe σ' vs) : wipe σ'' (ws ++ vs) = wipe σ (ws ++ vs) :=
  (wipe_sub h' (fun i hi => by simp [hi])).trans (wipe_sub h (fun i hi => by simp [hi]))
def gN (i : Nat) : MG := fun d ρ => some (ρ.set i (some (.val d)))
theorem gm_name {i : Nat} {x : Str} {pos : Pos} (hN : X.N.Nodup) (hi : X.N[i]? = some x) (hx : Loc X.env.scope x) (hf : X.fn x = true ∨ X.env.scope.names.lookup x = some .local := by first | exact .inl rfl | exact .inr rfl | assumption) : Gm X (.Name x pos) [i] (gN i) :=
  PG_imp (pg_name hN hi hx hf) fun v σ H Q ⟨F0, Z, B, F, ρ, d, ρ', R, r, e, k⟩ => by
    cases e
    exact k _ F (R.setSlot (dv := .val d) r) (Same.refl _) (wipe_ext (by simp) fun j hj => by
      rw [List.getElem?_set_ne (by intro z; exact hj (by simp [z]))])
abbrev MGs := List D → En → Option En
def tGsOf (K : PySem.W.Frag) (ws : List Nat) (m : MGs) : TGs := fun vs σ H Q => ∃ F0 Z B F ρ ds ρ', Rel K F0 Z B σ H F ρ ∧ Reps K F ds vs ∧ m ds ρ = some ρ' ∧ ∀ σ' F', Rel K F0 Z B σ' H F' ρ' → Same F F' → wipe σ' ws = wipe σ ws → Q σ' H
abbrev Gs (X : Cx) (es : List Expr) (ws : List Nat) (m : MGs) : Prop := PGs X es (tGsOf X.K ws m)
theorem PGs_imp {es : List Expr} {t t' : TGs} (h : PGs X es t) (i : ∀ v σ H Q, t' v σ H Q → t v σ H Q) : PGs X es t' := ⟨fun pins s σ H v u Q I r q => h.run pins s σ H v u Q I r (i _ _ _ _ q)⟩
def gsNil : MGs := fun ds ρ => match ds with
  | [] => some ρ
  | _ => none
def gsCons (g : MG) (gs : MGs) : MGs := fun ds ρ => match ds with
  | d :: ds => (g d ρ).bind fun ρ' => gs ds ρ'
  | [] => none
theorem gs_nil : Gs X [] [] gsNil := PGs_imp pgs_nil fun vs σ H Q ⟨F0, Z, B, F, ρ, ds, ρ', R, r, e, k⟩ => by
  cases ds with
  | nil => cases e; exact ⟨r.of_nil, k σ F R (Same.refl _) rfl⟩
  | cons d ds => cases e
theorem gs_cons {e : Expr} {es : List Expr} {ws vs : List Nat} {g : MG} {gs : MGs} (h1 : Gm X e ws g) (h2 : Gs X es vs gs) (hs : (assignEach (e :: es) X.env).map (·.2) = assign e X.env :: (assignEach es X.env).map (·.2) := by rfl) : Gs X (e :: es) (ws ++ vs) (gsCons g gs) :=
  PGs_imp (pgs_cons h1 h2 hs) fun us σ H Q ⟨F0, Z, B, F, ρ, ds, ρ', R, r, e, k⟩ => by
    cases ds with
    | nil => cases e
    | cons d ds =>
      obtain ⟨ρ1, e1, e2⟩ := Option.bind_eq_some_iff.mp e
      obtain ⟨x, t, rfl, r1, r2⟩ := r.of_cons
      exact ⟨x, t, rfl, F0, Z, B, F, ρ, d, ρ1, R, r1, e1, fun σ' F' R' s' w1 => ⟨F0, Z, B, F', ρ1, ds, ρ', R', Reps.mono s' _ _ r2, e2, fun σ2 F2 R2 s2 w2 => k σ2 F2 R2 (s'.trans s2) (wipe_trans w1 w2)⟩⟩
def gT (gs : MGs) : MG := fun d ρ => match d with
  | .tup ds => gs ds ρ
  | _ => none
theorem gsLen_nil (ds ρ ρ') (h : gsNil ds ρ = some ρ') : ds.length = 0 := by
  cases ds with
  | nil => rfl
  | cons d ds => cases h
theorem gsLen_cons {g : MG} {gs : MGs} {n : Nat} (hn : ∀ ds ρ ρ', gs ds ρ = some ρ' → ds.length = n) (ds ρ ρ') (h : gsCons g gs ds ρ = some ρ') : ds.length = n + 1 := by
  cases ds with
  | nil => cases h
  | cons d ds =>
    obtain ⟨ρ1, e1, e2⟩ := Option.bind_eq_some_iff.mp h
    simp [hn _ _ _ e2]
theorem gm_tup {es : List Expr} {k n : Nat} {pos : Pos} {ws : List Nat} {gs : MGs} (hc : X.calm = true) (h : Gs X es ws gs) (hl : ∀ ds ρ ρ', gs ds ρ = some ρ' → ds.length = n)
    (hn : (assignEach es X.env).length = n := by rfl) (hst : (assignEach es X.env).findIdx? (·.1) = none := by rfl) : Gm X (.Tuple es k pos) ws (gT gs) :=
  PG_imp (pg_tup hc h hn hst) fun v σ H Q ⟨F0, Z, B, F, ρ, d, ρ', R, r, e, kk⟩ => by
    cases d with
    | tup ds =>
      obtain ⟨a, xs, rfl, h1, h2⟩ := st_of R.sub r
      exact ⟨a, xs, rfl, h1, h2.length.trans (hl _ _ _ e), F0, Z, B, F, ρ, ds, ρ', R, h2, e, kk⟩
    | _ => cases e
/-! ### target = value -/
def sAsg (m : ME) (g : MG) : MS := fun ρ => (fz m ρ).bind fun p => (g p.1 p.2).map .nx
theorem sm_asg {tg e : Expr} {pos : Pos} {m : ME} {ws : List Nat} {g : MG} (he : Em X e m) (hg : Gm X tg ws g) (hs : swapsWithSole [tg] e pos.line X.env = pure false := by rfl) (hw : swappedStores [tg] e X.env = pure none := by rfl)
    (h1 : (assignEach [tg] X.env).map (·.2) = [assign tg X.env] := by rfl) : Sm X (.Assign [tg] e pos) (sAsg m g) := PS_imp (ps_asg he.fz hg hs hw h1) fun D σ H ⟨F0, Z, B, F, ρ, r, R, e, k⟩ => by
  obtain ⟨⟨d, ρ1⟩, e1, e2⟩ := Option.bind_eq_some_iff.mp e
  obtain ⟨ρ2, e3, e4⟩ := Option.map_eq_some_iff.mp e2
  subst e4
  exact tOfV_of R e1 fun v H' F' R' s r => ⟨F0, Z, B, F', ρ1, d, ρ2, R', r, e3, fun σ' F2 R2 s2 _ => k σ' H' F2 R2 (s.trans s2)⟩
/-! ### several values, not frozen: a, b = x, y -/
def DRes (K : PySem.W.Frag) (Z : Hp) (σ : L2.St) (ρ : En) (H F : Hp) : List DV → List V → Prop
  | [], vs => vs = []
  | dv :: r, vs => ∃ x t, vs = x :: t ∧ ResOk K Z σ ρ H F x dv ∧ DRes K Z σ ρ H F r t ∧ (dv.owned = true → ∀ a, x = .ref a → ∀ (j : Nat) (dj : DV), r[j]? = some dj → dj.owned = true → t[j]? ≠ some (V.ref a))
abbrev MD := En → Option (List DV × En)
def tDOf (K : PySem.W.Frag) (m : MD) : TA := fun σ H Q => ∃ F0 Z B F ρ ds ρ', Rel K F0 Z B σ H F ρ ∧ m ρ = some (ds, ρ') ∧ ∀ vs H' F', Rel K F0 Z B σ H' F' ρ' → Same F F' → DRes K Z σ ρ' H' F' ds vs → Q vs H'
abbrev Ad (X : Cx) (es : List Expr) (m : MD) : Prop := PA X es (tDOf X.K m)
def dNil : MD := fun ρ => some ([], ρ)
def dCons (m : ME) (ms : MD) : MD := fun ρ => (m ρ).bind fun p => (ms p.2).map fun q => (p.1 :: q.1, q.2)
theorem ad_nil : Ad X [] dNil := PA_imp pa_nil fun σ H Q ⟨F0, Z, B, F, ρ, ds, ρ', R, e, k⟩ => by
  cases e
  exact k [] H F R (Same.refl _) rfl
theorem DRes.own_in {K : PySem.W.Frag} {Z : Hp} {σ : L2.St} {ρ : En} {H F : Hp} : ∀ {ds : List DV} {vs : List V} {j : Nat} {dj : DV}, DRes K Z σ ρ H F ds vs → ds[j]? = some dj → ∃ x, vs[j]? = some x ∧ ResOk K Z σ ρ H F x dj
  | [], _, _, _, _, e => by simp at e
  | d :: ds, _, 0, _, ⟨x, t, ev, h1, h2, h3⟩, e => by subst ev; simp at e; subst e; exact ⟨x, rfl, h1⟩
  | d :: ds, _, j + 1, _, ⟨x, t, ev, h1, h2, h3⟩, e => by
    subst ev
    obtain ⟨y, q1, q2⟩ := DRes.own_in (j := j) h2 (by simpa using e)
    exact ⟨y, by simpa using q1, q2⟩
theorem ad_cons {e : Expr} {es : List Expr} {m : ME} {ms : MD} (ha : Em X e m) (hr : Ad X es ms) (hs : starEach (e :: es) X.env = (false, eval e X.env) :: starEach es X.env := by rfl) : Ad X (e :: es) (dCons m ms) := PA_imp (pa_cons ha hr hs) fun σ H Q ⟨F0, Z, B, F, ρ, ds, ρ', R, e, k⟩ => by
  obtain ⟨⟨x, ρ1⟩, e1, e2⟩ := Option.bind_eq_some_iff.mp e
  obtain ⟨⟨xs, ρ2⟩, e3, e4⟩ := Option.map_eq_some_iff.mp e2
  cases e4
  refine tOf_of R e1 fun v H1 F1 R1 s1 r1 => ?_
  cases x with
  | bor d => exact r1.elim
  | val d => exact ⟨F0, Z, B, F1, ρ1, xs, ρ2, R1, e3, fun vs H2 F2 R2 s2 r2 => k (v :: vs) H2 F2 R2 (s1.trans s2) ⟨v, vs, rfl, Rep.mono s2 _ _ r1, r2, fun z => by cases z⟩⟩
  | own d =>
    obtain ⟨a, rfl, h1, h2, h3, off⟩ := r1
    obtain ⟨o, ho⟩ := h3.there
    refine ⟨F1, _, B, F1, ρ1, xs, ρ2, R1.prot ho off, e3, fun vs H2 F2 R2 s2 r2 => ?_⟩
    obtain ⟨R3, g1, g2, g3⟩ := R1.unprot h1 h2 R2
    have low : ∀ {ds : List DV} {vs : List V}, DRes X.K (upd Z a o) σ ρ2 H2 F2 ds vs → DRes X.K Z σ ρ2 H2 F2 ds vs ∧ ∀ (j : Nat) (dj : DV), ds[j]? = some dj → dj.owned = true → vs[j]? ≠ some (V.ref a) := by
      intro ds
      induction ds with
      | nil => intro vs h; exact ⟨h, fun j dj e => by simp at e⟩
      | cons d ds ih =>
        rintro _ ⟨x, t, rfl, q1, q2, q3⟩
        obtain ⟨i1, i2⟩ := ih q2
        have q1' : ResOk X.K Z σ ρ2 H2 F2 x d ∧ (d.owned = true → x ≠ .ref a) := by
          cases d with
          | val d => exact ⟨q1, fun z => by cases z⟩
          | bor d => exact q1.elim
          | own d =>
            obtain ⟨b, rfl, t1, t2, t3, t4⟩ := q1
            have hb : b ≠ a := fun z => by subst z; rw [upd_same] at t2; cases t2
            rw [upd_ne hb] at t2
            exact ⟨⟨b, rfl, t1, t2, t3, t4⟩, fun _ z => hb (by injection z)⟩
        refine ⟨⟨x, t, rfl, q1'.1, i1, q3⟩, fun j dj ej oj => ?_⟩
        cases j with
        | zero =>
          simp at ej; subst ej
          simp
          exact q1'.2 oj
        | succ j =>
          simp at ej
          simpa using i2 j dj ej oj
    obtain ⟨r3, r4⟩ := low r2
    exact k (.ref a :: vs) H2 F2 R3 (s1.trans s2) ⟨.ref a, vs, rfl, ⟨a, rfl, g2, h2, h3.mono (g1.trans ho.symm) s2, g3⟩, r3, fun _ b eb j dj ej oj => by
      have : a = b := by injection eb
      subst this
      exact r4 j dj ej oj⟩
def setAll : List Nat → List DV → En → Option En
  | [], [], ρ => some ρ
  | i :: is, d :: ds, ρ => setAll is ds (ρ.set i (some d))
  | _, _, _ => none
def sPar (is : List Nat) (m : MD) : MS := fun ρ => (m ρ).bind fun p => (setAll is p.1 p.2).map .nx
def setV : List Nat → List V → L2.St → L2.St
  | i :: is, v :: vs, σ => setV is vs (σ.set i (some v))
  | _, _, σ => σ
theorem setAll_ok {K : PySem.W.Frag} {F0 Z : Hp} {B : Nat → Addr} {H F : Hp} : ∀ {is : List Nat} {ds : List DV} {vs : List V} {σ : L2.St} {ρ ρ' : En}, Rel K F0 Z B σ H F ρ → DRes K Z σ ρ H F ds vs → setAll is ds ρ = some ρ' → is.length = ds.length ∧ Rel K F0 Z B (setV is vs σ) H F ρ'
  | [], [], _, σ, ρ, ρ', R, h, e => by
    cases e
    cases h
    exact ⟨rfl, R⟩
  | [], _ :: _, _, _, _, _, _, _, e => by cases e
  | _ :: _, [], _, _, _, _, _, _, e => by cases e
  | i :: is, d :: ds, _, σ, ρ, ρ', R, ⟨x, t, ev, h1, h2, h3⟩, e => by
    subst ev
    have R1 := R.setSlot (i := i) h1
    have low : ∀ {ds : List DV} {vs : List V}, DRes K Z σ ρ H F ds vs → (∀ a, d.owned = true → x = .ref a → ∀ (j : Nat) (dj : DV), ds[j]? = some dj → dj.owned = true → vs[j]? ≠ some (V.ref a)) → DRes K Z (σ.set i (some x)) (ρ.set i (some d)) H F ds vs := by
      intro ds
      induction ds with
      | nil => intro vs h _; exact h
      | cons d' ds ih =>
        rintro _ ⟨y, t', rfl, q1, q2, q3⟩ hne
        refine ⟨y, t', rfl, ?_, ih q2 fun a oa ea j dj ej oj => by simpa using hne a oa ea (j + 1) dj (by simpa using ej) oj, q3⟩
        cases d' with
        | val d' => exact q1
        | bor d' => exact q1.elim
        | own d' =>
          obtain ⟨b, rfl, t1, t2, t3, t4⟩ := q1
          refine ⟨b, rfl, t1, t2, t3, fun j dj ej oj es => ?_⟩
          by_cases hij : i = j
          · subst hij
            have hl : i < ρ.length := by
              by_cases hl : i < ρ.length
              · exact hl
              · rw [List.getElem?_eq_none (by simpa using hl)] at ej; cases ej
            rw [List.getElem?_set_self hl] at ej
            have e1 : d = dj := Option.some.inj (Option.some.inj ej)
            subst e1
            rw [List.getElem?_set_self (by rw [← R.len]; exact hl)] at es
            have e2 : x = .ref b := Option.some.inj (Option.some.inj es)
            exact hne b oj e2 0 (.own d') rfl rfl rfl
          · rw [List.getElem?_set_ne hij] at ej es
            exact t4 j dj ej oj es
    obtain ⟨g1, g2⟩ := setAll_ok R1 (low h2 fun a oa ea j dj ej oj => h3 oa a ea j dj ej oj) (show setAll is ds (ρ.set i (some d)) = some ρ' from e)
    exact ⟨by simp [g1], g2⟩
/-- plain local names -/
theorem sm_par {i j : Nat} {x y : Str} {a b : Expr} {m : MD} {px py pt pos : Pos} {kt k2 pt2} (hc : X.calm = true) (hN : X.N.Nodup) (hi : X.N[i]? = some x) (hj : X.N[j]? = some y) (hij : i ≠ j)
    (hx : X.env.scope.names.lookup x = some .local) (hy : X.env.scope.names.lookup y = some .local) (ha : Ad X [a, b] m)
    (hw : swappedStores [.Tuple [.Name x px, .Name y py] kt pt] (.Tuple [a, b] k2 pt2) X.env = pure (some [x, y]))
    (hs : swapsWithSole [.Tuple [.Name x px, .Name y py] kt pt] (.Tuple [a, b] k2 pt2) pos.line X.env = pure false := by rfl) :
    Sm X (.Assign [.Tuple [.Name x px, .Name y py] kt pt] (.Tuple [a, b] k2 pt2) pos) (sPar [i, j] m) := PS_imp (ps_par hc hN hi hj hij hx hy ha hw hs) fun D σ H ⟨F0, Z, B, F, ρ, r, R, e, k⟩ => by
  obtain ⟨⟨ds, ρ1⟩, e1, e2⟩ := Option.bind_eq_some_iff.mp e
  obtain ⟨ρ2, e3, e4⟩ := Option.map_eq_some_iff.mp e2
  subst e4
  refine ⟨F0, Z, B, F, ρ, ds, ρ1, R, e1, fun vs H1 F1 R1 s1 r1 => ?_⟩
  obtain ⟨g1, g2⟩ := setAll_ok R1 r1 e3
  match ds, vs, g1, r1 with
  | [d1, d2], vs, _, ⟨v, t, ev, _, ⟨w, t2, et, _, et2, _⟩, _⟩ =>
    subst ev et
    cases et2
    exact ⟨v, w, rfl, k _ H1 F1 g2 s1⟩
theorem sm_par3 {i j l : Nat} {x y z : Str} {a b c : Expr} {m : MD} {px py pz pt pos : Pos} {kt k2 pt2} (hc : X.calm = true) (hN : X.N.Nodup) (hi : X.N[i]? = some x) (hj : X.N[j]? = some y) (hl : X.N[l]? = some z) (hij : i ≠ j) (hil : i ≠ l) (hjl : j ≠ l)
    (h : PS X (.Assign [.Tuple [.Name x px, .Name y py, .Name z pz] kt pt] (.Tuple [a, b, c] k2 pt2) pos) (tPar3 i j l (tDOf X.K m))) :
    Sm X (.Assign [.Tuple [.Name x px, .Name y py, .Name z pz] kt pt] (.Tuple [a, b, c] k2 pt2) pos) (sPar [i, j, l] m) := PS_imp h fun D σ H ⟨F0, Z, B, F, ρ, r, R, e, k⟩ => by
  obtain ⟨⟨ds, ρ1⟩, e1, e2⟩ := Option.bind_eq_some_iff.mp e
  obtain ⟨ρ2, e3, e4⟩ := Option.map_eq_some_iff.mp e2
  subst e4
  refine ⟨F0, Z, B, F, ρ, ds, ρ1, R, e1, fun vs H1 F1 R1 s1 r1 => ?_⟩
  obtain ⟨g1, g2⟩ := setAll_ok R1 r1 e3
  match ds, vs, g1, r1 with
  | [d1, d2, d3], vs, _, ⟨v, t, ev, _, ⟨w, t2, et, _, ⟨u, t3, et3, _, et4, _⟩, _⟩, _⟩ =>
    subst ev et et3
    cases et4
    exact ⟨v, w, u, rfl, k _ H1 F1 g2 s1⟩
/-- a tuple is laid and taken apart at once -/
def gNames : List Nat → TGs
  | [] => gNil
  | i :: is => gCons (gName i) (gNames is)
theorem gNames_run : ∀ {is : List Nat} {vs : List V} {σ : L2.St} {H : Hp} {Q : L2.St → Hp → Prop}, is.length = vs.length → Q (setV is vs σ) H → gNames is vs σ H Q
  | [], [], _, _, _, _, h => ⟨rfl, h⟩
  | [], _ :: _, _, _, _, hl, _ => by simp at hl
  | _ :: _, [], _, _, _, hl, _ => by simp at hl
  | i :: is, v :: vs, σ, H, Q, hl, h => ⟨v, vs, rfl, gNames_run (is := is) (by simpa using hl) h⟩
theorem DRes.length {K : PySem.W.Frag} {Z : Hp} {σ : L2.St} {ρ : En} {H F : Hp} : ∀ {ds : List DV} {vs : List V}, DRes K Z σ ρ H F ds vs → vs.length = ds.length
  | [], _, h => by cases h; rfl
  | d :: ds, _, ⟨x, t, ev, _, h2, _⟩ => by subst ev; simp [DRes.length h2]
theorem DRes.up {K : PySem.W.Frag} {Z : Hp} {σ : L2.St} {ρ : En} {H F : Hp} {p : Addr} {o : HO} (hp : H p = none) : ∀ {ds : List DV} {vs : List V}, DRes K Z σ ρ H F ds vs → DRes K Z σ ρ (upd H p o) F ds vs
  | [], _, h => h
  | d :: ds, _, ⟨x, t, ev, h1, h2, h3⟩ => ⟨x, t, ev, by
      cases d with
      | val d => exact h1
      | bor d => exact h1.elim
      | own d =>
        obtain ⟨a, ea, q1, q2, q3, q4⟩ := h1
        obtain ⟨u, hu⟩ := q3.there
        exact ⟨a, ea, q1, q2, q3.mono (upd_ne (ne_of_none hu hp)) (Same.refl _), q4⟩, DRes.up hp h2, h3⟩
theorem sm_parT {tg : Expr} {es : List Expr} {is : List Nat} {m : MD} {k2 : Nat} {pt2 pos : Pos} (ha : Ad X es m) (hg : PG X tg (gTup X.K is.length (gNames is))) (hsz : is.length ≤ line := by decide) (hs : swapsWithSole [tg] (.Tuple es k2 pt2) pos.line X.env = pure false := by rfl) (hw : swappedStores [tg] (.Tuple es k2 pt2) X.env = pure none := by rfl)
    (h1 : (assignEach [tg] X.env).map (·.2) = [assign tg X.env] := by rfl) : Sm X (.Assign [tg] (.Tuple es k2 pt2) pos) (sPar is m) := PS_imp (ps_asg (pe_tup ha) hg hs hw h1) fun D σ H ⟨F0, Z, B, F, ρ, r, R, e, k⟩ => by
  obtain ⟨⟨ds, ρ1⟩, e1, e2⟩ := Option.bind_eq_some_iff.mp e
  obtain ⟨ρ2, e3, e4⟩ := Option.map_eq_some_iff.mp e2
  subst e4
  refine ⟨F0, Z, B, F, ρ, ds, ρ1, R, e1, fun vs H1 F1 R1 s1 r1 => ?_⟩
  have hl := r1.length
  have hl2 := (setAll_ok R1 r1 e3).1
  refine ⟨by rw [← line_eq]; omega, fun p hp => ⟨p, vs, rfl, .of upd_same, by omega, gNames_run (by omega) ?_⟩⟩
  obtain ⟨g1, g2⟩ := setAll_ok (R1.alloc (o := .tup vs) hp) (r1.up hp) e3
  exact k _ _ F1 g2 s1
/-! ### owned lists changed -/
theorem lst_slot {K : PySem.W.Frag} {F0 Z : Hp} {B : Nat → Addr} {σ : L2.St} {H F : Hp} {ρ : En} {i : Nat} {dv : DV} {ds : List D} (R : Rel K F0 Z B σ H F ρ) (e : ρ[i]? = some (some dv)) (o : dv.owned = true) (g : dv.get = .lst ds) :
    ∃ a xs, σ[i]? = some (some (.ref a)) ∧ H a = some (.lst xs) ∧ Reps K F ds xs := by
  obtain ⟨v, ev, s⟩ := R.slot i dv e
  cases dv with
  | val d => cases o
  | own d => cases g; obtain ⟨a, rfl, _, _, xs, h1, h2⟩ := s; exact ⟨a, xs, ev, h1, h2⟩
  | bor d => cases g; obtain ⟨rfl, _, _, xs, h1, h2⟩ := s; exact ⟨_, xs, ev, h1, h2⟩
/-- the owned list in a slot -/
def lstAt (ρ : En) (i : Nat) : Option (List D) := match ρ[i]? with
  | some (some (.own (.lst ds))) => some ds
  | some (some (.bor (.lst ds))) => some ds
  | _ => none
theorem lstAt_ok {ρ : En} {i : Nat} {ds : List D} (h : lstAt ρ i = some ds) : ∃ dv, ρ[i]? = some (some dv) ∧ dv.owned = true ∧ dv.get = .lst ds := by
  unfold lstAt at h
  split at h
  · rename_i d e; cases h; exact ⟨_, e, rfl, rfl⟩
  · rename_i d e; cases h; exact ⟨_, e, rfl, rfl⟩
  · cases h
theorem put_of {ρ : En} {i : Nat} {dv : DV} {d : D} (e : ρ[i]? = some (some dv)) (o : dv.owned = true) : put ρ i d = some (ρ.set i (some (dv.to d))) := by
  unfold put
  rw [e]
  cases dv with
  | val d => cases o
  | own d => rfl
  | bor d => rfl
def sApp (i : Nat) (m : ME) : MS := fun ρ => (lstAt ρ i).bind fun _ => (fz m ρ).bind fun p => (lstAt p.2 i).bind fun ds => if ds.length < line then (put p.2 i (.lst (ds ++ [p.1]))).map .nx else none
theorem sm_append {i : Nat} {x : Str} {e : Expr} {px apos cpos pos : Pos} {m : ME} (hx : PE X (.Name x px) (tVar i)) (he : Em X e m)
    (hc : ∀ (to te : TE), PE X (.Name x px) to → PE X e te → PE X (.Call (.Attribute (.Name x px) "append" apos) [e] [] cpos) (tBM X.K "list" rAppend to (tCons te tNil)))
    (hs : swapsWith (.Call (.Attribute (.Name x px) "append" apos) [e] [] cpos) none pos.line X.env = pure false := by rfl) :
    Sm X (.Expr (.Call (.Attribute (.Name x px) "append" apos) [e] [] cpos) pos) (sApp i m) := PS_imp (ps_expr (hc _ _ hx he.fz) hs) fun D σ H ⟨F0, Z, B, F, ρ, r, R, e, k⟩ => by
  obtain ⟨ds0, e0, e1⟩ := Option.bind_eq_some_iff.mp e
  obtain ⟨⟨d, ρ1⟩, e2, e3⟩ := Option.bind_eq_some_iff.mp e1
  obtain ⟨ds, e4, e5⟩ := Option.bind_eq_some_iff.mp e3
  by_cases hl : ds.length < line
  · rw [if_pos hl] at e5
    obtain ⟨ρ2, e6, e7⟩ := Option.map_eq_some_iff.mp e5
    subst e7
    obtain ⟨dv0, q1, q2, q3⟩ := lstAt_ok e0
    obtain ⟨a, xs0, es, h1, _⟩ := lst_slot R q1 q2 q3
    refine ⟨.ref a, es, .inl ⟨rfl, xs0, .of h1⟩, tOfV_of R e2 fun v H1 F1 R1 s1 r1 => ?_⟩
    obtain ⟨dv, t1, t2, t3⟩ := lstAt_ok e4
    obtain ⟨b, xs, es1, g1, g2⟩ := lst_slot R1 t1 t2 t3
    rw [es] at es1
    have : a = b := by injection Option.some.inj (Option.some.inj es1)
    subst this
    rw [put_of t1 t2] at e6
    cases e6
    refine ⟨a, xs, v, rfl, rfl, g1, by rw [g2.length, ← line_eq]; exact hl, ?_⟩
    exact k σ _ F1 (R1.write t1 t2 es ⟨_, upd_same, g2.append (.one r1)⟩) s1
  · rw [if_neg hl] at e5; cases e5
def sExtd (i : Nat) (m : ME) : MS := fun ρ => (lstAt ρ i).bind fun _ => (fz m ρ).bind fun p => (lstAt p.2 i).bind fun ds => match p.1 with
  | .lst es => if ds.length + es.length ≤ line then (put p.2 i (.lst (ds ++ es))).map .nx else none
  | _ => none
theorem sm_extend {i : Nat} {x : Str} {e : Expr} {px apos cpos pos : Pos} {m : ME} (hx : PE X (.Name x px) (tVar i)) (he : Em X e m)
    (hc : ∀ (to te : TE), PE X (.Name x px) to → PE X e te → PE X (.Call (.Attribute (.Name x px) "extend" apos) [e] [] cpos) (tBM X.K "list" rExtend to (tCons te tNil)))
    (hs : swapsWith (.Call (.Attribute (.Name x px) "extend" apos) [e] [] cpos) none pos.line X.env = pure false := by rfl) :
    Sm X (.Expr (.Call (.Attribute (.Name x px) "extend" apos) [e] [] cpos) pos) (sExtd i m) := PS_imp (ps_expr (hc _ _ hx he.fz) hs) fun D σ H ⟨F0, Z, B, F, ρ, r, R, e, k⟩ => by
  obtain ⟨ds0, e0, e1⟩ := Option.bind_eq_some_iff.mp e
  obtain ⟨⟨d, ρ1⟩, e2, e3⟩ := Option.bind_eq_some_iff.mp e1
  obtain ⟨ds, e4, e5⟩ := Option.bind_eq_some_iff.mp e3
  obtain ⟨dv0, q1, q2, q3⟩ := lstAt_ok e0
  obtain ⟨a, xs0, es0, h1, _⟩ := lst_slot R q1 q2 q3
  refine ⟨.ref a, es0, .inl ⟨rfl, xs0, .of h1⟩, tOfV_of R e2 fun v H1 F1 R1 s1 r1 => ?_⟩
  cases d with
  | lst es =>
    have e5' : (if ds.length + es.length ≤ line then (put ρ1 i (.lst (ds ++ es))).map Res.nx else none) = some r := e5
    by_cases hl : ds.length + es.length ≤ line
    · rw [if_pos hl] at e5'
      obtain ⟨ρ2, e6, e7⟩ := Option.map_eq_some_iff.mp e5'
      subst e7
      obtain ⟨dv, t1, t2, t3⟩ := lstAt_ok e4
      obtain ⟨b, xs, es1, g1, g2⟩ := lst_slot R1 t1 t2 t3
      rw [es0] at es1
      have : a = b := by injection Option.some.inj (Option.some.inj es1)
      subst this
      rw [put_of t1 t2] at e6
      cases e6
      unfold Rep at r1
      obtain ⟨c, ys, rfl, y1, y2⟩ := r1
      refine ⟨a, c, xs, ys, rfl, rfl, g1, R1.sub _ _ y1, by rw [g2.length, y2.length, ← line_eq]; exact hl, ?_⟩
      exact k σ _ F1 (R1.write t1 t2 es0 ⟨_, upd_same, g2.append y2⟩) s1
    · rw [if_neg hl] at e5'; cases e5'
  | _ => cases e5
def sSetIx (i : Nat) (mi mv : ME) : MS := fun ρ => (fz mv ρ).bind fun p => (lstAt p.2 i).bind fun _ => (fz mi p.2).bind fun q => (lstAt q.2 i).bind fun ds => match q.1 with
  | .int n => (ixN ds.length n).bind fun j => (put q.2 i (.lst (ds.set j p.1))).map .nx
  | _ => none
theorem sm_setIx {i : Nat} {x : Str} {ei ev : Expr} {px spos pos : Pos} {mi mv : ME} (hx : PE X (.Name x px) (tVar i)) (hi : Em X ei mi) (hv : Em X ev mv)
    (hgs : ∀ (to ti : TE), PE X (.Name x px) to → PE X ei ti → PG X (.Subscript (.Name x px) ei spos) (gSub to ti rSetL)) (hs : swapsWithSole [.Subscript (.Name x px) ei spos] ev pos.line X.env = pure false := by rfl) (hw : swappedStores [.Subscript (.Name x px) ei spos] ev X.env = pure none := by rfl)
    (h1 : (assignEach [.Subscript (.Name x px) ei spos] X.env).map (·.2) = [assign (.Subscript (.Name x px) ei spos) X.env] := by rfl) :
    Sm X (.Assign [.Subscript (.Name x px) ei spos] ev pos) (sSetIx i mi mv) := PS_imp (ps_asg hv.fz (hgs _ _ hx hi.fz) hs hw h1) fun D σ H ⟨F0, Z, B, F, ρ, r, R, e, k⟩ => by
  obtain ⟨⟨d, ρ1⟩, e2, e3⟩ := Option.bind_eq_some_iff.mp e
  obtain ⟨ds0, e0, e4⟩ := Option.bind_eq_some_iff.mp e3
  obtain ⟨⟨y, ρ2⟩, e5, e6⟩ := Option.bind_eq_some_iff.mp e4
  obtain ⟨ds, e7, e8⟩ := Option.bind_eq_some_iff.mp e6
  refine tOfV_of R e2 fun v H1 F1 R1 s1 r1 => ?_
  obtain ⟨dv0, q1, q2, q3⟩ := lstAt_ok e0
  obtain ⟨a, xs0, es0, h1, _⟩ := lst_slot R1 q1 q2 q3
  refine ⟨.ref a, es0, tOfV_of R1 e5 fun u H2 F2 R2 s2 r2 => ?_⟩
  cases y with
  | int n =>
    obtain ⟨j, e9, e10⟩ := Option.bind_eq_some_iff.mp (show (ixN ds.length n).bind (fun j => (put ρ2 i (.lst (ds.set j d))).map Res.nx) = some r from e8)
    obtain ⟨ρ3, e11, e12⟩ := Option.map_eq_some_iff.mp e10
    subst e12
    obtain ⟨dv, t1, t2, t3⟩ := lstAt_ok e7
    obtain ⟨b, xs, es1, g1, g2⟩ := lst_slot R2 t1 t2 t3
    rw [es0] at es1
    have : a = b := by injection Option.some.inj (Option.some.inj es1)
    subst this
    rw [put_of t1 t2] at e11
    cases e11
    unfold Rep at r2
    subst r2
    refine ⟨a, xs, n, j, rfl, rfl, g1, by rw [g2.length]; exact e9, ?_⟩
    exact k σ _ F2 (R2.write t1 t2 es0 ⟨_, upd_same, g2.set j (Rep.mono s2 _ _ r1)⟩) (s1.trans s2)
  | _ => cases e8
/-- x.pop(e) -/
def mPopAt (i : Nat) (m : ME) : ME := fun ρ => (lstAt ρ i).bind fun _ => (fz m ρ).bind fun p => (lstAt p.2 i).bind fun ds => match p.1 with
  | .int n => if ds.length ≤ line then (ixN ds.length n).bind fun j => (ds[j]?).bind fun d => (put p.2 i (.lst (ds.eraseIdx j))).map fun ρ' => (.val d, ρ') else none
  | _ => none
theorem em_popAt {i : Nat} {x : Str} {e : Expr} {px apos cpos : Pos} {m : ME} (hx : PE X (.Name x px) (tVar i)) (he : Em X e m)
    (hc : ∀ (to te : TE), PE X (.Name x px) to → PE X e te → PE X (.Call (.Attribute (.Name x px) "pop" apos) [e] [] cpos) (tBM X.K "list" rPopAt to (tCons te tNil))) :
    Em X (.Call (.Attribute (.Name x px) "pop" apos) [e] [] cpos) (mPopAt i m) := PE_imp (hc _ _ hx he.fz) fun σ H Q ⟨F0, Z, B, F, ρ, dv, ρ', R, e, k⟩ => by
  obtain ⟨ds0, e0, e1⟩ := Option.bind_eq_some_iff.mp e
  obtain ⟨⟨d, ρ1⟩, e2, e3⟩ := Option.bind_eq_some_iff.mp e1
  obtain ⟨ds, e4, e5⟩ := Option.bind_eq_some_iff.mp e3
  obtain ⟨dv0, q1, q2, q3⟩ := lstAt_ok e0
  obtain ⟨a, xs0, es0, h1, _⟩ := lst_slot R q1 q2 q3
  refine ⟨.ref a, es0, .inl ⟨rfl, xs0, .of h1⟩, tOfV_of R e2 fun v H1 F1 R1 s1 r1 => ?_⟩
  cases d with
  | int n =>
    have e5' : (if ds.length ≤ line then (ixN ds.length n).bind fun j => (ds[j]?).bind fun d => (put ρ1 i (.lst (ds.eraseIdx j))).map fun ρ' => (DV.val d, ρ') else none) = some (dv, ρ') := e5
    by_cases hl : ds.length ≤ line
    · rw [if_pos hl] at e5'
      obtain ⟨j, e6, e7⟩ := Option.bind_eq_some_iff.mp e5'
      obtain ⟨d', e8, e9⟩ := Option.bind_eq_some_iff.mp e7
      obtain ⟨ρ2, e10, e11⟩ := Option.map_eq_some_iff.mp e9
      cases e11
      obtain ⟨dw, t1, t2, t3⟩ := lstAt_ok e4
      obtain ⟨b, xs, es1, g1, g2⟩ := lst_slot R1 t1 t2 t3
      rw [es0] at es1
      have : a = b := by injection Option.some.inj (Option.some.inj es1)
      subst this
      rw [put_of t1 t2] at e10
      cases e10
      unfold Rep at r1
      subst r1
      obtain ⟨y, f1, f2⟩ := g2.get e8
      obtain ⟨p1, p2, p3, p4⟩ := ixN_seq e6
      have hb : line = 16777216 := rfl
      refine ⟨a, xs, n, j, y, rfl, rfl, g1, by omega, by omega, by rw [g2.length]; exact p1, f1, ?_⟩
      exact k y _ F1 (R1.write t1 t2 es0 ⟨_, upd_same, g2.eraseIdx j⟩) s1 f2
    · rw [if_neg hl] at e5'; cases e5'
  | _ => cases e5
end
end Cb

set_option Elab.async false
set_option linter.all false
set_option maxRecDepth 100000
/-! Rules: what is walked, loops, comprehensions. -/
namespace Cb
open PySem PySem.Spec PyProof.Rows L2
/-! ### what is walked -/
theorem reps_ints {K : PySem.W.Frag} {F : Hp} : ∀ ns : List Int, Reps K F (ns.map D.int) (ns.map V.int)
  | [] => .nil
  | n :: ns => .cons rep_int (reps_ints ns)
def ItOk (K : PySem.W.Frag) (J : It) (F : Hp) (ds : List D) : Prop := ∀ (F0 Z : Hp) (B : Nat → Addr) (σ : L2.St) (H F1 : Hp) (ρ : En) (i : Nat), Same F F1 → Rel K F0 Z B σ H F1 ρ →
  (i < ds.length → J.go i H ∧ ∀ x H', J.yld i H x H' → ∃ F2 d, ds[i]? = some d ∧ Same F1 F2 ∧ Rel K F0 Z B σ H' F2 ρ ∧ Rep K F2 d x) ∧ (ds.length ≤ i → J.stop i H)
def tIOf (K : PySem.W.Frag) (m : MA) : TI := fun σ H R => ∃ F0 Z B F ρ ds ρ', Rel K F0 Z B σ H F ρ ∧ m ρ = some (ds, ρ') ∧ ∀ J H' F', Rel K F0 Z B σ H' F' ρ' → Same F F' → ItOk K J F' ds → R J H'
abbrev Im (X : Cx) (tg iter : Expr) (m : MA) : Prop := PI X tg iter (tIOf X.K m)
theorem PI_imp {X : Cx} {tg iter : Expr} {t t' : TI} (h : PI X tg iter t) (i : ∀ σ H R, t' σ H R → t σ H R) : PI X tg iter t' := ⟨fun pins s σ H R I q => h.run pins s σ H R I (i _ _ _ q)⟩
theorem PI_or {X : Cx} {tg iter : Expr} {t t' : TI} (h : PI X tg iter t) (h' : PI X tg iter t') : PI X tg iter (fun σ H R => t σ H R ∨ t' σ H R) := ⟨fun pins s σ H R I q => q.elim (h.run pins s σ H R I) (h'.run pins s σ H R I)⟩
section
variable {K : PySem.W.Frag}
theorem it_list {F : Hp} {a : Addr} {ds : List D} {xs : List V} (h : ∀ F1, Same F F1 → SqL K F1 a xs) (r : Reps K F ds xs) : ItOk K (Itl K a) F ds := fun F0 Z B σ H F1 ρ i s R => by
  have hH : SqL K H a xs := R.sub.seq (h F1 s)
  refine ⟨fun hi => ?_, fun hi => ⟨xs, hH, by rw [r.length]; exact hi⟩⟩
  have e : ds[i]? = some ds[i] := List.getElem?_eq_getElem hi
  obtain ⟨x, ex, rx⟩ := r.get e
  refine ⟨⟨xs, x, hH, ex⟩, fun y H' ⟨eH, hy⟩ => ?_⟩
  subst eH
  have := hy xs hH
  rw [ex] at this
  cases this
  exact ⟨F1, _, e, Same.refl _, R, Rep.mono s _ _ rx⟩
theorem it_tup {F : Hp} {a : Addr} {ds : List D} {xs : List V} (h : SqT K F a xs) (r : Reps K F ds xs) : ItOk K (Itt K a) F ds := fun F0 Z B σ H F1 ρ i s R => by
  have hH : SqT K H a xs := SqT_mono (s.trans R.sub) h
  refine ⟨fun hi => ?_, fun hi => ⟨xs, hH, by rw [r.length]; exact hi⟩⟩
  have e : ds[i]? = some ds[i] := List.getElem?_eq_getElem hi
  obtain ⟨x, ex, rx⟩ := r.get e
  refine ⟨⟨xs, x, hH, ex⟩, fun y H' ⟨eH, hy⟩ => ?_⟩
  subst eH
  have := hy xs hH
  rw [ex] at this
  cases this
  exact ⟨F1, _, e, Same.refl _, R, Rep.mono s _ _ rx⟩
def rangeD (lo : Int) (n : Nat) : List D := (List.range n).map fun i => D.int (lo + (i : Nat))
theorem rangeD_length (lo : Int) (n : Nat) : (rangeD lo n).length = n := by simp [rangeD]
theorem it_range {F : Hp} (lo : Int) (n : Nat) : ItOk K (Itr lo n) F (rangeD lo n) := fun F0 Z B σ H F1 ρ i s R => by
  refine ⟨fun hi => ?_, fun hi => by rw [rangeD_length] at hi; exact hi⟩
  rw [rangeD_length] at hi
  refine ⟨hi, fun y H' ⟨eH, hy⟩ => ?_⟩
  subst eH hy
  exact ⟨F1, .int (lo + i), by simp [rangeD, hi], Same.refl _, R, rep_int⟩
theorem it_new {F1 F0 Z H H' : Hp} {B : Nat → Addr} {σ : L2.St} {ρ : En} {T : Addr} {ds : List D} {xs : List V} (R : Rel K F0 Z B σ H F1 ρ) (hT : H T = none) (r : Reps K F1 ds xs) (e : H' = upd H T (.tup xs)) :
    ∃ F2, Same F1 F2 ∧ Rel K F0 Z B σ H' F2 ρ ∧ Rep K F2 (.tup ds) (.ref T) := by
  subst e
  obtain ⟨R2, s2, r2⟩ := new_tup R hT r
  exact ⟨_, s2, R2, r2⟩
def zipD (ds es : List D) : List D := List.zipWith (fun d e => D.tup [d, e]) ds es
theorem zipD_length (ds es : List D) : (zipD ds es).length = min ds.length es.length := by simp [zipD]
theorem it_zipL {F : Hp} {a b : Addr} {ds es : List D} {xs ys : List V} (ha : F a = some (.lst xs)) (hb : F b = some (.lst ys)) (r : Reps K F ds xs) (q : Reps K F es ys) : ItOk K (Itz K a b) F (zipD ds es) := fun F0 Z B σ H F1 ρ i s R => by
  have hA : SqL K H a xs := .of (R.sub _ _ (s _ _ ha))
  have hB : SqL K H b ys := .of (R.sub _ _ (s _ _ hb))
  refine ⟨fun hi => ?_, fun hi => ⟨xs, ys, hA, hB, by rw [zipD_length] at hi; rw [r.length, q.length]; omega⟩⟩
  rw [zipD_length] at hi
  have e1 : ds[i]? = some (ds[i]'(by omega)) := List.getElem?_eq_getElem (by omega)
  have e2 : es[i]? = some (es[i]'(by omega)) := List.getElem?_eq_getElem (by omega)
  obtain ⟨x, ex, rx⟩ := r.get e1
  obtain ⟨y, ey, ry⟩ := q.get e2
  refine ⟨⟨xs, ys, x, y, hA, hB, ex, ey⟩, fun v H' ⟨T, x', y', ev, hT, eH, f1, f2⟩ => ?_⟩
  have g1 := f1 xs hA
  have g2 := f2 ys hB
  rw [ex] at g1; cases g1
  rw [ey] at g2; cases g2
  subst ev
  obtain ⟨F2, s2, R2, r2⟩ := it_new R hT (.cons (Rep.mono s _ _ rx) (.cons (Rep.mono s _ _ ry) .nil)) eH
  refine ⟨F2, _, ?_, s2, R2, r2⟩
  simp [zipD, List.getElem?_zipWith, e1, e2]
theorem it_zipT {F : Hp} {a b : Addr} {ds es : List D} {xs ys : List V} (ha : SqT K F a xs) (hb : SqT K F b ys) (r : Reps K F ds xs) (q : Reps K F es ys) : ItOk K (RZ.ItzT K a b) F (zipD ds es) := fun F0 Z B σ H F1 ρ i s R => by
  have hA : SqT K H a xs := SqT_mono (s.trans R.sub) ha
  have hB : SqT K H b ys := SqT_mono (s.trans R.sub) hb
  refine ⟨fun hi => ?_, fun hi => ⟨xs, ys, hA, hB, by rw [zipD_length] at hi; rw [r.length, q.length]; omega⟩⟩
  rw [zipD_length] at hi
  have e1 : ds[i]? = some (ds[i]'(by omega)) := List.getElem?_eq_getElem (by omega)
  have e2 : es[i]? = some (es[i]'(by omega)) := List.getElem?_eq_getElem (by omega)
  obtain ⟨x, ex, rx⟩ := r.get e1
  obtain ⟨y, ey, ry⟩ := q.get e2
  refine ⟨⟨xs, ys, x, y, hA, hB, ex, ey⟩, fun v H' ⟨T, x', y', ev, hT, eH, f1, f2⟩ => ?_⟩
  have g1 := f1 xs hA
  have g2 := f2 ys hB
  rw [ex] at g1; cases g1
  rw [ey] at g2; cases g2
  subst ev
  obtain ⟨F2, s2, R2, r2⟩ := it_new R hT (.cons (Rep.mono s _ _ rx) (.cons (Rep.mono s _ _ ry) .nil)) eH
  refine ⟨F2, _, ?_, s2, R2, r2⟩
  simp [zipD, List.getElem?_zipWith, e1, e2]
def enumD (n : Nat) : List D → List D
  | [] => []
  | d :: ds => .tup [.int n, d] :: enumD (n + 1) ds
theorem enumD_length : ∀ (n : Nat) (ds : List D), (enumD n ds).length = ds.length
  | _, [] => rfl
  | n, d :: ds => by simp [enumD, enumD_length (n + 1) ds]
theorem enumD_get : ∀ (n : Nat) (ds : List D) (i : Nat), (enumD n ds)[i]? = (ds[i]?).map fun d => .tup [.int ((n + i : Nat) : Int), d]
  | _, [], _ => by simp [enumD]
  | n, d :: ds, 0 => by simp [enumD]
  | n, d :: ds, i + 1 => by
    simp only [enumD, List.getElem?_cons_succ]
    rw [enumD_get (n + 1) ds i]
    have : n + 1 + i = n + (i + 1) := by omega
    rw [this]
theorem it_enum {F : Hp} {a : Addr} {ds : List D} {xs : List V} (ha : F a = some (.lst xs)) (r : Reps K F ds xs) : ItOk K (Ite K a) F (enumD 0 ds) := fun F0 Z B σ H F1 ρ i s R => by
  have hA : SqL K H a xs := .of (R.sub _ _ (s _ _ ha))
  refine ⟨fun hi => ?_, fun hi => ⟨xs, hA, by rw [enumD_length] at hi; rw [r.length]; exact hi⟩⟩
  rw [enumD_length] at hi
  have e1 : ds[i]? = some ds[i] := List.getElem?_eq_getElem hi
  obtain ⟨x, ex, rx⟩ := r.get e1
  refine ⟨⟨xs, x, hA, ex⟩, fun v H' ⟨T, x', ev, hT, eH, f1⟩ => ?_⟩
  have g1 := f1 xs hA
  rw [ex] at g1; cases g1
  subst ev
  obtain ⟨F2, s2, R2, r2⟩ := it_new R hT (.cons (rep_int (i := ((i : Nat) : Int))) (.cons (Rep.mono s _ _ rx) .nil)) eH
  refine ⟨F2, _, ?_, s2, R2, r2⟩
  rw [enumD_get, e1]
  simp
end
section
variable {X : Cx} {tg : Expr}
def iSeq (m : ME) : MA := fun ρ => (fz m ρ).bind fun p => match p.1 with
  | .lst ds => some (ds, p.2)
  | .tup ds => some (ds, p.2)
  | .scr ns => some (ns.map .int, p.2)
  | _ => none
theorem im_seq {e : Expr} {m : ME} (h : Em X e m) : Im X tg e (iSeq m) := PI_imp (PI_or (pi_list h.fz) (pi_tup h.fz)) fun σ H R' ⟨F0, Z, B, F, ρ, ds, ρ', R, e, k⟩ => by
  obtain ⟨⟨d, ρ1⟩, e1, e2⟩ := Option.bind_eq_some_iff.mp e
  cases d with
  | lst es =>
    cases e2
    refine .inl (tOfV_of R e1 fun v H1 F1 R1 s1 r1 => ?_)
    unfold Rep at r1
    obtain ⟨a, xs, rfl, h1, h2⟩ := r1
    exact ⟨a, rfl, ⟨xs, .of (R1.sub _ _ h1)⟩, k _ H1 F1 R1 s1 (it_list (fun F2 s2 => .of (s2 _ _ h1)) h2)⟩
  | scr ns =>
    cases e2
    refine .inl (tOfV_of R e1 fun v H1 F1 R1 s1 r1 => ?_)
    unfold Rep at r1
    obtain ⟨a, rfl, h1⟩ := r1
    refine ⟨a, rfl, ⟨_, R1.sub.seq h1⟩, k _ H1 F1 R1 s1 (it_list (fun F2 s2 => s2.seq h1) ?_)⟩
    exact reps_ints ns
  | tup es =>
    cases e2
    refine .inr (tOfV_of R e1 fun v H1 F1 R1 s1 r1 => ?_)
    unfold Rep at r1
    obtain ⟨a, xs, rfl, h1, h2⟩ := r1
    exact ⟨a, rfl, ⟨xs, SqT_mono R1.sub h1⟩, k _ H1 F1 R1 s1 (it_tup h1 h2)⟩
  | _ => cases e2
def iRng (ms : MA) : MA := fun ρ => (ms ρ).bind fun p => match p.1 with
  | [.int j] => if -(2 ^ 62) ≤ j ∧ j < 2 ^ 62 then some (rangeD 0 j.toNat, p.2) else none
  | [.int i, .int j] => if -(2 ^ 62) ≤ i ∧ i < 2 ^ 62 ∧ -(2 ^ 62) ≤ j ∧ j < 2 ^ 62 then some (rangeD i (j - i).toNat, p.2) else none
  | _ => none
theorem im_range1 {a : Expr} {ms : MA} {p pos : Pos} (hg : Gl X "range") (hm : X.mg "range" = none) (ha : Am X [a] ms) (hl : ∀ ρ p, ms ρ = some p → p.1.length = 1) (hs : starEach [a] X.env = [(false, eval a X.env)] := by rfl) : Im X tg (.Call (.Name "range" p) [a] [] pos) (iRng ms) :=
  PI_imp (pi_range1 hg hm ha hs) fun σ H R' ⟨F0, Z, B, F, ρ, ds, ρ', R, e, k⟩ => by
    obtain ⟨⟨d, ρ1⟩, e1, e2⟩ := Option.bind_eq_some_iff.mp e
    have hn := hl ρ _ e1
    refine tAOf_of R e1 fun vs H1 F1 R1 s1 r1 => ?_
    match d, hn, e2, r1 with
    | [.int j], _, e2, r1 =>
      have e2' : (if -(2 ^ 62) ≤ j ∧ j < 2 ^ 62 then some (rangeD 0 j.toNat, ρ1) else none) = some (ds, ρ') := e2
      obtain ⟨⟨h1, h2⟩, e3⟩ := ite_some e2'
      cases e3
      obtain ⟨v, rfl, rv⟩ := reps1 r1
      unfold Rep at rv; subst rv
      exact ⟨j, rfl, h1, h2, k _ H1 F1 R1 s1 (it_range 0 j.toNat)⟩
theorem im_range2 {a b : Expr} {ms : MA} {p pos : Pos} (hg : Gl X "range") (hm : X.mg "range" = none) (ha : Am X [a, b] ms) (hl : ∀ ρ p, ms ρ = some p → p.1.length = 2) (hs : starEach [a, b] X.env = [(false, eval a X.env), (false, eval b X.env)] := by rfl) (hs2 : starEach [b] X.env = [(false, eval b X.env)] := by rfl) : Im X tg (.Call (.Name "range" p) [a, b] [] pos) (iRng ms) :=
  PI_imp (pi_range2 hg hm ha hs hs2) fun σ H R' ⟨F0, Z, B, F, ρ, ds, ρ', R, e, k⟩ => by
    obtain ⟨⟨d, ρ1⟩, e1, e2⟩ := Option.bind_eq_some_iff.mp e
    have hn := hl ρ _ e1
    refine tAOf_of R e1 fun vs H1 F1 R1 s1 r1 => ?_
    match d, hn, e2, r1 with
    | [.int i, .int j], _, e2, r1 =>
      have e2' : (if -(2 ^ 62) ≤ i ∧ i < 2 ^ 62 ∧ -(2 ^ 62) ≤ j ∧ j < 2 ^ 62 then some (rangeD i (j - i).toNat, ρ1) else none) = some (ds, ρ') := e2
      obtain ⟨hb, e3⟩ := ite_some e2'
      cases e3
      obtain ⟨v, u, rfl, rv, ru⟩ := reps2 r1
      unfold Rep at rv ru; subst rv ru
      exact ⟨i, j, rfl, hb, k _ H1 F1 R1 s1 (it_range i (j - i).toNat)⟩
def iZip (ms : MA) : MA := fun ρ => (ms ρ).bind fun p => match p.1 with
  | [.lst ds, .lst es] => some (zipD ds es, p.2)
  | [.tup ds, .tup es] => some (zipD ds es, p.2)
  | _ => none
theorem im_zip {a b : Expr} {ms : MA} {p pos tpos : Pos} {elts : List Expr} {kk : Nat} (hg : Gl X "zip") (hm : X.mg "zip" = none) (ha : Am X [a, b] ms) (hs : starEach [a, b] X.env = (false, eval a X.env) :: starEach [b] X.env := by rfl) (hpl : (backTo pos (starEach [b] X.env)).any (·.1) = false := by rfl) :
    Im X (.Tuple elts kk tpos) (.Call (.Name "zip" p) [a, b] [] pos) (iZip ms) := PI_imp (RZ.pi_zipA hg hm ha hs hpl) fun σ H R' ⟨F0, Z, B, F, ρ, ds, ρ', R, e, k⟩ => by
    obtain ⟨⟨d, ρ1⟩, e1, e2⟩ := Option.bind_eq_some_iff.mp e
    refine tAOf_of R e1 fun vs H1 F1 R1 s1 r1 => ?_
    split at e2
    · rename_i x y hd
      cases (show d = _ from hd)
      cases e2
      obtain ⟨v, u, rfl, rv, ru⟩ := reps2 r1
      unfold Rep at rv ru
      obtain ⟨a', xs, rfl, h1, h2⟩ := rv
      obtain ⟨b', ys, rfl, h3, h4⟩ := ru
      exact ⟨a', b', xs, ys, rfl, .inl ⟨.of (R1.sub _ _ h1), .of (R1.sub _ _ h3), k _ H1 F1 R1 s1 (it_zipL h1 h3 h2 h4)⟩⟩
    · rename_i x y hd
      cases (show d = _ from hd)
      cases e2
      obtain ⟨v, u, rfl, rv, ru⟩ := reps2 r1
      unfold Rep at rv ru
      obtain ⟨a', xs, rfl, h1, h2⟩ := rv
      obtain ⟨b', ys, rfl, h3, h4⟩ := ru
      exact ⟨a', b', xs, ys, rfl, .inr ⟨SqT_mono R1.sub h1, SqT_mono R1.sub h3, k _ H1 F1 R1 s1 (it_zipT h1 h3 h2 h4)⟩⟩
    · cases e2
def iEnu (ms : MA) : MA := fun ρ => (ms ρ).bind fun p => match p.1 with
  | [.lst ds] => some (enumD 0 ds, p.2)
  | _ => none
theorem im_enum {a : Expr} {ms : MA} {p pos tpos : Pos} {elts : List Expr} {kk : Nat} (hg : Gl X "enumerate") (hm : X.mg "enumerate" = none) (ha : Am X [a] ms) (hs : starEach [a] X.env = [(false, eval a X.env)] := by rfl) :
    Im X (.Tuple elts kk tpos) (.Call (.Name "enumerate" p) [a] [] pos) (iEnu ms) := PI_imp (pi_enum hg hm ha hs) fun σ H R' ⟨F0, Z, B, F, ρ, ds, ρ', R, e, k⟩ => by
    obtain ⟨⟨d, ρ1⟩, e1, e2⟩ := Option.bind_eq_some_iff.mp e
    refine tAOf_of R e1 fun vs H1 F1 R1 s1 r1 => ?_
    split at e2
    · rename_i x hd
      cases (show d = _ from hd)
      cases e2
      obtain ⟨v, rfl, rv⟩ := reps1 r1
      unfold Rep at rv
      obtain ⟨a', xs, rfl, h1, h2⟩ := rv
      exact ⟨a', xs, rfl, .of (R1.sub _ _ h1), k _ H1 F1 R1 s1 (it_enum h1 h2)⟩
    · cases e2
/-! ### for -/
def forL (g : MG) (b : MS) : List D → En → Option Res
  | [], ρ => some (.nx ρ)
  | d :: ds, ρ => (g d ρ).bind fun ρ1 => (b ρ1).bind fun r => match r with
    | .nx ρ2 => forL g b ds ρ2
    | .ct ρ2 => forL g b ds ρ2
    | .bk ρ2 => some (.nx ρ2)
    | .rt dv ρ2 => some (.rt dv ρ2)
def sFor (mi : MA) (g : MG) (b : MS) : MS := fun ρ => (mi ρ).bind fun p => forL g b p.1 p.2
theorem sm_for {iter : Expr} {body : List Stmt} {mi : MA} {ws : List Nat} {g : MG} {b : MS} {pos : Pos} (hp : PassesOwn (model X.prog X.w) X.A X.env X.xe) (hc : X.calm = true) (hi : Im X tg iter mi) (hg : Gm X tg ws g) (hb : Ss X body b)
    (hs : ∀ x, foldedSetIterable iter X.env x = pure x := by intro _; rfl) : Sm X (.For tg iter body [] pos) (sFor mi g b) := PS_imp (ps_for hp hc hi hg hb hs) fun D σ H ⟨F0, Z, B, F, ρ, r, R, e, k⟩ => by
  obtain ⟨⟨ds, ρ1⟩, e1, e2⟩ := Option.bind_eq_some_iff.mp e
  refine ⟨F0, Z, B, F, ρ, ds, ρ1, R, e1, fun J H1 F1 R1 s1 ok => ?_⟩
  refine ⟨fun i m σ' H' => m = ds.length - i ∧ i ≤ ds.length ∧ ∃ F' ρ', Rel X.K F0 Z B σ' H' F' ρ' ∧ Same F1 F' ∧ forL g b (ds.drop i) ρ' = some r, ⟨ds.length, by simp, Nat.zero_le _, F1, ρ1, R1, Same.refl _, by simpa using e2⟩, ?_⟩
  rintro i m σ' H' ⟨rfl, hle, F', ρ', R', s', eL⟩
  obtain ⟨ok1, ok2⟩ := ok F0 Z B σ' H' F' ρ' i s' R'
  by_cases hi' : i < ds.length
  · right
    obtain ⟨go, yl⟩ := ok1 hi'
    refine ⟨go, fun σ2 H2 => ∃ F2 ρ2, Rel X.K F0 Z B σ2 H2 F2 ρ2 ∧ Same F1 F2 ∧ forL g b (ds.drop (i + 1)) ρ2 = some r, fun σ2 H2 ⟨F2, ρ2, R2, s2, e3⟩ => ⟨ds.length - (i + 1), by omega, rfl, hi', F2, ρ2, R2, s2, e3⟩, fun x H2 y => ?_⟩
    obtain ⟨F2, d, ed, s2, R2, rd⟩ := yl x H2 y
    have hd : ds.drop i = d :: ds.drop (i + 1) := by
      rw [List.drop_eq_getElem_cons hi']
      congr 1
      rw [List.getElem?_eq_getElem hi'] at ed
      exact Option.some.inj ed
    rw [hd] at eL
    obtain ⟨ρ3, e3, e4⟩ := Option.bind_eq_some_iff.mp (show (g d ρ').bind _ = some r from eL)
    obtain ⟨r1, e5, e6⟩ := Option.bind_eq_some_iff.mp e4
    refine ⟨F0, Z, B, F2, ρ', d, ρ3, R2, rd, e3, fun σ3 F3 R3 s3 _ => tSOf_of R3 e5 ?_⟩
    have s13 : Same F1 F3 := s'.trans (s2.trans s3)
    cases r1 with
    | nx ρ4 => exact fun σ4 H4 F4 R4 s4 => ⟨F4, ρ4, R4, s13.trans s4, e6⟩
    | ct ρ4 => exact fun σ4 H4 F4 R4 s4 => ⟨F4, ρ4, R4, s13.trans s4, e6⟩
    | bk ρ4 => cases e6; exact fun σ4 H4 F4 R4 s4 => k σ4 H4 F4 R4 (s1.trans (s13.trans s4))
    | rt dv ρ4 => cases e6; exact fun v σ4 H4 F4 R4 s4 rr => k v σ4 H4 F4 R4 (s1.trans (s13.trans s4)) rr
  · left
    have hd : ds.drop i = [] := List.drop_eq_nil_of_le (by omega)
    rw [hd] at eL
    cases eL
    exact ⟨ok2 (by omega), k σ' H' F' R' (s1.trans s')⟩
/-! ### while -/
def whN (c : MT) (b : MS) : Nat → En → Option Res
  | 0, _ => none
  | n + 1, ρ => (c ρ).bind fun p => if p.1 = true then (b p.2).bind fun r => match r with
    | .nx ρ2 => whN c b n ρ2
    | .ct ρ2 => whN c b n ρ2
    | .bk ρ2 => some (.nx ρ2)
    | .rt dv ρ2 => some (.rt dv ρ2) else some (.nx p.2)
theorem whN_succ {c : MT} {b : MS} : ∀ {n : Nat} {ρ : En} {r : Res}, whN c b n ρ = some r → whN c b (n + 1) ρ = some r
  | 0, _, _, h => by cases h
  | n + 1, ρ, r, h => by
    obtain ⟨p, e1, e2⟩ := Option.bind_eq_some_iff.mp (show (c ρ).bind _ = some r from h)
    show (c ρ).bind _ = some r
    rw [e1]
    show (if p.1 = true then _ else _) = some r
    by_cases hp : p.1 = true
    · rw [if_pos hp] at e2 ⊢
      obtain ⟨q, e3, e4⟩ := Option.bind_eq_some_iff.mp e2
      rw [e3]
      cases q with
      | nx ρ2 => exact whN_succ (n := n) e4
      | ct ρ2 => exact whN_succ (n := n) e4
      | bk ρ2 => exact e4
      | rt dv ρ2 => exact e4
    · rw [if_neg hp] at e2 ⊢; exact e2
theorem whN_add {c : MT} {b : MS} {n : Nat} {ρ : En} {r : Res} (h : whN c b n ρ = some r) : ∀ k, whN c b (n + k) ρ = some r
  | 0 => h
  | k + 1 => whN_succ (whN_add h k)
theorem whN_det {c : MT} {b : MS} {n m : Nat} {ρ : En} {r r' : Res} (h : whN c b n ρ = some r) (h' : whN c b m ρ = some r') : r = r' := by
  have h1 := whN_add h m
  have h2 := whN_add h' n
  rw [Nat.add_comm] at h2
  rw [h1] at h2
  exact Option.some.inj h2
open Classical in
noncomputable def sWhile (c : MT) (b : MS) : MS := fun ρ => if h : ∃ r, ∃ n, whN c b n ρ = some r then some (Classical.choose h) else none
theorem sWhile_of {c : MT} {b : MS} {n : Nat} {ρ : En} {r : Res} (h : whN c b n ρ = some r) : sWhile c b ρ = some r := by
  unfold sWhile
  have hx : ∃ r, ∃ n, whN c b n ρ = some r := ⟨r, n, h⟩
  rw [dif_pos hx]
  obtain ⟨m, hm⟩ := Classical.choose_spec hx
  rw [whN_det hm h]
theorem sWhile_to {c : MT} {b : MS} {ρ : En} {r : Res} (h : sWhile c b ρ = some r) : ∃ n, whN c b n ρ = some r := by
  unfold sWhile at h
  split at h
  · rename_i hx
    obtain ⟨m, hm⟩ := Classical.choose_spec hx
    cases h
    exact ⟨m, hm⟩
  · cases h
theorem sm_while {c : Expr} {body : List Stmt} {mc : MT} {b : MS} {pos : Pos} (hp : PassesOwn (model X.prog X.w) X.A X.env X.xe) (hc : Et X c mc) (hb : Ss X body b) : Sm X (.While c body [] pos) (sWhile mc b) := PS_imp (ps_while hp hc hb) fun D σ H ⟨F0, Z, B, F, ρ, r, R, e, k⟩ => by
  obtain ⟨n, en⟩ := sWhile_to e
  refine ⟨fun m σ' H' => ∃ F' ρ', Rel X.K F0 Z B σ' H' F' ρ' ∧ Same F F' ∧ whN mc b m ρ' = some r, ⟨n, F, ρ, R, Same.refl _, en⟩, ?_⟩
  rintro m σ' H' ⟨F', ρ', R', s', em⟩
  cases m with
  | zero => cases em
  | succ m =>
    obtain ⟨⟨t, ρ1⟩, e1, e2⟩ := Option.bind_eq_some_iff.mp (show (mc ρ').bind _ = some r from em)
    refine tOfT_of R' e1 fun H1 F1 R1 s1 => ?_
    cases t with
    | true =>
      rw [if_pos rfl]
      have e2' : ((b ρ1).bind fun r => match r with
        | .nx ρ2 => whN mc b m ρ2
        | .ct ρ2 => whN mc b m ρ2
        | .bk ρ2 => some (.nx ρ2)
        | .rt dv ρ2 => some (.rt dv ρ2)) = some r := e2
      obtain ⟨q, e3, e4⟩ := Option.bind_eq_some_iff.mp e2'
      refine ⟨fun σ2 H2 => ∃ F2 ρ2, Rel X.K F0 Z B σ2 H2 F2 ρ2 ∧ Same F F2 ∧ whN mc b m ρ2 = some r, fun σ2 H2 h => ⟨m, Nat.lt_succ_self m, h⟩, tSOf_of R1 e3 ?_⟩
      have s01 := s'.trans s1
      cases q with
      | nx ρ4 => exact fun σ4 H4 F4 R4 s4 => ⟨F4, ρ4, R4, s01.trans s4, e4⟩
      | ct ρ4 => exact fun σ4 H4 F4 R4 s4 => ⟨F4, ρ4, R4, s01.trans s4, e4⟩
      | bk ρ4 => cases e4; exact fun σ4 H4 F4 R4 s4 => k σ4 H4 F4 R4 (s01.trans s4)
      | rt dv ρ4 => cases e4; exact fun v σ4 H4 F4 R4 s4 rr => k v σ4 H4 F4 R4 (s01.trans s4) rr
    | false =>
      rw [if_neg Bool.false_ne_true]
      cases e2
      exact k σ' H1 F1 R1 (s'.trans s1)
/-! ### comprehensions -/
def wipeE (ρ : En) : List Nat → En
  | [] => ρ
  | v :: vs => (wipeE ρ vs).set v none
def allVal (ρ : En) (vs : List Nat) : Bool := vs.all fun i => match ρ[i]? with
  | some (some (.val _)) => true
  | some none => true
  | _ => false
def restE (ρ' ρ : En) : List Nat → En
  | [] => ρ'
  | v :: vs => match ρ[v]? with
    | some o => (restE ρ' ρ vs).set v o
    | none => restE ρ' ρ vs
def lcL (g : MG) (c : MT) (el : ME) (vs : List Nat) : List D → En → Option (List D × En)
  | [], ρ => some ([], ρ)
  | d :: ds, ρ => (g d ρ).bind fun ρ1 => (c ρ1).bind fun t => if t.1 = true then (fz el t.2).bind fun x => (lcL g c el vs ds (wipeE x.2 vs)).map fun r => (x.1 :: r.1, r.2) else lcL g c el vs ds (wipeE t.2 vs)
def mLc (mi : MA) (g : MG) (c : MT) (el : ME) (vs : List Nat) : ME := fun ρ => (mi ρ).bind fun p => if allVal p.2 vs = true ∧ p.1.length ≤ line then (lcL g c el vs p.1 (wipeE p.2 vs)).map fun r => (.own (.lst r.1), restE r.2 p.2 vs) else none
def tYesM : MT := fun ρ => some (true, ρ)
abbrev Tm (X : Cx) (ifs : List Expr) (m : MT) : Prop := PTs X ifs (tOfT X.K m)
theorem PTs_imp {ifs : List Expr} {t t' : TT} (h : PTs X ifs t) (i : ∀ σ H Q, t' σ H Q → t σ H Q) : PTs X ifs t' := ⟨fun pins s σ H Q I q => h.run pins s σ H Q I (i _ _ _ q)⟩
theorem tm_nil : Tm X [] tYesM := PTs_imp pts_nil fun σ H Q ⟨F0, Z, B, F, ρ, b, ρ', R, e, k⟩ => by
  cases e
  exact k H F R (Same.refl _)
theorem tm_one {c : Expr} {m : MT} (h : Et X c m) : Tm X [c] m := pts_one h
theorem wipeE_length (ρ : En) : ∀ vs, (wipeE ρ vs).length = ρ.length
  | [] => rfl
  | v :: vs => by unfold wipeE; rw [List.length_set, wipeE_length ρ vs]
theorem wipeE_get {ρ : En} {i : Nat} {dv : DV} : ∀ {vs : List Nat}, (wipeE ρ vs)[i]? = some (some dv) → ρ[i]? = some (some dv) ∧ i ∉ vs
  | [], h => ⟨h, by simp⟩
  | v :: vs, h => by
    unfold wipeE at h
    obtain ⟨h1, h2⟩ := get_set_none h
    obtain ⟨h3, h4⟩ := wipeE_get h2
    exact ⟨h3, by simp only [List.mem_cons, not_or]; exact ⟨h1, h4⟩⟩
theorem Rel.wipe {K : PySem.W.Frag} {F0 Z : Hp} {B : Nat → Addr} {σ : L2.St} {H F : Hp} {ρ : En} (R : Rel K F0 Z B σ H F ρ) (vs : List Nat) : Rel K F0 Z B (L2.wipe σ vs) H F (wipeE ρ vs) where
  len := by rw [wipeE_length, wipe_length]; exact R.len
  sub := R.sub
  zsub := R.zsub
  base := R.base
  slot := fun i dv e => by
    obtain ⟨e1, ni⟩ := wipeE_get e
    obtain ⟨v, ev, s⟩ := R.slot i dv e1
    exact ⟨v, by rw [wipe_get_ne ni]; exact ev, s⟩
  apart := fun i j di dj a n e1 e2 o1 o2 s1 s2 => by
    obtain ⟨e1', ni⟩ := wipeE_get e1
    obtain ⟨e2', nj⟩ := wipeE_get e2
    rw [wipe_get_ne ni] at s1
    rw [wipe_get_ne nj] at s2
    exact R.apart i j di dj a n e1' e2' o1 o2 s1 s2
theorem restE_get {ρ' ρ : En} (hl : ρ'.length = ρ.length) : ∀ {vs : List Nat} {i : Nat}, (restE ρ' ρ vs)[i]? = (if i ∈ vs then ρ[i]? else ρ'[i]?) ∧ (restE ρ' ρ vs).length = ρ'.length
  | [], i => by simp [restE]
  | v :: vs, i => by
    obtain ⟨ih1, ih2⟩ := restE_get hl (vs := vs) (i := i)
    unfold restE
    cases e : ρ[v]? with
    | none =>
      refine ⟨?_, ih2⟩
      simp only
      rw [ih1]
      by_cases hv : i = v
      · subst hv
        have h1 : ρ'[i]? = none := by
          rw [List.getElem?_eq_none_iff] at e ⊢
          omega
        simp [e, h1]
      · simp [hv]
    | some o =>
      simp only
      refine ⟨?_, by rw [List.length_set]; exact ih2⟩
      by_cases hv : v = i
      · subst hv
        have hlt : v < ρ.length := (List.getElem?_eq_some_iff.mp e).1
        rw [List.getElem?_set_self (by rw [ih2]; omega)]
        simp [e]
      · rw [List.getElem?_set_ne hv, ih1]
        have hv' : ¬ i = v := fun z => hv z.symm
        simp [hv']
theorem Rel.rest {K : PySem.W.Frag} {F0 Z : Hp} {B : Nat → Addr} {σ : L2.St} {H F H' F' : Hp} {ρ ρ' : En} {vs : List Nat} (R : Rel K F0 Z B σ H F ρ) (hv : allVal ρ vs = true) (R' : Rel K F0 Z B (L2.wipe σ vs) H' F' ρ') (s : Same F F') : Rel K F0 Z B σ H' F' (restE ρ' ρ vs) := by
  have hl : ρ'.length = ρ.length := by rw [R'.len, R.len, wipe_length]
  have low : ∀ {i : Nat} {dv : DV}, (restE ρ' ρ vs)[i]? = some (some dv) → (i ∈ vs ∧ ∃ d, dv = .val d ∧ ρ[i]? = some (some dv)) ∨ (i ∉ vs ∧ ρ'[i]? = some (some dv)) := fun {i dv} e => by
    rw [(restE_get hl).1] at e
    by_cases hi : i ∈ vs
    · rw [if_pos hi] at e
      left
      refine ⟨hi, ?_⟩
      have := List.all_eq_true.mp hv i hi
      rw [e] at this
      cases dv with
      | val d => exact ⟨d, rfl, e⟩
      | own d => simp at this
      | bor d => simp at this
    · rw [if_neg hi] at e; exact .inr ⟨hi, e⟩
  refine ⟨by rw [(restE_get (i := 0) hl).2]; rw [hl]; exact R.len, R'.sub, R'.zsub, R'.base, fun i dv e => ?_, fun i j di dj a n e1 e2 o1 o2 s1 s2 => ?_⟩
  · rcases low e with ⟨hi, d, rfl, e'⟩ | ⟨hi, e'⟩
    · obtain ⟨v, ev, sl⟩ := R.slot i _ e'
      exact ⟨v, ev, Rep.mono s _ _ sl⟩
    · obtain ⟨v, ev, sl⟩ := R'.slot i dv e'
      rw [wipe_get_ne hi] at ev
      exact ⟨v, ev, sl⟩
  · rcases low e1 with ⟨hi, d, rfl, _⟩ | ⟨hi, e1'⟩
    · cases o1
    · rcases low e2 with ⟨hj, d, rfl, _⟩ | ⟨hj, e2'⟩
      · cases o2
      · exact R'.apart i j di dj a n e1' e2' o1 o2 (by rw [wipe_get_ne hi]; exact s1) (by rw [wipe_get_ne hj]; exact s2)
theorem lc_run {K : PySem.W.Frag} {mi : MA} {ws vs : List Nat} {g : MG} {c : MT} {el : ME} (hw : ∀ i ∈ ws, i ∈ vs) {σ : L2.St} {H : Hp} {Q : VK} (h : tOf K (mLc mi g c el vs) σ H Q) : tLc (tIOf K mi) (tGOf K ws g) (tOfT K c) (tOfV K (fz el)) vs σ H Q := by
  obtain ⟨F0, Z, B, F, ρ, dv, ρ', R, e, k⟩ := h
  obtain ⟨⟨ds, ρ1⟩, e1, e2⟩ := Option.bind_eq_some_iff.mp e
  have e2' : (if allVal ρ1 vs = true ∧ ds.length ≤ line then (lcL g c el vs ds (wipeE ρ1 vs)).map (fun r => (DV.own (.lst r.1), restE r.2 ρ1 vs)) else none) = some (dv, ρ') := e2
  by_cases hcond : allVal ρ1 vs = true ∧ ds.length ≤ line
  · rw [if_pos hcond] at e2'
    obtain ⟨hv, hlen⟩ := hcond
    obtain ⟨⟨rs, ρ2⟩, e3, e4⟩ := Option.map_eq_some_iff.mp e2'
    cases e4
    refine ⟨F0, Z, B, F, ρ, ds, ρ1, R, e1, fun J H1 F1 R1 s1 ok => fun D hD => ?_⟩
    have hFD : F1 D = none := R1.fnone hD
    have hZD : Z D = none := R1.znone hD
    -- the state at turn i: what is made so far lies at D
    refine ⟨fun i m H' => m = ds.length - i ∧ i ≤ ds.length ∧ ∃ F' ρ' acc xs rest, Rel K F1 (upd Z D (.lst xs)) B (L2.wipe σ vs) H' F' ρ' ∧ Same F1 F' ∧ F' D = none ∧ Reps K F' acc xs ∧ acc.length ≤ i ∧ lcL g c el vs (ds.drop i) ρ' = some (rest, ρ2) ∧ acc ++ rest = rs, ?_, ?_⟩
    · have R2 := (R1.alloc (o := .lst []) hD)
      have R3 := (R2.prot upd_same (R1.off_new hD)).wipe vs
      exact ⟨ds.length, by simp, Nat.zero_le _, F1, wipeE ρ1 vs, [], [], rs, R3, Same.refl _, hFD, .nil, Nat.zero_le _, by simpa using e3, rfl⟩
    rintro i m H' ⟨rfl, hle, F', ρ3, acc, xs, rest, R', s', hFD', racc, hacc, eL, er⟩
    obtain ⟨ok1, ok2⟩ := ok F1 (upd Z D (.lst xs)) B (L2.wipe σ vs) H' F' ρ3 i s' R'
    have hHD : H' D = some (.lst xs) := R'.zsub _ _ upd_same
    by_cases hi' : i < ds.length
    · right
      obtain ⟨go, yl⟩ := ok1 hi'
      refine ⟨go, fun H2 => ∃ F2 ρ' acc xs rest, Rel K F1 (upd Z D (.lst xs)) B (L2.wipe σ vs) H2 F2 ρ' ∧ Same F1 F2 ∧ F2 D = none ∧ Reps K F2 acc xs ∧ acc.length ≤ i + 1 ∧ lcL g c el vs (ds.drop (i + 1)) ρ' = some (rest, ρ2) ∧ acc ++ rest = rs, fun H2 h2 => ⟨ds.length - (i + 1), by omega, rfl, hi', h2⟩, fun x H2 y => ?_⟩
      obtain ⟨F2, d, ed, s2, R2, rd⟩ := yl x H2 y
      have hd : ds.drop i = d :: ds.drop (i + 1) := by
        rw [List.drop_eq_getElem_cons hi']
        congr 1
        rw [List.getElem?_eq_getElem hi'] at ed
        exact Option.some.inj ed
      rw [hd] at eL
      obtain ⟨ρ4, e5, e6⟩ := Option.bind_eq_some_iff.mp (show (g d ρ3).bind _ = some (rest, ρ2) from eL)
      obtain ⟨⟨t, ρ5⟩, e7, e8⟩ := Option.bind_eq_some_iff.mp e6
      refine ⟨F1, upd Z D (.lst xs), B, F2, ρ3, d, ρ4, R2, rd, e5, fun σ3 F3 R3 s3 w3 => ?_⟩
      have w3' : L2.wipe σ3 vs = L2.wipe σ vs := by
        have := wipe_sub w3 hw
        rw [this]
        exact wipe_ext (wipe_length _ _) fun j hj => wipe_get_ne hj
      have w3'' : L2.wipe σ3 vs = L2.wipe (L2.wipe σ vs) vs ∨ True := .inr trivial
      refine ⟨?_, tOfT_of R3 e7 fun H5 F5 R5 s5 => ?_⟩
      · exact w3'
      have s15 : Same F1 F5 := s'.trans (s2.trans (s3.trans s5))
      have keepD : ∀ {Fx Hx : Hp} {σx : L2.St} {ρx : En}, Rel K F1 (upd Z D (.lst xs)) B σx Hx Fx ρx → Fx D = none ∧ Hx D = some (.lst xs) := fun {Fx Hx σx ρx} Rx => by
        refine ⟨?_, Rx.zsub _ _ upd_same⟩
        cases q : Fx D with
        | none => rfl
        | some u =>
          rcases Rx.base D u q with z | z
          · rw [hFD] at z; cases z
          · rw [upd_same] at z; cases z
      cases t with
      | true =>
        rw [if_pos rfl]
        have e8' : ((fz el ρ5).bind fun x => (lcL g c el vs (ds.drop (i + 1)) (wipeE x.2 vs)).map fun r => (x.1 :: r.1, r.2)) = some (rest, ρ2) := e8
        obtain ⟨⟨z, ρ6⟩, e9, e10⟩ := Option.bind_eq_some_iff.mp e8'
        obtain ⟨⟨rest', ρ7⟩, e11, e12⟩ := Option.map_eq_some_iff.mp e10
        cases e12
        refine tOfV_of R5 e9 fun v H6 F6 R6 s6 r6 => ?_
        obtain ⟨k1, k2⟩ := keepD R6
        have hl2 : line = 16777216 := rfl
        refine ⟨xs, k2, by rw [racc.length, ← line_eq]; omega, F6, wipeE ρ6 vs, acc ++ [z], xs ++ [v], rest', ?_, s15.trans s6, k1, (Reps.mono (s2.trans (s3.trans (s5.trans s6))) _ _ racc).append (.one r6), by simp; omega, e11, by rw [← er]; simp⟩
        have R7 := R6.wipe vs
        rw [w3'] at R7
        -- D is written
        refine ⟨R7.len, fun b u q => ?_, fun b u q => ?_, fun b u q => ?_, fun j dj ej => ?_, R7.apart⟩
        · rw [upd_ne (ne_of_none q k1)]; exact R7.sub _ _ q
        · by_cases hb : b = D
          · subst hb; rw [upd_same] at q ⊢; exact q
          · rw [upd_ne hb] at q ⊢
            exact R7.zsub b u (by rw [upd_ne hb]; exact q)
        · rcases R7.base b u q with q | q
          · exact .inl q
          · by_cases hb : b = D
            · subst hb; rw [upd_same] at q; cases q
            · rw [upd_ne hb] at q; exact .inr (by rw [upd_ne hb]; exact q)
        · obtain ⟨x', ex', sl⟩ := R7.slot j dj ej
          refine ⟨x', ex', ?_⟩
          have key : ∀ b, dj.owned = true → x' = .ref b → b ≠ D := fun b ob eb z => by
            subst z
            obtain ⟨b', eb', _, hz, _⟩ := sl.addr ob
            rw [eb] at eb'; cases eb'
            rw [upd_same] at hz; cases hz
          cases dj with
          | val d => exact sl
          | own d =>
            obtain ⟨b, eb, t1, t2, t3⟩ := sl
            have nb := key b rfl eb
            exact ⟨b, eb, t1, by rw [upd_ne nb] at t2 ⊢; exact t2, t3.mono (upd_ne nb) (Same.refl _)⟩
          | bor d =>
            obtain ⟨eb, t1, t2, t3⟩ := sl
            have nb := key _ rfl eb
            exact ⟨eb, t1, by rw [upd_ne nb] at t2 ⊢; exact t2, t3.mono (upd_ne nb) (Same.refl _)⟩
      | false =>
        rw [if_neg Bool.false_ne_true]
        have e8' : lcL g c el vs (ds.drop (i + 1)) (wipeE ρ5 vs) = some (rest, ρ2) := e8
        obtain ⟨k1, k2⟩ := keepD R5
        have R7 := R5.wipe vs
        rw [w3'] at R7
        exact ⟨F5, wipeE ρ5 vs, acc, xs, rest, R7, s15, k1, Reps.mono (s2.trans (s3.trans s5)) _ _ racc, by omega, e8', er⟩
    · left
      refine ⟨ok2 (by omega), ?_⟩
      have hd : ds.drop i = [] := List.drop_eq_nil_of_le (by omega)
      rw [hd] at eL
      cases eL
      rw [List.append_nil] at er
      subst er
      -- back to the outer frame
      have Rw : Rel K F0 Z B (L2.wipe σ vs) H1 F1 (wipeE ρ1 vs) := R1.wipe vs
      have Rw2 : Rel K F0 Z B (L2.wipe σ vs) (upd H1 D (.lst xs)) F1 (wipeE ρ1 vs) := Rw.alloc hD
      obtain ⟨R8, g1, g2, g3⟩ := Rw2.unprot (o := .lst xs) hFD hZD R'
      have R9 := R1.rest hv R8 s'
      refine k (.ref D) H' F' R9 (s1.trans s') ⟨D, rfl, g2, hZD, ⟨xs, g1, racc⟩, fun j dj ej oj es => ?_⟩
      have hl : ρ2.length = ρ1.length := by rw [R8.len, R1.len, wipe_length]
      rw [(restE_get hl).1] at ej
      by_cases hj : j ∈ vs
      · rw [if_pos hj] at ej
        have := List.all_eq_true.mp hv j hj
        rw [ej] at this
        cases dj with
        | val d => cases oj
        | own d => simp at this
        | bor d => simp at this
      · rw [if_neg hj] at ej
        exact g3 j dj ej oj (by rw [wipe_get_ne hj]; exact es)
  · rw [if_neg hcond] at e2'; cases e2'
theorem em_lc {elt tgt iter : Expr} {ifs : List Expr} {scope : Scope} {own : List (Str × Nat)} {pos : Pos} {mi : MA} {ws : List Nat} {g : MG} {c : MT} {el : ME} (hw : ∀ i ∈ ws, i ∈ own.map (·.2)) (hc : X.calm = true) (hN : X.N.Nodup) (hi : Im X tgt iter mi) (ok : BlkOk X.N X.env.scope scope own)
    (hg : ∀ (s : Shared) (H : Hp) (C : Addr) (cl : List (Str × Addr)) (fp : List Addr), Gm (X.blk s H scope (compEnvC scope cl C X.env) fp) tgt ws g) (ht : ∀ (s : Shared) (H : Hp) (C : Addr) (cl : List (Str × Addr)) (fp : List Addr), Tm (X.blk s H scope (compEnvC scope cl C X.env) fp) ifs c)
    (he : ∀ (s : Shared) (H : Hp) (C : Addr) (cl : List (Str × Addr)) (fp : List Addr), Em (X.blk s H scope (compEnvC scope cl C X.env) fp) elt el) (hs : ∀ x, foldedSetIterable iter X.env x = pure x := by intro _; rfl) :
    Em X (.ListComp elt [⟨tgt, iter, ifs, 0⟩] scope pos) (mLc mi g c el (own.map (·.2))) :=
  PE_imp (pe_lc hc hN hi ok hg ht (fun s H C cl fp => (he s H C cl fp).fz) hs) fun σ H Q h => lc_run hw h
theorem sm_setLc {i : Nat} {y : Str} {py : Pos} {elt tgt iter : Expr} {ifs : List Expr} {scope : Scope} {own : List (Str × Nat)} {pos spos : Pos} {mi : MA} {ws : List Nat} {g : MG} {c : MT} {el : ME} (hw : ∀ i ∈ ws, i ∈ own.map (·.2)) (hc : X.calm = true) (hN : X.N.Nodup) (hy : X.N[i]? = some y) (hyl : X.env.scope.names.lookup y = some .local)
    (hsw : swapsWith (.ListComp elt [⟨tgt, iter, ifs, 0⟩] scope pos) (some (.Name y py)) spos.line X.env = pure true) (hi : Im X tgt iter mi) (ok : BlkOk X.N X.env.scope scope own)
    (hg : ∀ (s : Shared) (H : Hp) (C : Addr) (cl : List (Str × Addr)) (fp : List Addr), Gm (X.blk s H scope (compEnvC scope cl C X.env) fp) tgt ws g) (ht : ∀ (s : Shared) (H : Hp) (C : Addr) (cl : List (Str × Addr)) (fp : List Addr), Tm (X.blk s H scope (compEnvC scope cl C X.env) fp) ifs c)
    (he : ∀ (s : Shared) (H : Hp) (C : Addr) (cl : List (Str × Addr)) (fp : List Addr), Em (X.blk s H scope (compEnvC scope cl C X.env) fp) elt el) (hs : ∀ x, foldedSetIterable iter X.env x = pure x := by intro _; rfl) :
    Sm X (.Assign [.Name y py] (.ListComp elt [⟨tgt, iter, ifs, 0⟩] scope pos) spos) (sSet i (mLc mi g c el (own.map (·.2)))) :=
  PS_imp (ps_setLc hc hN hy hyl hsw hi ok hg ht (fun s H C cl fp => (he s H C cl fp).fz) hs) fun D σ H h => set_tail (fun σ H Q h => lc_run hw h) h
end
end Cb

set_option Elab.async false
set_option linter.all false
set_option maxRecDepth 100000
/-! Defs of a text, the head's facts with constants, the end. -/
namespace Cb
open PySem PySem.Spec PyProof.Rows L2 He
/-- a def as callers know it: k: how deep it calls -/
def Def (P : Program) (w : World) (K : PySem.W.Frag) (mg : Str → Option Value) (base : Heap) (x : Str) (k : Nat) (io : Option Nat) (n : Nat) (φ : List D → Option (DV × D)) : Prop :=
  ∃ (f : Addr) (fd : FuncData) (ps : List Str), FnOk P w K mg base CX0 k f fd ps (spF K io n φ) ∧ mg x = some (.ref f) ∧ PySem.W.keepIn K (.ref f) = true ∧ Binds K fd ps []
theorem Def.fk {X : Cx} {x : Str} {k j : Nat} {io : Option Nat} {n : Nat} {φ : List D → Option (DV × D)} (h : Def X.prog X.w X.K X.mg X.base x k io n φ) (hr : Room j X.A) (hk : k ≤ j := by decide) : Fk X x io n φ := by
  obtain ⟨f, fd, ps, F, hm, hkp, hb⟩ := h
  exact ⟨k, f, fd, ps, F, hr.mono hk, hm, hkp, hb⟩
/-- the text's def st, named x, at its place -/
structure Src (K : PySem.W.Frag) (mg : Str → Option Value) (x : Str) (st : Stmt) : Prop where
  ex : ∃ fd, FunD K x x (defArgs st) (defBody st) (defScope st) [] [] (ga K x) fd
  at_ : mg x = some (.ref (ga K x))
section
variable {P : Program} {w : World} {K : PySem.W.Frag} {mg : Str → Option Value} {base : Heap}
theorem Src.def_ {x : Str} {st : Stmt} {N ps : List Str} {k n : Nat} {io : Option Nat} {m : MS} (h : Src K mg x st) (S : FnScope N ps (defScope st)) (hn : ps.length = n)
    (hbind : ∀ (kV doc pm : Value) (an : Option Addr) (cdv ct : Value) (us : List Value), us.length = ps.length → bindArgs (PySem.W.fnOf x x (defArgs st) (defBody st) (defScope st) .none kV doc pm an cdv ct) ⟨us, []⟩ = pure (ps.zip us))
    (hb : ∀ (f : Addr) (cdv : Value) (A : Around) (outer : List Env) (s : Shared) (H : Hp) (E : XK), Room k (A.deeper (envOfC x (defScope st) s.heap.objs.size f cdv)) → Ss (cxOf CX0 P w K mg base N x (defScope st) f cdv A outer s H E).nox (defBody st) m) :
    Def P w K mg base x (k + 1) io n (runFn io N.length m) := by
  obtain ⟨fd, F⟩ := h.ex
  exact ⟨_, fd, ps, fn_ok F S hn (hb _), h.at_, F.kp, F.bindsN hbind⟩
end
/-! ### constants of the text -/
mutual
def relDB (K : PySem.W.Frag) : D → Value → Bool
  | .non, .none => true
  | .bl b, .bool c => b == c
  | .int i, .int j _ => decide (i = j)
  | .str x, .str y _ => decide (x = y)
  | .tup ds, .ref a => (match K.lookup a with
    | some ⟨.type c, _, .seq its _, _⟩ => decide (c = "tuple") && (decide (its.size ≤ sizeLine) && relDsB K ds its.toList)
    | _ => false)
  | _, _ => false
def relDsB (K : PySem.W.Frag) : List D → List Value → Bool
  | [], [] => true
  | d :: ds, u :: us => relDB K d u && relDsB K ds us
  | _, _ => false
end
mutual
theorem relDB_ok {K : PySem.W.Frag} : ∀ (d : D) (u : Value), relDB K d u = true → ∃ v, RelV v u ∧ ∀ F, Rep K F d v
  | .non, u, h => by
    cases u with
    | none => exact ⟨.non, rfl, fun F => by unfold Rep; rfl⟩
    | _ => simp [relDB] at h
  | .bl b, u, h => by
    cases u with
    | bool c =>
      have : b = c := by simpa [relDB] using h
      subst this
      exact ⟨.bl b, rfl, fun F => by unfold Rep; rfl⟩
    | _ => simp [relDB] at h
  | .int i, u, h => by
    cases u with
    | int j t =>
      have : i = j := by simpa [relDB] using h
      subst this
      exact ⟨.int i, ⟨t, rfl⟩, fun F => by unfold Rep; rfl⟩
    | _ => simp [relDB] at h
  | .str i, u, h => by
    cases u with
    | str j t =>
      have : i = j := by simpa [relDB] using h
      subst this
      exact ⟨.str i, ⟨t, rfl⟩, fun F => by unfold Rep; rfl⟩
    | _ => simp [relDB] at h
  | .tup ds, u, h => by
    cases u with
    | ref a =>
      have h1 : (match K.lookup a with
        | some ⟨.type c, _, .seq its _, _⟩ => decide (c = "tuple") && (decide (its.size ≤ sizeLine) && relDsB K ds its.toList)
        | _ => false) = true := by simpa only [relDB] using h
      cases q : K.lookup a with
      | none => rw [q] at h1; cases h1
      | some o =>
        obtain ⟨oc, od, dt, osl⟩ := o
        rw [q] at h1
        cases oc with
        | type c =>
          cases dt with
          | seq its n =>
            obtain ⟨e1, e2⟩ := ba (show (decide (c = "tuple") && (decide (its.size ≤ sizeLine) && relDsB K ds its.toList)) = true from h1)
            obtain ⟨e3, e4⟩ := ba e2
            obtain ⟨vs, rv, hr⟩ := relDsB_ok ds its.toList e4
            refine ⟨.ref a, rfl, fun F => ?_⟩
            unfold Rep
            exact ⟨a, vs, rfl, .inr ⟨_, its, n, q, congrArg Value.type (of_decide_eq_true e1), rfl, of_decide_eq_true e3, rv⟩, hr F⟩
          | _ => cases h1
        | _ => cases dt <;> cases h1
    | _ => simp [relDB] at h
  | .lst _, u, h => by cases u <;> simp [relDB] at h
  | .dk _ _, u, h => by cases u <;> simp [relDB] at h
  | .dt _ _, u, h => by cases u <;> simp [relDB] at h
  | .scr _, u, h => by cases u <;> simp [relDB] at h
theorem relDsB_ok {K : PySem.W.Frag} : ∀ (ds : List D) (us : List Value), relDsB K ds us = true → ∃ vs, Vals vs us ∧ ∀ F, Reps K F ds vs
  | [], [], _ => ⟨[], .nil, fun F => .nil⟩
  | [], _ :: _, h => by simp [relDsB] at h
  | _ :: _, [], h => by simp [relDsB] at h
  | d :: ds, u :: us, h => by
    obtain ⟨h1, h2⟩ := ba (show (relDB K d u && relDsB K ds us) = true by simpa only [relDsB] using h)
    obtain ⟨v, r, hr⟩ := relDB_ok d u h1
    obtain ⟨vs, rs, hrs⟩ := relDsB_ok ds us h2
    exact ⟨v :: vs, .cons r rs, fun F => .cons (hr F) (hrs F)⟩
end
def conB (K : PySem.W.Frag) (c : Str × D) : Bool := match PySem.W.nsIn K mainGlobals c.1 with
  | some (some u) => relDB K c.2 u
  | _ => false
theorem conB_ok {K : PySem.W.Frag} {h : Heap} {mg : Str → Option Value} (X : K.In h) (G : h.Ns mainGlobals mg) {c : Str × D} (e : conB K c = true) : Glc K mg c.1 c.2 := by
  unfold conB at e
  cases q : PySem.W.nsIn K mainGlobals c.1 with
  | none => rw [q] at e; cases e
  | some o =>
    rw [q] at e
    cases o with
    | none => cases e
    | some u =>
      obtain ⟨v, r, hr⟩ := relDB_ok c.2 u e
      exact ⟨v, u, PySem.W.mg_of X G q, r, hr⟩
/-! ### the Hook -/
abbrev AlC : Type := Bool × List FnW
def obsC (fa : List Fa) (cs : List (Str × D)) (fn : List DefD) (K : PySem.W.Frag) : AlC := ((fa.all fun f => f.ok K) && ((cs.all fun c => conB K c) && fn.all fun d => d.ok K), fn.map fun d => fnW K d.at_)
def valC (fn : List DefD) : AlC := (true, fn.map DefD.val)
def SaysC (fa : List Fa) (cs : List (Str × D)) (fn : List DefD) (K : PySem.W.Frag) : Prop := obsC fa cs fn K = valC fn
def obsCG (n : Nat) (fa : List Fa) (cs : List (Str × D)) (fn : List DefD) (g : Addr → Option Obj) : AlC := obsC fa cs fn (frG g (asD g n))
def hookC (n : Nat) (fa : List Fa) (cs : List (Str × D)) (fn : List DefD) : PySem.W.Hook where
  α := AlC
  obs := fun s => obsCG n fa cs fn s.heap.get?
  val := fun _ => valC fn
  says := fun _ h => ∃ K : PySem.W.Frag, K.In h ∧ SaysC fa cs fn K
  of := fun _ _ e => ⟨_, frG_in, e⟩
  keeps := fun _ _ _ ⟨K, hK, c⟩ k => ⟨K, PySem.W.Frag.In.keeps hK k, c⟩
theorem obsCG_eq {n : Nat} {fa : List Fa} {cs : List (Str × D)} {fn : List DefD} {g : Addr → Option Obj} {s : Shared} (h : ∀ a, g a = s.heap.get? a) : obsCG n fa cs fn g = (hookC n fa cs fn).obs s := by
  have e : g = s.heap.get? := funext h
  rw [e] <;> rfl
section
variable {fa : List Fa} {cs : List (Str × D)} {fn : List DefD} {K : PySem.W.Frag}
theorem SaysC.fact (c : SaysC fa cs fn K) (i : Nat) {f : Fa} (h : fa[i]? = some f := by rfl) : f.ok K = true := by
  have c1 := (ba (show ((fa.all fun f => f.ok K) && ((cs.all fun c => conB K c) && fn.all fun d => d.ok K)) = true from congrArg (fun z : AlC => z.1) c)).1
  exact List.all_eq_true.mp c1 f (List.mem_of_getElem? h)
theorem SaysC.con (c : SaysC fa cs fn K) (i : Nat) {f : Str × D} (h : cs[i]? = some f := by rfl) : conB K f = true := by
  have c1 := (ba (ba (show ((fa.all fun f => f.ok K) && ((cs.all fun c => conB K c) && fn.all fun d => d.ok K)) = true from congrArg (fun z : AlC => z.1) c)).2).1
  exact List.all_eq_true.mp c1 f (List.mem_of_getElem? h)
theorem SaysC.def_ (c : SaysC fa cs fn K) (i : Nat) {d : DefD} (h : fn[i]? = some d := by rfl) : ∃ fd, FunD K d.name d.qual d.params d.body d.scope (d.dvs K) (d.kws K) (fAd K d.at_) fd := by
  have c2 := (ba (ba (show ((fa.all fun f => f.ok K) && ((cs.all fun c => conB K c) && fn.all fun d => d.ok K)) = true from congrArg (fun z : AlC => z.1) c)).2).2
  have e : fn.map (fun d => fnW K d.at_) = fn.map DefD.val := congrArg (fun z : AlC => z.2) c
  have e2 : (fn.map fun d => fnW K d.at_)[i]? = (fn.map DefD.val)[i]? := by rw [e]
  rw [List.getElem?_map, List.getElem?_map, h] at e2
  exact DefD.funD (Option.some.inj e2) (List.all_eq_true.mp c2 d (List.mem_of_getElem? h))
end
/-- the i-th statement -/
def topAt (p : Program) (i : Nat) : Stmt := p.main.body.getD i (.Pass ⟨0, 0, 0, 0⟩)
def datum (x : Str) (st : Stmt) : DefD := ⟨(x, none), x, x, defArgs st, defBody st, defScope st, [], []⟩
/-! ### the end: law(script) is True -/
theorem law_sp {P : Program} {w : World} {K : PySem.W.Frag} {mg : Str → Option Value} {base : Heap} {φ : List D → Option (DV × D)} {ns : List Int} {H : Hp} {a : Addr} (e : φ [.scr ns] = some (.val (.bl true), .non)) (hS : SqL K H a (ns.map V.int)) :
    spF K none 1 φ [.ref a] H (fun v _ => v = .bl true) fun _ _ _ => False := by
  refine ⟨rfl, H, [.scr ns], _, _, Same.refl _, rfl, fun j v d ev ed => ⟨fun _ => ?_, fun z => by cases z⟩, e, fun v H' F' po => ?_⟩
  · cases j with
    | zero =>
      simp at ev ed
      subst ev ed
      unfold Rep
      exact ⟨a, rfl, hS⟩
    | succ j => simp at ev
  · have r : Rep K F' (.bl true) v := po.res
    unfold Rep at r
    exact r
end Cb

set_option Elab.async false
set_option linter.all false
set_option maxRecDepth 100000
/-! Further rules: built-ins' names, t[::-1] of lists and tuples, list(range(..)). -/
namespace Cb
open PySem PySem.Spec PyProof.Rows L2
theorem bt_len : bootBuiltins "len" = some (.builtin "len") := by decide +kernel
theorem bt_abs : bootBuiltins "abs" = some (.builtin "abs") := by decide +kernel
theorem bt_max : bootBuiltins "max" = some (.builtin "max") := by decide +kernel
theorem bt_min : bootBuiltins "min" = some (.builtin "min") := by decide +kernel
theorem bt_sum : bootBuiltins "sum" = some (.builtin "sum") := by decide +kernel
theorem bt_all : bootBuiltins "all" = some (.builtin "all") := by decide +kernel
theorem bt_any : bootBuiltins "any" = some (.builtin "any") := by decide +kernel
theorem bt_sorted : bootBuiltins "sorted" = some (.builtin "sorted") := by decide +kernel
theorem bt_isinstance : bootBuiltins "isinstance" = some (.builtin "isinstance") := by decide +kernel
theorem bt_int : bootBuiltins "int" = some (.type "int") := by decide +kernel
theorem bt_bool : bootBuiltins "bool" = some (.type "bool") := by decide +kernel
theorem bt_str : bootBuiltins "str" = some (.type "str") := by decide +kernel
theorem bt_list : bootBuiltins "list" = some (.type "list") := by decide +kernel
theorem bt_tuple : bootBuiltins "tuple" = some (.type "tuple") := by decide +kernel
theorem bt_dict : bootBuiltins "dict" = some (.type "dict") := by decide +kernel
theorem bt_set : bootBuiltins "set" = some (.type "set") := by decide +kernel
section
variable {X : Cx}
theorem PE_or {e : Expr} {t t' : TE} (h : PE X e t) (h' : PE X e t') : PE X e (fun σ H Q => t σ H Q ∨ t' σ H Q) := ⟨fun pins s σ H Q I q => q.elim (h.run pins s σ H Q I) (h'.run pins s σ H Q I)⟩
/-- x[::-1] -/
def mRev (ma : ME) : ME := fun ρ => (fz ma ρ).bind fun p => match p.1 with
  | .tup ds => some (.val (.tup ds.reverse), p.2)
  | .lst ds => some (.own (.lst ds.reverse), p.2)
  | _ => none
theorem em_rev {e : Expr} {k : Nat} {p1 p2 p3 pos : Pos} {ma : ME} (ha : Em X e ma) : Em X (.Subscript e (.Slice none none (some (.UnaryOp .USub (.Constant (.int 1) k p1) p2)) p3) pos) (mRev ma) :=
  PE_imp (PE_or (pe_revT ha.fz) (pe_revL ha.fz)) fun σ H Q ⟨F0, Z, B, F, ρ, dv, ρ', R, e, kk⟩ => by
    obtain ⟨⟨x, ρ1⟩, e1, e2⟩ := Option.bind_eq_some_iff.mp e
    cases x with
    | tup ds =>
      cases e2
      refine .inl (tOfV_of R e1 fun v H1 F1 R1 s1 r1 => ?_)
      obtain ⟨b, xs, rfl, q1, q2⟩ := st_of R1.sub r1
      refine ⟨b, xs, rfl, q1, fun p hp => ?_⟩
      obtain ⟨R5, s5, r5⟩ := new_tup R1 hp q2.reverse
      exact kk _ _ _ R5 (s1.trans s5) r5
    | lst ds =>
      cases e2
      refine .inr (tOfV_of R e1 fun v H1 F1 R1 s1 r1 => ?_)
      obtain ⟨b, xs, rfl, q1, q2⟩ := sq_of R1.sub r1
      refine ⟨b, xs, rfl, q1, fun p hp => ?_⟩
      obtain ⟨R5, r5⟩ := new_lst R1 hp q2.reverse
      exact kk _ _ _ R5 s1 r5
    | _ => cases e2
/-- list(range(n)), list(range(a, b)) -/
def mLRg (ma : ME) : ME := fun ρ => (fz ma ρ).bind fun p => match p.1 with
  | .int n => if n ≤ 16777216 ∧ 0 ≤ n then some (.own (.lst (intsFT 0 n)), p.2) else none
  | _ => none
theorem em_lrg {e : Expr} {p q pos pos' : Pos} {ma : ME} (hc : X.calm = true) (hg : Gl X "list") (hm : X.mg "list" = none) (hg2 : Gl X "range") (hm2 : X.mg "range" = none) (ha : Em X e ma) (na : starEach [e] X.env = (false, eval e X.env) :: starEach [] X.env := by rfl)
    (na2 : starEach [.Call (.Name "range" q) [e] [] pos'] X.env = (false, eval (.Call (.Name "range" q) [e] [] pos') X.env) :: starEach [] X.env := by rfl) : Em X (.Call (.Name "list" p) [.Call (.Name "range" q) [e] [] pos'] [] pos) (mLRg ma) :=
  PE_imp (pe_listRg hc hg hm (prg_1 hg2 hm2 ha.fz na) na2) fun σ H Q ⟨F0, Z, B, F, ρ, dv, ρ', R, e, kk⟩ => by
    obtain ⟨⟨x, ρ1⟩, e1, e2⟩ := Option.bind_eq_some_iff.mp e
    cases x with
    | int n =>
      obtain ⟨⟨h1, h2⟩, e3⟩ := ite_some (show (if n ≤ 16777216 ∧ 0 ≤ n then some (DV.own (.lst (intsFT 0 n)), ρ1) else none) = some (dv, ρ') from e2)
      cases e3
      refine tOfV_of R e1 fun v H1 F1 R1 s1 r1 => ?_
      unfold Rep at r1
      refine ⟨n, r1, .of_le (Int.le_refl _) h1 (by decide) h2, fun p hp => ?_⟩
      obtain ⟨R5, r5⟩ := new_lst R1 hp (reps_rg 0 n)
      exact kk _ _ _ R5 s1 r5
    | _ => cases e2
def mLRg2 (ma mb : ME) : ME := fun ρ => (fz ma ρ).bind fun p => (fz mb p.2).bind fun q => match p.1, q.1 with
  | .int a, .int n => if 0 ≤ a ∧ a ≤ 16777216 ∧ n ≤ 16777216 ∧ 0 ≤ n then some (.own (.lst (intsFT a n)), q.2) else none
  | _, _ => none
theorem em_lrg2 {e e' : Expr} {p q pos pos' : Pos} {ma mb : ME} (hc : X.calm = true) (hg : Gl X "list") (hm : X.mg "list" = none) (hg2 : Gl X "range") (hm2 : X.mg "range" = none) (ha : Em X e ma) (hb : Em X e' mb) (na : starEach [e, e'] X.env = (false, eval e X.env) :: starEach [e'] X.env := by rfl)
    (nb : starEach [e'] X.env = (false, eval e' X.env) :: starEach [] X.env := by rfl) (hp : (backTo pos' (starEach [e'] X.env)).any (·.1) = false := by rfl)
    (na2 : starEach [.Call (.Name "range" q) [e, e'] [] pos'] X.env = (false, eval (.Call (.Name "range" q) [e, e'] [] pos') X.env) :: starEach [] X.env := by rfl) : Em X (.Call (.Name "list" p) [.Call (.Name "range" q) [e, e'] [] pos'] [] pos) (mLRg2 ma mb) :=
  PE_imp (pe_listRg hc hg hm (prg_2 hg2 hm2 ha.fz hb.fz na nb hp) na2) fun σ H Q ⟨F0, Z, B, F, ρ, dv, ρ', R, e, kk⟩ => by
    obtain ⟨⟨x, ρ1⟩, e1, e2⟩ := Option.bind_eq_some_iff.mp e
    obtain ⟨⟨y, ρ2⟩, e3, e4⟩ := Option.bind_eq_some_iff.mp e2
    cases x with
    | int a =>
      cases y with
      | int n =>
        obtain ⟨⟨h0, h1, h2, h3⟩, e5⟩ := ite_some (show (if 0 ≤ a ∧ a ≤ 16777216 ∧ n ≤ 16777216 ∧ 0 ≤ n then some (DV.own (.lst (intsFT a n)), ρ2) else none) = some (dv, ρ') from e4)
        cases e5
        refine tOfV_of R e1 fun v H1 F1 R1 s1 r1 => tOfV_of R1 e3 fun u H2 F2 R2 s2 r2 => ?_
        unfold Rep at r1 r2
        refine ⟨a, n, r1, r2, .of_le h0 h2 h1 h3, fun p hp => ?_⟩
        obtain ⟨R5, r5⟩ := new_lst R2 hp (reps_rg a n)
        exact kk _ _ _ R5 (s1.trans s2) r5
      | _ => cases e4
    | _ => cases y <;> cases e4
end
end Cb

set_option Elab.async false
set_option linter.all false
set_option maxRecDepth 100000
/-! zip and enumerate over lists and tuples in any mix. -/
namespace Cb
open PySem PySem.Spec PyProof.Rows L2
def SqB (K : PySem.W.Frag) (b : Bool) (H : Hp) (a : Addr) (xs : List V) : Prop := if b then SqT K H a xs else SqL K H a xs
def ItB (b : Bool) (h : Heap) (it l : Addr) (i : Nat) : Prop := if b then h.IsTupleIter it l i else h.IsListIter it l i
def IsB (b : Bool) (h : Heap) (l : Addr) (its : Array Value) : Prop := if b then h.IsTuple l its else h.IsList l its
def itO (b : Bool) (l : Addr) : Obj := if b then { cls := .type "tuple_iterator", data := .fields #[.ref l, .int 0 0] } else { cls := .type "list_iterator", data := .fields #[.ref l, .int 0 0] }
theorem draws_b {prog : Program} {w : World} {A : Around} (b : Bool) (hh : A.handled = none) (it l : Addr) (hne : l ≠ it) (its : Array Value) :
    Draws prog w A it [it, l] its.size (fun i v => its[i]? = some v) (fun i h => ItB b h it l i ∧ IsB b h l its) := by
  cases b
  · exact Draws.list hh it l hne its
  · exact Draws.tuple hh it l hne its
theorem begins_b (b : Bool) (l : Addr) (its : Array Value) : Begins (.ref l) (itO b l) (fun h => IsB b h l its) := by
  cases b
  · exact begins_list l its
  · exact begins_tuple l its
theorem itO_it (b : Bool) {h : Heap} {it l : Addr} (e : h.get? it = some (itO b l)) : ItB b h it l 0 := by
  cases b
  · exact ⟨_, e, rfl, rfl⟩
  · exact ⟨_, e, rfl, rfl⟩
section
variable {X : Cx} {pins : List (Addr × Obj)} {σ : L2.St} {H : Hp} {s : Shared} {a : Addr} {xs ys : List V} {b : Bool}
theorem inv_b (I : Inv X pins σ H s) (h : SqB X.K b H a xs) : ∃ its : List Value, Vals xs its ∧ IsB b s.heap a its.toArray ∧ a < s.heap.objs.size := by
  cases b
  · obtain ⟨its, rv, p, _⟩ := I.list h
    exact ⟨its, rv, p.isList, p.lt⟩
  · obtain ⟨its, rv, p, _⟩ := I.tuple h
    obtain ⟨o, ho, _⟩ := id p
    exact ⟨its, rv, p, Heap.lt_size ho⟩
theorem inj_b (I : Inv X pins σ H s) (h : SqB X.K b H a xs) (k : SqB X.K b H a ys) : xs = ys := by
  cases b
  · exact I.list_inj h k
  · exact I.tuple_inj h k
end
theorem itB_at {b : Bool} {h h' : Heap} {it l : Addr} {i : Nat} (q : ItB b h it l i) (k : ∀ o, h.get? it = some o → h'.get? it = some o) : ItB b h' it l i := by
  cases b
  · obtain ⟨o, e, r⟩ := q; exact ⟨o, k o e, r⟩
  · obtain ⟨o, e, r⟩ := q; exact ⟨o, k o e, r⟩
theorem itB_obj {b : Bool} {h : Heap} {it l : Addr} {i : Nat} (q : ItB b h it l i) : ∃ o, h.get? it = some o ∧ ∀ v, o.data ≠ .cell v := by
  cases b
  · obtain ⟨o, e, _, d⟩ := q; exact ⟨o, e, fun v z => by rw [d] at z; cases z⟩
  · obtain ⟨o, e, _, d⟩ := q; exact ⟨o, e, fun v z => by rw [d] at z; cases z⟩
def Jz2 (K : PySem.W.Frag) (b1 b2 : Bool) (a1 a2 : Addr) (N : Nat) : It :=
  ⟨fun i H => i < N ∧ ∃ xs ys, SqB K b1 H a1 xs ∧ SqB K b2 H a2 ys ∧ i < xs.length ∧ i < ys.length,
    fun i H v H' => ∃ T x y, v = .ref T ∧ H T = none ∧ H' = upd H T (.tup [x, y]) ∧ (∀ xs, SqB K b1 H a1 xs → xs[i]? = some x) ∧ ∀ ys, SqB K b2 H a2 ys → ys[i]? = some y,
    fun i H => N ≤ i ∧ ∃ xs ys, SqB K b1 H a1 xs ∧ SqB K b2 H a2 ys ∧ min xs.length ys.length = N⟩
theorem mem5 {c z TI TO i1 i2 : Addr} (h : c ∈ [z, TI, TO, i1, i2]) : c = z ∨ c = TI ∨ c = TO ∨ c = i1 ∨ c = i2 := by simpa using h
theorem turn_z2 {P : Program} {w : World} {K : PySem.W.Frag} {elts : List Expr} {kk : Nat} {tpos : Pos} {b1 b2 : Bool} {a1 a2 z TI TO i1 i2 : Addr} {N : Nat} (S : ZipSep2 z TI TO i1 i2 [i1, a1] [i2, a2]) (n1 : a1 ≠ i1) (n2 : a2 ≠ i2) :
    Turn P w K (.Tuple elts kk tpos) (Jz2 K b1 b2 a1 a2 N) [z, TI, TO, i1, i2] z (fun i h => i ≤ N ∧ IsZip h z TI TO .none ∧ IsTupOf2 h TI (.ref i1) (.ref i2) ∧ (∃ x y, IsTupOf2 h TO x y) ∧ ItB b1 h i1 a1 i ∧ ItB b2 h i2 a2 i) where
  mem := List.mem_cons_self ..
  obj := fun i h ⟨_, e1, e2, ⟨x, y, e3⟩, e4, e5⟩ c hc => by
    rcases mem5 hc with q | q | q | q | q <;> subst q
    · exact ⟨_, e1, nofun⟩
    · exact ⟨_, e2, nofun⟩
    · exact ⟨_, e3, nofun⟩
    · exact itB_obj e4
    · exact itB_obj e5
  keep := fun i h h' ⟨e0, e1, e2, ⟨x, y, e3⟩, e4, e5⟩ k =>
    ⟨e0, k z (by simp) _ e1, k TI (by simp) _ e2, ⟨x, y, k TO (by simp) _ e3⟩, itB_at e4 (k i1 (by simp)), itB_at e5 (k i2 (by simp))⟩
  item := fun X hP hw hK hc i pins s σ H E I hf ⟨e0, e1, e2, ⟨x0, y0, e3⟩, e4, e5⟩ ⟨g0, xs, ys, gx, gy, lx, ly⟩ => by
    subst hP hw hK
    obtain ⟨us, rx, px, ltx⟩ := inv_b I gx
    obtain ⟨vs, ry, py, lty⟩ := inv_b I gy
    have hx : xs[i]? = some xs[i] := List.getElem?_eq_getElem lx
    have hy : ys[i]? = some ys[i] := List.getElem?_eq_getElem ly
    obtain ⟨u, hu, ru⟩ := rx.get hx
    obtain ⟨v, hv, rv⟩ := ry.get hy
    have lenx := rx.length
    have leny := ry.length
    refine wpAny_pyNext_zipD2_item S (draws_b (prog := X.prog) (w := X.w) (A := X.A.in1) b1 (I.ok.hd hc) i1 a1 n1 us.toArray) (draws_b (prog := X.prog) (w := X.w) (A := X.A.in1) b2 (I.ok.hd hc) i2 a2 n2 vs.toArray) e1 e2 e3 ⟨e4, px⟩ ⟨e5, py⟩ (by simp; omega) (by simp; omega) fun x1 x2 h1 tk q1 q2 z1 o1 s1 s2 t1 hsz hk => ?_
    refine ⟨_, rfl, wpAny_letOwnedTupleGo_zip (s := { s with heap := h1, toks := tk }) z1 fun h2 z2 sb => ?_⟩
    have k1 : x1 = u := by
      have : us.toArray[i]? = some u := by simpa using hu
      exact Option.some.inj (q1.symm.trans this)
    have k2 : x2 = v := by
      have : vs.toArray[i]? = some v := by simpa using hv
      exact Option.some.inj (q2.symm.trans this)
    subst k1 k2
    have lz : z < s.heap.objs.size := Heap.lt_size e1
    have t2 := (sb.2 _ (Nat.ne_of_gt lz)).trans t1
    have new : ObjOk X.prog X.w (upd H s.heap.objs.size (.tup [xs[i], ys[i]])) h2 s.heap.objs.size (.tup [xs[i], ys[i]]) :=
      ⟨(by decide : 2 ≤ sizeLine), [x1, x2], .cons ru (.cons rv .nil), ⟨_, t2, rfl, _, rfl⟩⟩
    have kept : ∀ c o, c ∉ [z, TI, TO, i1, i2] → s.heap.get? c = some o → h2.get? c = some o := fun c o hb q =>
      (sb.2 c (fun y => hb (by simp [y]))).trans (hk c o (fun y => hb (by simp [y])) (fun y => hb (by simp [y])) (fun y => hb (by simp [y])) (fun y => hb (by simp [y])) q)
    have I1 := I.turnedNew (t' := tk) (ch := [z, TI, TO, i1, i2]) kept hf (Nat.le_refl _) new
    refine ⟨.ref s.heap.objs.size, _, I1, rfl, ⟨_, xs[i], ys[i], rfl, I.hok.fresh (Nat.le_refl _), rfl, fun l hl => by rw [inj_b I hl gx]; exact hx, fun l hl => by rw [inj_b I hl gy]; exact hy⟩,
      ⟨g0, z2, (sb.2 _ S.TIz).trans (hk _ _ S.TIz S.TITO S.TIi1 S.TIi2 e2), ⟨x1, x2, (sb.2 _ S.TOz).trans o1⟩, itB_at s1.1 fun o q => (sb.2 _ (fun y => S.zf1 (by simp [y]))).trans q, itB_at s2.1 fun o q => (sb.2 _ (fun y => S.zf2 (by simp [y]))).trans q⟩, fun c hcm => ?_⟩
    have hlt : c < s.heap.objs.size := by
      rcases mem5 hcm with q | q | q | q | q <;> subst q
      · exact lz
      · exact Heap.lt_size e2
      · exact Heap.lt_size e3
      · obtain ⟨_, q, _⟩ := itB_obj e4; exact Heap.lt_size q
      · obtain ⟨_, q, _⟩ := itB_obj e5; exact Heap.lt_size q
    rw [upd_ne (Nat.ne_of_lt hlt)]
    exact (hf c hcm).1
  done := fun X hP hw hK hc i pins s σ H E I hf ⟨e0, e1, e2, ⟨x0, y0, e3⟩, e4, e5⟩ ⟨g0, xs, ys, gx, gy, hN⟩ => by
    subst hP hw hK
    obtain ⟨us, rx, px, ltx⟩ := inv_b I gx
    obtain ⟨vs, ry, py, lty⟩ := inv_b I gy
    have lenx := rx.length
    have leny := ry.length
    exact wpAny_pyNext_zipD2_end S (draws_b (prog := X.prog) (w := X.w) (A := X.A.in1) b1 (I.ok.hd hc) i1 a1 n1 us.toArray) (draws_b (prog := X.prog) (w := X.w) (A := X.A.in1) b2 (I.ok.hd hc) i2 a2 n2 vs.toArray) e1 e2 e3 ⟨e4, px⟩ ⟨e5, py⟩ (by simp; omega) (by simp; omega) (by simp; omega) fun h1 tk hk =>
      ⟨rfl, I.turnedL (t' := tk) (ch := [z, TI, TO, i1, i2]) (fun c o hb q => hk c o (fun y => hb (by simp [y])) (fun y => hb (by simp [y])) (fun y => hb (by simp [y])) (fun y => hb (by simp [y])) q) hf⟩
  self := fun A i s Q E st h => wpAny_pyIter_zip st.2.1 h
def iZ2 (K : PySem.W.Frag) (ta : TA) : TI := fun σ H R => ta σ H fun vs H1 => ∃ a b xs ys b1 b2, vs = [.ref a, .ref b] ∧ SqB K b1 H1 a xs ∧ SqB K b2 H1 b ys ∧ R (Jz2 K b1 b2 a b (min xs.length ys.length)) H1
theorem pi_z2 {X : Cx} {e e2 : Expr} {ta : TA} {p pos tpos : Pos} {elts : List Expr} {kk : Nat} (hg : Gl X "zip") (hm : X.mg "zip" = none) (ha : PA X [e, e2] ta)
    (hs : starEach [e, e2] X.env = (false, eval e X.env) :: starEach [e2] X.env := by rfl) (hpl : (backTo pos (starEach [e2] X.env)).any (·.1) = false := by rfl) :
    PI X (.Tuple elts kk tpos) (.Call (.Name "zip" p) [e, e2] [] pos) (iZ2 X.K ta) := by
  refine ⟨fun pins s σ H R I h => ?_⟩
  refine Call_ (ld_blt I hg hm PyProof.Rows.boot_zip (PyProof.Rows.callWith_type1 (thn (ha.run pos pins s σ H _ I h) fun us s1 ⟨vs, H1, I1, r1, q1⟩ => ?_) hs hpl))
  obtain ⟨a, b, xs, ys, b1, b2, ex, hx, hy, q⟩ := q1
  subst ex
  cases r1 with
  | cons r rr =>
    cases rr with
    | cons r' rr =>
      cases rr
      cases r
      cases r'
      obtain ⟨us, rx, px, ltx⟩ := inv_b I1 hx
      obtain ⟨ws, ry, py, lty⟩ := inv_b I1 hy
      refine zip_begins2 (begins_b b1 a us.toArray) (begins_b b2 b ws.toArray) px py fun h' hz hTI hTO h1 h2 hsz hk => wpAny_pyIter_zip hz ?_
      have I2 : Inv X pins σ H1 { s1 with heap := h' } := I1.kept (t' := s1.toks) hk
      have S := zip_sep2 (N := s1.heap.objs.size) (fp1 := [a]) (fp2 := [b]) (by simpa using ltx) (by simpa using lty)
      refine ⟨_, [s1.heap.objs.size + 4, s1.heap.objs.size + 2, s1.heap.objs.size + 3, s1.heap.objs.size, s1.heap.objs.size + 1], _, _, H1, rfl, I2, turn_z2 S (Nat.ne_of_lt ltx) (Nat.ne_of_lt (Nat.lt_succ_of_lt lty)), ⟨Nat.zero_le _, hz, hTI, ⟨_, _, hTO⟩, itO_it b1 h1, itO_it b2 h2⟩, fun c hcm => ?_, q⟩
      have hle : s1.heap.objs.size ≤ c := by
        rcases mem5 hcm with q | q | q | q | q <;> rw [q]
        · exact Nat.le_add_right _ _
        · exact Nat.le_add_right _ _
        · exact Nat.le_add_right _ _
        · exact Nat.le_refl _
        · exact Nat.le_add_right _ _
      exact I1.fpOk hle (I1.hok.fresh hle)
/-! ### enumerate -/
set_option maxHeartbeats 1000000 in
theorem meets_enum1 {v : Value} {o : Obj} {G : Heap → Prop} (B : Begins v o G) :
    Meets (Builtin.«enumerate.__new__» ⟨[.type "enumerate", v], []⟩) (fun _ R s => G s.heap ∧
      R (.ok (.ret (.ref (s.heap.push o).objs.size))) { s with heap := (s.heap.push o).push { cls := .type "enumerate", data := .fields #[.none, .bool false, .ref s.heap.objs.size, rawInt 0, .none, .none] } }) :=
  .of_wp fun prog w A R s h => by
    obtain ⟨hp, g, d, tk, os⟩ := s
    obtain ⟨hG, h⟩ := h
    have su := sub_enumerate
    have begun : ∀ {A' : Around} {E : Value → Shared → Prop} {Q : Value → Shared → Prop}, Q (.ref hp.objs.size) ⟨hp.push o, g, d, tk, os⟩ → wpAny (model prog w) A' (pyIter v) Q E ⟨hp, g, d, tk, os⟩ :=
      fun q => B.iter prog w _ _ ⟨hp, g, d, tk, os⟩ _ hG q
    wp_walk using begun
    refine wpAny_stack_any fun top => wpAny_pure ?_
    split
    · rename_i c _ _ _ _ _
      cases (c == Value.type "enumerate") <;> (wp_walk using begun; exact ⟨_, rfl, h⟩)
    · wp_walk using begun
      exact ⟨_, rfl, h⟩
theorem enum_begins1 {prog : Program} {w : World} {A : Around} {E : Value → Shared → Prop} {s : Shared} {v : Value} {o : Obj} {G : Heap → Prop} {Q : Value → Shared → Prop} (B : Begins v o G) (hG : G s.heap)
    (h : ∀ h', IsEnum h' (s.heap.objs.size + 1) s.heap.objs.size 0 .none → h'.get? s.heap.objs.size = some o → h'.objs.size = s.heap.objs.size + 2 → (∀ c u, s.heap.get? c = some u → h'.get? c = some u) → Q (.ref (s.heap.objs.size + 1)) { s with heap := h' }) :
    wpAny (model prog w) A (call (.type "enumerate") [v]) Q E s := by
  refine callType_new F.called_enumerate (by decide) (F.typeCall_enumerate_1 _) (F.newCall_enumerate_1 _) (fun ob => F.args_object_init_2 ob _) F.entry_enumerate_new (meets_enum1 B) ⟨hG, ?_⟩
  have sz : (s.heap.push o).objs.size = s.heap.objs.size + 1 := Heap.size_push ..
  show _ ∧ _
  rw [sz]
  have en : IsEnum ((s.heap.push o).push { cls := .type "enumerate", data := .fields #[.none, .bool false, .ref s.heap.objs.size, rawInt 0, .none, .none] }) (s.heap.objs.size + 1) s.heap.objs.size 0 .none := by
    have q := Heap.get?_push_size (s.heap.push o) (o := { cls := .type "enumerate", data := .fields #[.none, .bool false, .ref s.heap.objs.size, rawInt 0, .none, .none] }) rfl
    rw [sz] at q; exact q
  exact ⟨⟨_, en, rfl⟩, h _ en (Heap.get?_push_of_some _ (Heap.get?_push_size _ B.free)) (by rw [Heap.size_push, sz]) fun c u q => Heap.get?_push_of_some _ (Heap.get?_push_of_some _ q)⟩
def Jen (K : PySem.W.Frag) (b : Bool) (a : Addr) (N : Nat) : It :=
  ⟨fun i H => i < N ∧ ∃ xs, SqB K b H a xs ∧ i < xs.length,
    fun i H v H' => ∃ T x, v = .ref T ∧ H T = none ∧ H' = upd H T (.tup [.int (i : Nat), x]) ∧ ∀ xs, SqB K b H a xs → xs[i]? = some x,
    fun i H => N ≤ i ∧ ∃ xs, SqB K b H a xs ∧ xs.length = N⟩
theorem mem2 {c e it : Addr} (h : c ∈ [e, it]) : c = e ∨ c = it := by simpa using h
theorem turn_en {P : Program} {w : World} {K : PySem.W.Frag} {elts : List Expr} {kk : Nat} {tpos : Pos} {b : Bool} {a e it : Addr} {N : Nat} (n0 : e ≠ it) (n1 : a ≠ it) (n2 : a ≠ e) :
    Turn P w K (.Tuple elts kk tpos) (Jen K b a N) [e, it] e (fun i h => i ≤ N ∧ (∃ old, IsEnum h e it (i : Nat) old) ∧ ItB b h it a i) where
  mem := List.mem_cons_self ..
  obj := fun i h ⟨_, ⟨old, e1⟩, e2⟩ c hc => by
    rcases mem2 hc with q | q <;> subst q
    · exact ⟨_, e1, nofun⟩
    · exact itB_obj e2
  keep := fun i h h' ⟨e0, ⟨old, e1⟩, e2⟩ k => ⟨e0, ⟨old, k e (by simp) _ e1⟩, itB_at e2 (k it (by simp))⟩
  item := fun X hP hw hK hc i pins s σ H E I hf ⟨e0, ⟨old, e1⟩, e2⟩ ⟨g0, xs, gx, lx⟩ => by
    subst hP hw hK
    obtain ⟨us, rx, px, ltx⟩ := inv_b I gx
    have hx : xs[i]? = some xs[i] := List.getElem?_eq_getElem lx
    obtain ⟨u, hu, ru⟩ := rx.get hx
    have lenx := rx.length
    refine wpAny_pyNext_enum_itemC (draws_b (prog := X.prog) (w := X.w) (A := X.A.in1) b (I.ok.hd hc) it a n1 us.toArray) e1 ⟨e2, px⟩ (by simp; omega) n0 (by simp; exact ⟨n0, Ne.symm n2⟩) fun x h1 tk q1 z1 s1 t1 hsz hk => ?_
    refine ⟨_, rfl, wpAny_letOwnedTupleGo_enum (s := { s with heap := h1, toks := tk + 1 }) z1 fun h2 z2 sb => ?_⟩
    have k1 : x = u := by
      have : us.toArray[i]? = some u := by simpa using hu
      exact Option.some.inj (q1.symm.trans this)
    subst k1
    have le : e < s.heap.objs.size := Heap.lt_size e1
    have t2 := (sb.2 _ (Nat.ne_of_gt le)).trans t1
    have new : ObjOk X.prog X.w (upd H s.heap.objs.size (.tup [.int (i : Nat), xs[i]])) h2 s.heap.objs.size (.tup [.int (i : Nat), xs[i]]) :=
      ⟨(by decide : 2 ≤ sizeLine), [.int (i : Nat) tk, x], .cons ⟨_, rfl⟩ (.cons ru .nil), ⟨_, t2, rfl, _, rfl⟩⟩
    have kept : ∀ c o, c ∉ [e, it] → s.heap.get? c = some o → h2.get? c = some o := fun c o hb q =>
      (sb.2 c (fun y => hb (by simp [y]))).trans (hk c o (fun y => hb (by simp [y])) (fun y => hb (by simp [y])) q)
    have I1 := I.turnedNew (t' := tk + 1) (ch := [e, it]) kept hf (Nat.le_refl _) new
    refine ⟨.ref s.heap.objs.size, _, I1, rfl, ⟨_, xs[i], rfl, I.hok.fresh (Nat.le_refl _), rfl, fun l hl => by rw [inj_b I hl gx]; exact hx⟩,
      ⟨g0, ⟨_, by have : ((i : Nat) : Int) + 1 = ((i + 1 : Nat) : Int) := by omega
                  rw [this] at z2; exact z2⟩, itB_at s1.1 fun o q => (sb.2 _ (Ne.symm n0)).trans q⟩, fun c hcm => ?_⟩
    have hlt : c < s.heap.objs.size := by
      rcases mem2 hcm with q | q <;> subst q
      · exact le
      · obtain ⟨_, q, _⟩ := itB_obj e2; exact Heap.lt_size q
    rw [upd_ne (Nat.ne_of_lt hlt)]
    exact (hf c hcm).1
  done := fun X hP hw hK hc i pins s σ H E I hf ⟨e0, ⟨old, e1⟩, e2⟩ ⟨g0, xs, gx, hN⟩ => by
    subst hP hw hK
    obtain ⟨us, rx, px, ltx⟩ := inv_b I gx
    have lenx := rx.length
    have ei : i = us.toArray.size := by simp; omega
    have st : ItB b s.heap it a us.toArray.size ∧ IsB b s.heap a us.toArray := ⟨by rw [← ei]; exact e2, px⟩
    exact wpAny_pyNext_enum_endD (draws_b (prog := X.prog) (w := X.w) (A := X.A.in1) b (I.ok.hd hc) it a n1 us.toArray) e1 st fun h1 hk =>
      ⟨rfl, I.turnedL (t' := s.toks) (ch := [e, it]) (fun c o hb q => hk c o (fun y => hb (by simp [y])) q) hf⟩
  self := fun A i s Q E st h => let ⟨_, ⟨_, he⟩, _⟩ := st; wpAny_pyIter_enum he h
def iEn (K : PySem.W.Frag) (ta : TA) : TI := fun σ H R => ta σ H fun vs H1 => ∃ a xs b, vs = [.ref a] ∧ SqB K b H1 a xs ∧ R (Jen K b a xs.length) H1
theorem pi_en {X : Cx} {e : Expr} {ta : TA} {p pos tpos : Pos} {elts : List Expr} {kk : Nat} (hg : Gl X "enumerate") (hm : X.mg "enumerate" = none) (ha : PA X [e] ta) (hs : starEach [e] X.env = [(false, eval e X.env)] := by rfl) :
    PI X (.Tuple elts kk tpos) (.Call (.Name "enumerate" p) [e] [] pos) (iEn X.K ta) := by
  refine ⟨fun pins s σ H R I h => ?_⟩
  refine Call_ (ld_blt I hg hm boot_enumerate (PyProof.Rows.callWith_type1 (thn (ha.run pos pins s σ H _ I h) fun us s1 ⟨vs, H1, I1, r1, q1⟩ => ?_) hs rfl))
  obtain ⟨a, xs, b, ex, hx, q⟩ := q1
  subst ex
  cases r1 with
  | cons r rr =>
    cases rr
    cases r
    obtain ⟨us, rx, px, ltx⟩ := inv_b I1 hx
    refine enum_begins1 (begins_b b a us.toArray) px fun h' he hi hsz hk => wpAny_pyIter_enum he ?_
    have I2 : Inv X pins σ H1 { s1 with heap := h' } := I1.kept (t' := s1.toks) hk
    refine ⟨_, [s1.heap.objs.size + 1, s1.heap.objs.size], _, _, H1, rfl, I2, turn_en (Nat.succ_ne_self _) (Nat.ne_of_lt ltx) (Nat.ne_of_lt (Nat.lt_succ_of_lt ltx)), ⟨Nat.zero_le _, ⟨_, he⟩, itO_it b hi⟩, fun c hcm => ?_, q⟩
    have hle : s1.heap.objs.size ≤ c := by
      rcases mem2 hcm with q | q <;> rw [q]
      · exact Nat.le_add_right _ _
      · exact Nat.le_refl _
    exact I1.fpOk hle (I1.hok.fresh hle)
/-! ### the mirror's rules -/
def seqOf : D → Option (List D)
  | .lst ds => some ds
  | .tup ds => some ds
  | _ => none
theorem rep_seq {K : PySem.W.Frag} {F : Hp} {d : D} {ds : List D} {v : V} (h : seqOf d = some ds) (r : Rep K F d v) : ∃ a xs b, v = .ref a ∧ Reps K F ds xs ∧ ∀ H, Same F H → SqB K b H a xs := by
  cases d <;> try (cases h; done)
  · cases h
    unfold Rep at r
    obtain ⟨a, xs, rfl, h1, h2⟩ := r
    exact ⟨a, xs, true, rfl, h2, fun H s => SqT_mono s h1⟩
  · cases h
    unfold Rep at r
    obtain ⟨a, xs, rfl, h1, h2⟩ := r
    exact ⟨a, xs, false, rfl, h2, fun H s => SqL.of (s _ _ h1)⟩
section
variable {K : PySem.W.Frag}
theorem it_z2 {F : Hp} {a b : Addr} {b1 b2 : Bool} {ds es : List D} {xs ys : List V} (ha : ∀ H, Same F H → SqB K b1 H a xs) (hb : ∀ H, Same F H → SqB K b2 H b ys) (r : Reps K F ds xs) (q : Reps K F es ys) :
    ItOk K (Jz2 K b1 b2 a b (min xs.length ys.length)) F (zipD ds es) := fun F0 Z B σ H F1 ρ i s R => by
  have hA := ha H (s.trans R.sub)
  have hB := hb H (s.trans R.sub)
  have l1 := r.length
  have l2 := q.length
  refine ⟨fun hi => ?_, fun hi => ⟨by rw [zipD_length] at hi; omega, xs, ys, hA, hB, rfl⟩⟩
  rw [zipD_length] at hi
  have e1 : ds[i]? = some (ds[i]'(by omega)) := List.getElem?_eq_getElem (by omega)
  have e2 : es[i]? = some (es[i]'(by omega)) := List.getElem?_eq_getElem (by omega)
  obtain ⟨x, ex, rx⟩ := r.get e1
  obtain ⟨y, ey, ry⟩ := q.get e2
  refine ⟨⟨by omega, xs, ys, hA, hB, by omega, by omega⟩, fun v H' ⟨T, x', y', ev, hT, eH, f1, f2⟩ => ?_⟩
  have g1 := f1 xs hA
  have g2 := f2 ys hB
  rw [ex] at g1; cases g1
  rw [ey] at g2; cases g2
  subst ev
  obtain ⟨F2, s2, R2, r2⟩ := it_new R hT (.cons (Rep.mono s _ _ rx) (.cons (Rep.mono s _ _ ry) .nil)) eH
  refine ⟨F2, _, ?_, s2, R2, r2⟩
  simp [zipD, List.getElem?_zipWith, e1, e2]
theorem it_en {F : Hp} {a : Addr} {b : Bool} {ds : List D} {xs : List V} (ha : ∀ H, Same F H → SqB K b H a xs) (r : Reps K F ds xs) : ItOk K (Jen K b a xs.length) F (enumD 0 ds) := fun F0 Z B σ H F1 ρ i s R => by
  have hA := ha H (s.trans R.sub)
  have l1 := r.length
  refine ⟨fun hi => ?_, fun hi => ⟨by rw [enumD_length] at hi; omega, xs, hA, rfl⟩⟩
  rw [enumD_length] at hi
  have e1 : ds[i]? = some ds[i] := List.getElem?_eq_getElem hi
  obtain ⟨x, ex, rx⟩ := r.get e1
  refine ⟨⟨by omega, xs, hA, by omega⟩, fun v H' ⟨T, x', ev, hT, eH, f1⟩ => ?_⟩
  have g1 := f1 xs hA
  rw [ex] at g1; cases g1
  subst ev
  obtain ⟨F2, s2, R2, r2⟩ := it_new R hT (.cons (rep_int (i := (i : Nat))) (.cons (Rep.mono s _ _ rx) .nil)) eH
  refine ⟨F2, _, ?_, s2, R2, r2⟩
  rw [enumD_get, e1]; simp
end
section
variable {X : Cx} {tg : Expr}
def iZipM (ms : MA) : MA := fun ρ => (ms ρ).bind fun p => match p.1 with
  | [x, y] => (seqOf x).bind fun ds => (seqOf y).map fun es => (zipD ds es, p.2)
  | _ => none
theorem im_zipM {a b : Expr} {ms : MA} {p pos tpos : Pos} {elts : List Expr} {kk : Nat} (hg : Gl X "zip") (hm : X.mg "zip" = none) (ha : Am X [a, b] ms) (hs : starEach [a, b] X.env = (false, eval a X.env) :: starEach [b] X.env := by rfl) (hpl : (backTo pos (starEach [b] X.env)).any (·.1) = false := by rfl) :
    Im X (.Tuple elts kk tpos) (.Call (.Name "zip" p) [a, b] [] pos) (iZipM ms) := PI_imp (pi_z2 hg hm ha hs hpl) fun σ H R' ⟨F0, Z, B, F, ρ, ds, ρ', R, e, k⟩ => by
    obtain ⟨⟨d, ρ1⟩, e1, e2⟩ := Option.bind_eq_some_iff.mp e
    refine tAOf_of R e1 fun vs H1 F1 R1 s1 r1 => ?_
    split at e2
    · rename_i x y hd
      cases (show d = _ from hd)
      obtain ⟨xs, q1, e3⟩ := Option.bind_eq_some_iff.mp e2
      obtain ⟨ys, q2, e4⟩ := Option.map_eq_some_iff.mp e3
      cases e4
      obtain ⟨v, u, rfl, rv, ru⟩ := reps2 r1
      obtain ⟨a', us, b1, rfl, h2, h1⟩ := rep_seq q1 rv
      obtain ⟨b', ws, b2, rfl, h4, h3⟩ := rep_seq q2 ru
      exact ⟨a', b', us, ws, b1, b2, rfl, h1 _ R1.sub, h3 _ R1.sub, k _ H1 F1 R1 s1 (it_z2 h1 h3 h2 h4)⟩
    · cases e2
def iEnM (ms : MA) : MA := fun ρ => (ms ρ).bind fun p => match p.1 with
  | [x] => (seqOf x).map fun ds => (enumD 0 ds, p.2)
  | _ => none
theorem im_enM {a : Expr} {ms : MA} {p pos tpos : Pos} {elts : List Expr} {kk : Nat} (hg : Gl X "enumerate") (hm : X.mg "enumerate" = none) (ha : Am X [a] ms) (hs : starEach [a] X.env = [(false, eval a X.env)] := by rfl) :
    Im X (.Tuple elts kk tpos) (.Call (.Name "enumerate" p) [a] [] pos) (iEnM ms) := PI_imp (pi_en hg hm ha hs) fun σ H R' ⟨F0, Z, B, F, ρ, ds, ρ', R, e, k⟩ => by
    obtain ⟨⟨d, ρ1⟩, e1, e2⟩ := Option.bind_eq_some_iff.mp e
    refine tAOf_of R e1 fun vs H1 F1 R1 s1 r1 => ?_
    split at e2
    · rename_i x hd
      cases (show d = _ from hd)
      obtain ⟨xs, q1, e4⟩ := Option.map_eq_some_iff.mp e2
      cases e4
      obtain ⟨v, rfl, rv⟩ := reps1 r1
      obtain ⟨a', us, b1, rfl, h2, h1⟩ := rep_seq q1 rv
      exact ⟨a', us, b1, rfl, h1 _ R1.sub, k _ H1 F1 R1 s1 (it_en h1 h2)⟩
    · cases e2
end
end Cb

set_option Elab.async false
set_option linter.all false
set_option maxRecDepth 100000
/-! sorted of whole numbers. -/
namespace Cb
open PySem PySem.Spec PyProof.Rows L2
def sortI (ns : List Int) : List Int := ns.mergeSort fun a b => decide (a ≤ b)
theorem sortI_perm (ns : List Int) : (sortI ns).Perm ns := List.mergeSort_perm _ _
theorem sortI_up (ns : List Int) : (sortI ns).Pairwise (· ≤ ·) := by
  have h := List.pairwise_mergeSort (le := fun a b : Int => decide (a ≤ b)) (fun a b c h1 h2 => by simp at *; omega) (fun a b => by simp; omega) ns
  exact h.imp fun h => by simpa using h
theorem sortI_eq {ns ms : List Int} (p : ms.Perm ns) (s : ms.Pairwise (· ≤ ·)) : ms = sortI ns :=
  List.Perm.eq_of_pairwise (le := fun a b : Int => a ≤ b) (fun a b _ _ h1 h2 => Int.le_antisymm h1 h2) s (sortI_up ns) (p.trans (sortI_perm ns).symm)
def dSorted : List D → Option DV
  | [.lst ds] => (intsOf ds).map fun ns => .own (.lst ((sortI ns).map .int))
  | _ => none
theorem cs_sorted {K : PySem.W.Frag} : CallS K (rSortedI K) dSorted := fun F0 Z B σ H F ρ ds vs dv Q R r e k => by
  match ds, e with
  | [.lst ds], e =>
    obtain ⟨v, rfl, r1⟩ := reps1 r
    obtain ⟨a, xs, rfl, h1, h2⟩ := sq_of R.sub r1
    obtain ⟨ns, e1, e2⟩ := Option.map_eq_some_iff.mp (show (intsOf ds).map (fun ns => DV.own (.lst ((sortI ns).map .int))) = some dv from e)
    subst e2
    have ex := h2.intsOf e1
    subst ex
    refine ⟨a, ns, rfl, h1, fun ns' p pm up hp => ?_⟩
    rw [sortI_eq pm up]
    obtain ⟨R4, r4⟩ := new_lst R hp (reps_ints (F := F) (K := K) (sortI ns))
    exact k _ _ _ R4 (Same.refl _) r4
section
variable {X : Cx}
theorem PG_or {e : Expr} {t t' : TG} (h : PG X e t) (h' : PG X e t') : PG X e (fun v σ H Q => t v σ H Q ∨ t' v σ H Q) := ⟨fun pins s σ H v u Q I r q => q.elim (h.run pins s σ H v u Q I r) (h'.run pins s σ H v u Q I r)⟩
/-- several names stored out of a tuple or a list -/
def gTM (gs : MGs) : MG := fun d ρ => (seqOf d).bind fun ds => gs ds ρ
theorem gm_tupM {es : List Expr} {k n : Nat} {pos : Pos} {ws : List Nat} {gs : MGs} (hc : X.calm = true) (h : Gs X es ws gs) (hl : ∀ ds ρ ρ', gs ds ρ = some ρ' → ds.length = n)
    (hn : (assignEach es X.env).length = n := by rfl) (hst : (assignEach es X.env).findIdx? (·.1) = none := by rfl) : Gm X (.Tuple es k pos) ws (gTM gs) :=
  PG_imp (PG_or (pg_tup hc h hn hst) (pg_lst hc h hn hst)) fun v σ H Q ⟨F0, Z, B, F, ρ, d, ρ', R, r, e, kk⟩ => by
    obtain ⟨ds, e1, e2⟩ := Option.bind_eq_some_iff.mp e
    obtain ⟨a, xs, b, rfl, h2, h1⟩ := rep_seq e1 r
    have hH := h1 _ R.sub
    cases b
    · exact .inr ⟨a, xs, rfl, hH, h2.length.trans (hl _ _ _ e2), F0, Z, B, F, ρ, ds, ρ', R, h2, e2, kk⟩
    · exact .inl ⟨a, xs, rfl, hH, h2.length.trans (hl _ _ _ e2), F0, Z, B, F, ρ, ds, ρ', R, h2, e2, kk⟩
end
end Cb

set_option Elab.async false
set_option linter.all false
set_option maxRecDepth 100000
/-! Whole numbers, fractions: what the mirror's small functions give. -/
namespace Cb
open PySem L2
/-! ### sizes -/
def Sz (n : Nat) (x : Int) : Prop := x.natAbs < 2 ^ n
instance (n : Nat) (x : Int) : Decidable (Sz n x) := inferInstanceAs (Decidable (x.natAbs < 2 ^ n))
theorem Sz.log {n : Nat} {x : Int} (h : Sz n x) : x.natAbs.log2 ≤ n := by
  unfold Sz at h
  by_cases h0 : x.natAbs = 0
  · rw [h0]; simp
  · exact Nat.le_of_lt ((Nat.log2_lt h0).mpr h)
theorem Sz.mono {n m : Nat} {x : Int} (h : Sz n x) (k : n ≤ m) : Sz m x := Nat.lt_of_lt_of_le h (Nat.pow_le_pow_right (by decide) k)
theorem Sz.mulOk {n m : Nat} {x y : Int} (h : Sz n x) (k : Sz m y) (l : n + m < 1000000 := by decide) : MulOk x y := by
  have := h.log; have := k.log; unfold MulOk; omega
theorem Sz.divOk {n : Nat} {x : Int} (h : Sz n x) (h0 : x ≠ 0) (l : n < 9000 := by decide) : DivOk x := by
  have := h.log; exact ⟨h0, by omega⟩
theorem Sz.mul {n m : Nat} {x y : Int} (h : Sz n x) (k : Sz m y) : Sz (n + m) (x * y) := by
  unfold Sz at *
  rw [Int.natAbs_mul, Nat.pow_add]
  exact Nat.mul_lt_mul'' h k
theorem Sz.add {n : Nat} {x y : Int} (h : Sz n x) (k : Sz n y) : Sz (n + 1) (x + y) := by
  unfold Sz at *
  rw [Nat.pow_succ]; omega
theorem Sz.sub {n : Nat} {x y : Int} (h : Sz n x) (k : Sz n y) : Sz (n + 1) (x - y) := by
  unfold Sz at *
  rw [Nat.pow_succ]; omega
theorem Sz.neg {n : Nat} {x : Int} (h : Sz n x) : Sz n (-x) := by
  unfold Sz at *; omega
theorem Sz.of_le {n : Nat} {x y : Int} (h : Sz n x) (k : y.natAbs ≤ x.natAbs) : Sz n y := Nat.lt_of_le_of_lt k h
theorem Sz.of_lt {n : Nat} {x : Int} (m : Nat) (h0 : 0 ≤ x) (h : x < (m : Int)) (k : m ≤ 2 ^ n := by decide) : Sz n x := by
  unfold Sz; omega
theorem Sz.pow {n : Nat} {x : Int} (h : Sz n x) : ∀ k : Nat, Sz (n * k + 1) (x ^ k)
  | 0 => by unfold Sz; simp
  | k + 1 => by
    rw [Int.pow_succ]
    exact ((h.pow k).mul h).mono (by rw [Nat.mul_succ]; omega)
/-! ### Euclid -/
def eu : Nat → Int → Int → Option Int
  | 0, _, _ => none
  | n + 1, a, b => if b = 0 then some a else eu n b (a.fmod b)
theorem gcd_fmod (a b : Int) : Int.gcd b (a.fmod b) = Int.gcd a b := by
  rw [Int.fmod_def, Int.gcd_comm a b, Int.mul_comm b]
  exact Int.gcd_sub_mul_right_right b a _
theorem eu_gcd : ∀ {n : Nat} {a b x : Int}, eu n a b = some x → x.natAbs = Int.gcd a b
  | 0, _, _, _, h => by cases h
  | n + 1, a, b, x, h => by
    unfold eu at h
    split at h
    · rename_i h0; cases h; subst h0; simp [Int.gcd]
    · rw [eu_gcd h, gcd_fmod]
theorem fmod_pos (a : Int) {b : Int} (h : 0 < b) : a.fmod b = a % b := Int.fmod_eq_emod_of_nonneg a (by omega)
theorem fmod_abs_lt (a : Int) {b : Int} (h : b ≠ 0) : (a.fmod b).natAbs < b.natAbs := by
  rcases Int.lt_or_gt_of_ne h with h | h
  · have e := Int.neg_fmod_neg a b
    have := Int.emod_nonneg (-a) (b := -b) (by omega)
    have := Int.emod_lt_of_pos (-a) (b := -b) (by omega)
    rw [fmod_pos (-a) (by omega)] at e
    omega
  · rw [fmod_pos a h]
    have := Int.emod_nonneg a (b := b) (by omega)
    have := Int.emod_lt_of_pos a (b := b) (by omega)
    omega
theorem emod_half {b r : Int} (hr : 0 < r) (h : r < b) : 2 * (b % r) < b := by
  have h1 := Int.emod_lt_of_pos b hr
  have h2 := Int.mul_ediv_add_emod b r
  have h3 : 1 ≤ b / r := by
    have := Int.ediv_le_ediv hr (Int.le_of_lt h)
    rwa [Int.ediv_self (by omega)] at this
  have h4 : r * 1 ≤ r * (b / r) := Int.mul_le_mul_of_nonneg_left h3 (by omega)
  omega
theorem fmod_half (a : Int) {b : Int} (h : b ≠ 0) (h0 : a.fmod b ≠ 0) : 2 * (b.fmod (a.fmod b)).natAbs < b.natAbs := by
  have l := fmod_abs_lt a h
  rcases Int.lt_or_gt_of_ne h with h | h
  · have e := Int.neg_fmod_neg a b
    rw [fmod_pos (-a) (by omega)] at e
    have := Int.emod_nonneg (-a) (b := -b) (by omega)
    have e2 := Int.neg_fmod_neg b (a.fmod b)
    rw [fmod_pos (-b) (by omega)] at e2
    have := emod_half (b := -b) (r := -a.fmod b) (by omega) (by omega)
    have := Int.emod_nonneg (-b) (b := -a.fmod b) (by omega)
    omega
  · have := Int.emod_nonneg a (b := b) (by omega)
    rw [← fmod_pos a h] at this
    rw [fmod_pos b (by omega)]
    have := emod_half (b := b) (r := a.fmod b) (by omega) (by omega)
    have := Int.emod_nonneg b (b := a.fmod b) (by omega)
    omega
theorem eu_some : ∀ (n : Nat) (a b : Int), b.natAbs < 2 ^ n → ∃ x, eu (2 * n + 1) a b = some x
  | 0, a, b, h => by
    have : b = 0 := by simp at h; exact h
    exact ⟨a, by simp [eu, this]⟩
  | n + 1, a, b, h => by
    show ∃ x, eu (2 * n + 2 + 1) a b = some x
    by_cases h0 : b = 0
    · exact ⟨a, by simp [eu, h0]⟩
    · by_cases h1 : a.fmod b = 0
      · exact ⟨b, by simp [eu, h0, h1]⟩
      · obtain ⟨x, hx⟩ := eu_some n (a.fmod b) (b.fmod (a.fmod b)) (by
          have := fmod_half a h0 h1
          rw [Nat.pow_succ] at h; omega)
        exact ⟨x, by simpa [eu, h0, h1] using hx⟩
theorem eu_mono : ∀ {n : Nat} {a b x : Int}, eu n a b = some x → eu (n + 1) a b = some x
  | 0, _, _, _, h => by cases h
  | n + 1, a, b, x, h => by
    unfold eu at h ⊢
    split
    · rename_i h0; rw [if_pos h0] at h; exact h
    · rename_i h0; rw [if_neg h0] at h; exact eu_mono h
/-! ### fractions -/
def fr (q : Rat) : D := .tup [.int q.num, .int q.den]
theorem fr_inj {p q : Rat} : fr p = fr q ↔ p = q := by
  constructor
  · intro h
    unfold fr at h
    injection h with h
    injection h with h1 h
    injection h with h2 h
    injection h1 with h1
    injection h2 with h2
    exact Rat.ext h1 (by exact_mod_cast h2)
  · rintro rfl; rfl
theorem okD_fr {q : Rat} : okD 8 (fr q) = true := by simp [fr, okD, okDs]
theorem nob_fr {q : Rat} : nob (fr q) = true := by simp [fr, nob, nobs]
theorem eq_fr (p q : Rat) : dEq (fr p) (fr q) = some (.val (.bl (decide (p = q)))) := by
  simp only [dEq, okD_fr, and_self, ↓reduceIte, Option.some.injEq, DV.val.injEq, D.bl.injEq]
  rw [Bool.eq_iff_iff, eqD_iff _ _ nob_fr nob_fr, fr_inj, decide_eq_true_iff]
theorem ne_fr (p q : Rat) : dNe (fr p) (fr q) = some (.val (.bl (decide (p ≠ q)))) := by
  simp only [dNe, okD_fr, and_self, ↓reduceIte, Option.some.injEq, DV.val.injEq, D.bl.injEq]
  rw [Bool.eq_iff_iff, Bool.not_eq_true', Bool.eq_false_iff, ne_eq, eqD_iff _ _ nob_fr nob_fr, fr_inj, decide_eq_true_iff]
theorem fr_one : D.tup [.int 1, .int 1] = fr 1 := rfl
theorem fr_zero : D.tup [.int 0, .int 1] = fr 0 := rfl
theorem ratio_pos {a b : Int} (h : 0 < b) : a.fdiv (Int.gcd a b) = ((a : Rat) / b).num ∧ b.fdiv (Int.gcd a b) = ((a : Rat) / b).den := by
  rw [← Rat.divInt_eq_div, Rat.num_divInt, Rat.den_divInt, Int.sign_eq_one_of_pos h, Int.one_mul, Int.gcd_comm b a, if_neg (by omega)]
  refine ⟨Int.fdiv_eq_ediv_of_nonneg _ (by omega), ?_⟩
  rw [Int.fdiv_eq_ediv_of_nonneg _ (by omega), Int.natCast_ediv]
  congr 1; omega
theorem ratio_neg {a b : Int} (h : b < 0) : a.fdiv (-(Int.gcd a b : Int)) = ((a : Rat) / b).num ∧ b.fdiv (-(Int.gcd a b : Int)) = ((a : Rat) / b).den := by
  rw [← Rat.divInt_eq_div, Rat.num_divInt, Rat.den_divInt, Int.sign_eq_neg_one_of_neg h, Int.gcd_comm b a, if_neg (by omega)]
  rw [← Int.neg_fdiv_neg a, ← Int.neg_fdiv_neg b, Int.neg_neg]
  refine ⟨?_, ?_⟩
  · rw [Int.fdiv_eq_ediv_of_nonneg _ (by omega)]; congr 1; omega
  · rw [Int.fdiv_eq_ediv_of_nonneg _ (by omega), Int.natCast_ediv]
    congr 1; omega
theorem gcd_le {a b : Int} (h : b ≠ 0) : (Int.gcd a b : Int).natAbs ≤ b.natAbs := by
  have := Nat.le_of_dvd (by omega) (Int.natAbs_dvd_natAbs.mpr (Int.gcd_dvd_right a b))
  simpa using this
theorem gcd_ne {a b : Int} (h : b ≠ 0) : (Int.gcd a b : Int) ≠ 0 := by
  intro z
  have : Int.gcd a b = 0 := by exact_mod_cast z
  exact h (Int.gcd_eq_zero_iff.mp this).2
end Cb

set_option Elab.async false
set_option linter.all false
set_option maxRecDepth 100000
/-! The mirror evaluated step by step: one equation for each combinator, applied. -/
namespace Cb
open PySem L2
noncomputable section
abbrev ok (d : D) : Option (DV × D) := some (.val d, .non)
def kSeq : Option Res → MS → Option Res
  | (some (.nx ρ)), t => t ρ
  | (some (.rt dv ρ)), t => some (.rt dv ρ)
  | (some (.bk ρ)), t => some (.bk ρ)
  | (some (.ct ρ)), t => some (.ct ρ)
  | _, _ => none
def kSet : Nat → Option (DV × En) → Option Res
  | i, (some (dv, ρ)) => some (.nx (ρ.set i (some dv)))
  | _, _ => none
def kNx : Option En → Option Res
  | (some ρ) => some (.nx ρ)
  | _ => none
def kPar : List Nat → Option (List DV × En) → Option Res
  | is, (some (dvs, ρ)) => kNx (setAll is dvs ρ)
  | _, _ => none
def kd2 : DV → Option (List DV × En) → Option (List DV × En)
  | dv, (some (dvs, ρ)) => some (dv :: dvs, ρ)
  | _, _ => none
def kd1 : Option (DV × En) → MD → Option (List DV × En)
  | (some (dv, ρ)), md => kd2 dv (md ρ)
  | _, _ => none
def kIf : Option (Bool × En) → MS → MS → Option Res
  | (some (true, ρ)), s, t => s ρ
  | (some (false, ρ)), s, t => t ρ
  | _, _, _ => none
def kRt : Option (DV × En) → Option Res
  | (some (dv, ρ)) => some (.rt dv ρ)
  | _ => none
def kEx : Option (DV × En) → Option Res
  | (some (dv, ρ)) => some (.nx ρ)
  | _ => none
def kVar : Option (Option DV) → Nat → En → Option (DV × En)
  | (some (some (.val d))), i, ρ => some (.val d, ρ)
  | (some (some (.own d))), i, ρ => some (.val d, ρ.set i (some (.val d)))
  | _, _, _ => none
def kMov : Option (Option DV) → Nat → En → Option (DV × En)
  | (some (some (.val d))), i, ρ => some (.val d, ρ)
  | (some (some (.own d))), i, ρ => some (.own d, ρ.set i none)
  | _, _, _ => none
def kfz : Option (DV × En) → Option (D × En)
  | (some (.val d, ρ)) => some (d, ρ)
  | (some (.own d, ρ)) => some (d, ρ)
  | _ => none
def kc : Option DV → En → Option (DV × En)
  | (some dv), ρ => some (dv, ρ)
  | _, _ => none
def k1 : (D → Option DV) → Option (D × En) → Option (DV × En)
  | f1, (some (x, ρ)) => kc (f1 x) ρ
  | _, _ => none
def k2b : (D → D → Option DV) → D → Option (D × En) → Option (DV × En)
  | f, x, (some (y, ρ)) => kc (f x y) ρ
  | _, _, _ => none
def k2a : (D → D → Option DV) → Option (D × En) → ME → Option (DV × En)
  | f, (some (x, ρ)), mb => k2b f x (fz mb ρ)
  | _, _, _ => none
def kt : Option (DV × En) → Option (Bool × En)
  | (some (.val (.bl bb), ρ)) => some (bb, ρ)
  | _ => none
def kn : Option (Bool × En) → Option (Bool × En)
  | (some (bb, ρ)) => some (!bb, ρ)
  | _ => none
def kAnd : Option (Bool × En) → MT → Option (Bool × En)
  | (some (true, ρ)), c => c ρ
  | (some (false, ρ)), c => some (false, ρ)
  | _, _ => none
def kOr : Option (Bool × En) → MT → Option (Bool × En)
  | (some (true, ρ)), c => some (true, ρ)
  | (some (false, ρ)), c => c ρ
  | _, _ => none
def kmA : Option (D × En) → ME → Option (DV × En)
  | (some (.bl true, ρ)), n => n ρ
  | (some (.bl false, ρ)), n => some (.val (.bl false), ρ)
  | _, _ => none
def kmO : Option (D × En) → ME → Option (DV × En)
  | (some (.bl false, ρ)), n => n ρ
  | (some (.bl true, ρ)), n => some (.val (.bl true), ρ)
  | _, _ => none
def kmI : Option (Bool × En) → ME → ME → Option (DV × En)
  | (some (true, ρ)), m, n => m ρ
  | (some (false, ρ)), m, n => n ρ
  | _, _, _ => none
def kh4 : (D → D → Option DV) → D → Option (D × En) → Option (DV × En)
  | f', y, (some (z, ρ)) => kc (f' y z) ρ
  | _, _, _ => none
def kh3 : (D → D → Option DV) → Option DV → D → En → ME → Option (DV × En)
  | f', (some (.val (.bl true))), y, ρ, mc => kh4 f' y (fz mc ρ)
  | f', (some (.val (.bl false))), y, ρ, mc => some (.val (.bl false), ρ)
  | _, _, _, _, _ => none
def kh2 : (D → D → Option DV) → (D → D → Option DV) → D → Option (D × En) → ME → Option (DV × En)
  | f, f', x, (some (y, ρ)), mc => kh3 f' (f x y) y ρ mc
  | _, _, _, _, _ => none
def kh1 : (D → D → Option DV) → (D → D → Option DV) → Option (D × En) → ME → ME → Option (DV × En)
  | f, f', (some (x, ρ)), mb, mc => kh2 f f' x (fz mb ρ) mc
  | _, _, _, _, _ => none
def kcb : Option (DV × D) → En → Option (DV × En)
  | (some (dv, o)), ρ => some (dv, ρ)
  | _, _ => none
def kca : (List D → Option (DV × D)) → Option (List D × En) → Option (DV × En)
  | φ, (some (ds, ρ)) => kcb (φ ds) ρ
  | _, _ => none
def kL5 : Option Nat → En → D → Option En
  | (some i), ρ, o => put ρ i o
  | _, _, _ => none
def kL4 : DV → Option En → Option (DV × En)
  | dv, (some ρ) => some (dv, ρ)
  | _, _ => none
def kL3 : Nat → List AV → En → Option (DV × D) → Option (DV × En)
  | io', as, ρ, (some (dv, o)) => kL4 dv (kL5 (slotAt io' as) ρ o)
  | _, _, _, _ => none
def kL2 : Nat → (List D → Option (DV × D)) → List AV → En → Option (List D) → Option (DV × En)
  | io', φ, as, ρ, (some ds) => kL3 io' as ρ (φ ds)
  | _, _, _, _, _ => none
def kL1 : Nat → (List D → Option (DV × D)) → Option (List AV × En) → Option (DV × En)
  | io', φ, (some (as, ρ)) => kL2 io' φ as ρ (resolve ρ io' 0 as)
  | _, _, _ => none
def kl2 : AV → Option (List AV × En) → Option (List AV × En)
  | av, (some (as, ρ)) => some (av :: as, ρ)
  | _, _ => none
def kl1 : Option (D × En) → ML → Option (List AV × En)
  | (some (d, ρ)), ml => kl2 (.v d) (ml ρ)
  | _, _ => none
def kl3 : Option D → Nat → ML → En → Option (List AV × En)
  | (some d), i, ml, ρ => kl2 (.s i) (ml ρ)
  | _, _, _, _ => none
def kr : D → Option (List D) → Option (List D)
  | d, (some ds) => some (d :: ds)
  | _, _ => none
def krs : Option (Option DV) → Option (List D) → Option (List D)
  | (some (some (.own d))), (some ds) => some (d :: ds)
  | (some (some (.bor d))), (some ds) => some (d :: ds)
  | _, _ => none
def kput : Option (Option DV) → En → Nat → D → Option En
  | (some (some (.own x))), ρ, i, d => some (ρ.set i (some (.own d)))
  | (some (some (.bor x))), ρ, i, d => some (ρ.set i (some (.bor d)))
  | _, _, _, _ => none
def kpk : Option (Option DV) → Option D
  | (some (some dv)) => some dv.get
  | _ => none
def klst : Option (Option DV) → Option (List D)
  | (some (some (.own (.lst ds)))) => some ds
  | (some (some (.bor (.lst ds)))) => some ds
  | _ => none
def kbor : Option (Option DV) → Option D
  | (some (some (.bor d))) => some d
  | _ => none
def ka2 : D → Option (List D × En) → Option (List D × En)
  | d, (some (ds, ρ)) => some (d :: ds, ρ)
  | _, _ => none
def ka1 : Option (D × En) → MA → Option (List D × En)
  | (some (d, ρ)), ms => ka2 d (ms ρ)
  | _, _ => none
def ktup : Option (List D × En) → Option (DV × En)
  | (some (ds, ρ)) => if ds.length ≤ line then some (.val (.tup ds), ρ) else none
  | _ => none
def kls : Option (List D × En) → Option (DV × En)
  | (some (ds, ρ)) => if ds.length ≤ line then some (.own (.lst ds), ρ) else none
  | _ => none
def kB : (List D → Option DV) → Option (List D × En) → Option (DV × En)
  | fl, (some (ds, ρ)) => kc (fl ds) ρ
  | _, _ => none
def kx3 : Option D → En → Option (DV × En)
  | (some d), ρ => some (.val d, ρ)
  | _, _ => none
def kx2 : Option D → D → En → Option (DV × En)
  | (some x), y, ρ => kx3 (dIx x y) ρ
  | _, _, _ => none
def kx1 : Option D → Option (D × En) → Nat → Option (DV × En)
  | (some d), (some (y, ρ)), i => kx2 (peek ρ i) y ρ
  | _, _, _ => none
def kx4 : Option D → En → Option (DV × En)
  | (some x), ρ => kx3 (dLen1 x) ρ
  | _, _ => none
def kis2 : Option Bool → En → Option (DV × En)
  | (some bb), ρ => some (.val (.bl bb), ρ)
  | _, _ => none
def kis : String → Option (D × En) → Option (DV × En)
  | T, (some (d, ρ)) => kis2 (dIsi T d) ρ
  | _, _ => none
def kp : Option (D × En) → Option (Option Int × En)
  | (some (.int a, ρ)) => some (some a, ρ)
  | _ => none
def ks3 : D → Option Int → Option (Option Int × En) → Option (DV × En)
  | x, l, (some (h, ρ)) => kc (dSl x l h) ρ
  | _, _, _ => none
def ks2 : D → Option (Option Int × En) → MP → Option (DV × En)
  | x, (some (l, ρ)), ph => ks3 x l (ph ρ)
  | _, _, _ => none
def ks1 : Option (D × En) → MP → MP → Option (DV × En)
  | (some (x, ρ)), pl, ph => ks2 x (pl ρ) ph
  | _, _, _ => none
def kF : Option (List D × En) → MG → MS → Option Res
  | (some (ds, ρ)), g, s => forL g s ds ρ
  | _, _, _ => none
def kF2 : Option Res → MG → MS → List D → Option Res
  | (some (.nx ρ)), g, s, ds => forL g s ds ρ
  | (some (.ct ρ)), g, s, ds => forL g s ds ρ
  | (some (.bk ρ)), g, s, ds => some (.nx ρ)
  | (some (.rt dv ρ)), g, s, ds => some (.rt dv ρ)
  | _, _, _, _ => none
def kF1 : Option En → MG → MS → List D → Option Res
  | (some ρ), g, s, ds => kF2 (s ρ) g s ds
  | _, _, _, _ => none
def kW2 : Option Res → MT → MS → Nat → Option Res
  | (some (.nx ρ)), c, s, k => whN c s k ρ
  | (some (.ct ρ)), c, s, k => whN c s k ρ
  | (some (.bk ρ)), c, s, k => some (.nx ρ)
  | (some (.rt dv ρ)), c, s, k => some (.rt dv ρ)
  | _, _, _, _ => none
def kW : Option (Bool × En) → MT → MS → Nat → Option Res
  | (some (true, ρ)), c, s, k => kW2 (s ρ) c s k
  | (some (false, ρ)), c, s, k => some (.nx ρ)
  | _, _, _, _ => none
def kg : Option En → MGs → List D → Option En
  | (some ρ), gs, ds => gs ds ρ
  | _, _, _ => none
def ksa : Option (D × En) → MG → Option Res
  | (some (d, ρ)), g => kNx (g d ρ)
  | _, _ => none
def ki : Option (D × En) → Option (List D × En)
  | (some (.lst ds, ρ)) => some (ds, ρ)
  | (some (.tup ds, ρ)) => some (ds, ρ)
  | (some (.scr ns, ρ)) => some (ns.map .int, ρ)
  | _ => none
def kap2 : Option (List D) → D → En → Nat → Option Res
  | (some ds), d, ρ, i => if ds.length < line then kNx (put ρ i (.lst (ds ++ [d]))) else none
  | _, _, _, _ => none
def kap : Option (List D) → Option (D × En) → Nat → Option Res
  | (some ds), (some (d, ρ)), i => kap2 (lstAt ρ i) d ρ i
  | _, _, _ => none
def ksx4 : Option Nat → List D → D → En → Nat → Option Res
  | (some j), ds, d, ρ, i => kNx (put ρ i (.lst (ds.set j d)))
  | _, _, _, _, _ => none
def ksx3 : Option (List D) → D → Int → En → Nat → Option Res
  | (some ds), d, a, ρ, i => ksx4 (ixN ds.length a) ds d ρ i
  | _, _, _, _, _ => none
def ksx2 : Option (List D) → D → Option (D × En) → Nat → Option Res
  | (some ds), d, (some (.int a, ρ)), i => ksx3 (lstAt ρ i) d a ρ i
  | _, _, _, _ => none
def ksx1 : Option (D × En) → Nat → ME → Option Res
  | (some (d, ρ)), i, m => ksx2 (lstAt ρ i) d (fz m ρ) i
  | _, _, _ => none
def kat {α : Type} : Option Nat → List α → Option α
  | (some j), xs => xs[j]?
  | _, _ => none
def ko : DV → Option D → Option (DV × D)
  | dv, (some d) => some (dv, d)
  | _, _ => none
def kfin : Option Nat → Option Res → Option (DV × D)
  | io, (some (.rt dv ρ)) => ko dv (outOf io ρ)
  | io, (some (.nx ρ)) => ko (.val .non) (outOf io ρ)
  | _, _ => none
def klc2 : Option (List D × En) → En → List Nat → Option (DV × En)
  | (some (ds, ρ')), ρ, vs => some (.own (.lst ds), restE ρ' ρ vs)
  | _, _, _ => none
def klc : Option (List D × En) → MG → MT → ME → List Nat → Option (DV × En)
  | (some (ds, ρ)), g, c, el, vs => if allVal ρ vs = true ∧ ds.length ≤ line then klc2 (lcL g c el vs ds (wipeE ρ vs)) ρ vs else none
  | _, _, _, _, _ => none
def kC4 : D → Option (List D × En) → Option (List D × En)
  | d, (some (ds, ρ)) => some (d :: ds, ρ)
  | _, _ => none
def kC3 : Option (D × En) → MG → MT → ME → List Nat → List D → Option (List D × En)
  | (some (d, ρ)), g, c, el, vs, ds => kC4 d (lcL g c el vs ds (wipeE ρ vs))
  | _, _, _, _, _, _ => none
def kC2 : Option (Bool × En) → MG → MT → ME → List Nat → List D → Option (List D × En)
  | (some (true, ρ)), g, c, el, vs, ds => kC3 (fz el ρ) g c el vs ds
  | (some (false, ρ)), g, c, el, vs, ds => lcL g c el vs ds (wipeE ρ vs)
  | _, _, _, _, _, _ => none
def kC1 : Option En → MG → MT → ME → List Nat → List D → Option (List D × En)
  | (some ρ), g, c, el, vs, ds => kC2 (c ρ) g c el vs ds
  | _, _, _, _, _, _ => none
def ksum : Option (List Int) → Option DV
  | (some ns) => some (.val (.int ns.sum))
  | _ => none
def kst2 : List D → Option (List D × En) → Option (List D × En)
  | es, (some (ds, ρ)) => some (es ++ ds, ρ)
  | _, _ => none
def kst : Option (D × En) → MA → Option (List D × En)
  | (some (.lst ds, ρ)), ms => kst2 ds (ms ρ)
  | (some (.tup ds, ρ)), ms => kst2 ds (ms ρ)
  | _, _ => none
def kRev : Option (D × En) → Option (DV × En)
  | (some (.tup ds, ρ)) => some (.val (.tup ds.reverse), ρ)
  | (some (.lst ds, ρ)) => some (.own (.lst ds.reverse), ρ)
  | _ => none
def krg : Option (D × En) → Option (DV × En)
  | (some (.int a, ρ)) => if a ≤ 16777216 ∧ 0 ≤ a then some (.own (.lst (intsFT 0 a)), ρ) else none
  | _ => none
def krg2 : D → Option (D × En) → Option (DV × En)
  | (.int a), (some (.int b, ρ)) => if 0 ≤ a ∧ a ≤ 16777216 ∧ b ≤ 16777216 ∧ 0 ≤ b then some (.own (.lst (intsFT a b)), ρ) else none
  | _, _ => none
def krg1 : Option (D × En) → ME → Option (DV × En)
  | (some (x, ρ)), m => krg2 x (fz m ρ)
  | _, _ => none
def kav : Option (Option DV) → Bool
  | (some (some (.val d))) => true
  | (some none) => true
  | _ => false
def krc : Option (Option DV) → En → Nat → En
  | (some u), ρ, i => ρ.set i u
  | _, ρ, _ => ρ
section
variable {ρ ρ' ρ0 : En} {m n ma mb mc el : ME} {ms : MA} {ml : ML} {md : MD} {i j k p io' : Nat} {a b : Int} {d x y z : D} {dv : DV} {c c' : MT} {s t : MS} {f f' : D → D → Option DV} {f1 : D → Option DV} {fl : List D → Option DV} {φ : List D → Option (DV × D)} {g : MG} {gs : MGs} {ds es : List D} {dvs : List DV} {as : List AV} {av : AV} {is vs : List Nat} {io : Option Nat} {bb : Bool} {ns : List Int} {mi : MA} {pl ph : MP} {o : D} {T : String} {r : Res} {l h : Option Int} {u : Option DV}
theorem kSeq_1 : kSeq (some (.nx ρ)) t = t ρ := id rfl
theorem kSeq_2 : kSeq (some (.rt dv ρ)) t = some (.rt dv ρ) := id rfl
theorem kSeq_3 : kSeq (some (.bk ρ)) t = some (.bk ρ) := id rfl
theorem kSeq_4 : kSeq (some (.ct ρ)) t = some (.ct ρ) := id rfl
theorem kSet_1 : kSet i (some (dv, ρ)) = some (.nx (ρ.set i (some dv))) := id rfl
theorem kNx_1 : kNx (some ρ) = some (.nx ρ) := id rfl
theorem kPar_1 : kPar is (some (dvs, ρ)) = kNx (setAll is dvs ρ) := id rfl
theorem kd2_1 : kd2 dv (some (dvs, ρ)) = some (dv :: dvs, ρ) := id rfl
theorem kd1_1 : kd1 (some (dv, ρ)) md = kd2 dv (md ρ) := id rfl
theorem kIf_1 : kIf (some (true, ρ)) s t = s ρ := id rfl
theorem kIf_2 : kIf (some (false, ρ)) s t = t ρ := id rfl
theorem kRt_1 : kRt (some (dv, ρ)) = some (.rt dv ρ) := id rfl
theorem kEx_1 : kEx (some (dv, ρ)) = some (.nx ρ) := id rfl
theorem kVar_1 : kVar (some (some (.val d))) i ρ = some (.val d, ρ) := id rfl
theorem kVar_2 : kVar (some (some (.own d))) i ρ = some (.val d, ρ.set i (some (.val d))) := id rfl
theorem kMov_1 : kMov (some (some (.val d))) i ρ = some (.val d, ρ) := id rfl
theorem kMov_2 : kMov (some (some (.own d))) i ρ = some (.own d, ρ.set i none) := id rfl
theorem kfz_1 : kfz (some (.val d, ρ)) = some (d, ρ) := id rfl
theorem kfz_2 : kfz (some (.own d, ρ)) = some (d, ρ) := id rfl
theorem kc_1 : kc (some dv) ρ = some (dv, ρ) := id rfl
theorem k1_1 : k1 f1 (some (x, ρ)) = kc (f1 x) ρ := id rfl
theorem k2b_1 : k2b f x (some (y, ρ)) = kc (f x y) ρ := id rfl
theorem k2a_1 : k2a f (some (x, ρ)) mb = k2b f x (fz mb ρ) := id rfl
theorem kt_1 : kt (some (.val (.bl bb), ρ)) = some (bb, ρ) := id rfl
theorem kn_1 : kn (some (bb, ρ)) = some (!bb, ρ) := id rfl
theorem kAnd_1 : kAnd (some (true, ρ)) c = c ρ := id rfl
theorem kAnd_2 : kAnd (some (false, ρ)) c = some (false, ρ) := id rfl
theorem kOr_1 : kOr (some (true, ρ)) c = some (true, ρ) := id rfl
theorem kOr_2 : kOr (some (false, ρ)) c = c ρ := id rfl
theorem kmA_1 : kmA (some (.bl true, ρ)) n = n ρ := id rfl
theorem kmA_2 : kmA (some (.bl false, ρ)) n = some (.val (.bl false), ρ) := id rfl
theorem kmO_1 : kmO (some (.bl false, ρ)) n = n ρ := id rfl
theorem kmO_2 : kmO (some (.bl true, ρ)) n = some (.val (.bl true), ρ) := id rfl
theorem kmI_1 : kmI (some (true, ρ)) m n = m ρ := id rfl
theorem kmI_2 : kmI (some (false, ρ)) m n = n ρ := id rfl
theorem kh4_1 : kh4 f' y (some (z, ρ)) = kc (f' y z) ρ := id rfl
theorem kh3_1 : kh3 f' (some (.val (.bl true))) y ρ mc = kh4 f' y (fz mc ρ) := id rfl
theorem kh3_2 : kh3 f' (some (.val (.bl false))) y ρ mc = some (.val (.bl false), ρ) := id rfl
theorem kh2_1 : kh2 f f' x (some (y, ρ)) mc = kh3 f' (f x y) y ρ mc := id rfl
theorem kh1_1 : kh1 f f' (some (x, ρ)) mb mc = kh2 f f' x (fz mb ρ) mc := id rfl
theorem kcb_1 : kcb (some (dv, o)) ρ = some (dv, ρ) := id rfl
theorem kca_1 : kca φ (some (ds, ρ)) = kcb (φ ds) ρ := id rfl
theorem kL5_1 : kL5 (some i) ρ o = put ρ i o := id rfl
theorem kL4_1 : kL4 dv (some ρ) = some (dv, ρ) := id rfl
theorem kL3_1 : kL3 io' as ρ (some (dv, o)) = kL4 dv (kL5 (slotAt io' as) ρ o) := id rfl
theorem kL2_1 : kL2 io' φ as ρ (some ds) = kL3 io' as ρ (φ ds) := id rfl
theorem kL1_1 : kL1 io' φ (some (as, ρ)) = kL2 io' φ as ρ (resolve ρ io' 0 as) := id rfl
theorem kl2_1 : kl2 av (some (as, ρ)) = some (av :: as, ρ) := id rfl
theorem kl1_1 : kl1 (some (d, ρ)) ml = kl2 (.v d) (ml ρ) := id rfl
theorem kl3_1 : kl3 (some d) i ml ρ = kl2 (.s i) (ml ρ) := id rfl
theorem kr_1 : kr d (some ds) = some (d :: ds) := id rfl
theorem krs_1 : krs (some (some (.own d))) (some ds) = some (d :: ds) := id rfl
theorem krs_2 : krs (some (some (.bor d))) (some ds) = some (d :: ds) := id rfl
theorem kput_1 : kput (some (some (.own x))) ρ i d = some (ρ.set i (some (.own d))) := id rfl
theorem kput_2 : kput (some (some (.bor x))) ρ i d = some (ρ.set i (some (.bor d))) := id rfl
theorem kpk_1 : kpk (some (some dv)) = some dv.get := id rfl
theorem klst_1 : klst (some (some (.own (.lst ds)))) = some ds := id rfl
theorem klst_2 : klst (some (some (.bor (.lst ds)))) = some ds := id rfl
theorem kbor_1 : kbor (some (some (.bor d))) = some d := id rfl
theorem ka2_1 : ka2 d (some (ds, ρ)) = some (d :: ds, ρ) := id rfl
theorem ka1_1 : ka1 (some (d, ρ)) ms = ka2 d (ms ρ) := id rfl
theorem ktup_1 : ktup (some (ds, ρ)) = (if ds.length ≤ line then some (.val (.tup ds), ρ) else none) := id rfl
theorem kls_1 : kls (some (ds, ρ)) = (if ds.length ≤ line then some (.own (.lst ds), ρ) else none) := id rfl
theorem kB_1 : kB fl (some (ds, ρ)) = kc (fl ds) ρ := id rfl
theorem kx3_1 : kx3 (some d) ρ = some (.val d, ρ) := id rfl
theorem kx2_1 : kx2 (some x) y ρ = kx3 (dIx x y) ρ := id rfl
theorem kx1_1 : kx1 (some d) (some (y, ρ)) i = kx2 (peek ρ i) y ρ := id rfl
theorem kx4_1 : kx4 (some x) ρ = kx3 (dLen1 x) ρ := id rfl
theorem kis2_1 : kis2 (some bb) ρ = some (.val (.bl bb), ρ) := id rfl
theorem kis_1 : kis T (some (d, ρ)) = kis2 (dIsi T d) ρ := id rfl
theorem kp_1 : kp (some (.int a, ρ)) = some (some a, ρ) := id rfl
theorem ks3_1 : ks3 x l (some (h, ρ)) = kc (dSl x l h) ρ := id rfl
theorem ks2_1 : ks2 x (some (l, ρ)) ph = ks3 x l (ph ρ) := id rfl
theorem ks1_1 : ks1 (some (x, ρ)) pl ph = ks2 x (pl ρ) ph := id rfl
theorem kF_1 : kF (some (ds, ρ)) g s = forL g s ds ρ := id rfl
theorem kF2_1 : kF2 (some (.nx ρ)) g s ds = forL g s ds ρ := id rfl
theorem kF2_2 : kF2 (some (.ct ρ)) g s ds = forL g s ds ρ := id rfl
theorem kF2_3 : kF2 (some (.bk ρ)) g s ds = some (.nx ρ) := id rfl
theorem kF2_4 : kF2 (some (.rt dv ρ)) g s ds = some (.rt dv ρ) := id rfl
theorem kF1_1 : kF1 (some ρ) g s ds = kF2 (s ρ) g s ds := id rfl
theorem kW2_1 : kW2 (some (.nx ρ)) c s k = whN c s k ρ := id rfl
theorem kW2_2 : kW2 (some (.ct ρ)) c s k = whN c s k ρ := id rfl
theorem kW2_3 : kW2 (some (.bk ρ)) c s k = some (.nx ρ) := id rfl
theorem kW2_4 : kW2 (some (.rt dv ρ)) c s k = some (.rt dv ρ) := id rfl
theorem kW_1 : kW (some (true, ρ)) c s k = kW2 (s ρ) c s k := id rfl
theorem kW_2 : kW (some (false, ρ)) c s k = some (.nx ρ) := id rfl
theorem kg_1 : kg (some ρ) gs ds = gs ds ρ := id rfl
theorem ksa_1 : ksa (some (d, ρ)) g = kNx (g d ρ) := id rfl
theorem ki_1 : ki (some (.lst ds, ρ)) = some (ds, ρ) := id rfl
theorem ki_2 : ki (some (.tup ds, ρ)) = some (ds, ρ) := id rfl
theorem ki_3 : ki (some (.scr ns, ρ)) = some (ns.map .int, ρ) := id rfl
theorem kap2_1 : kap2 (some ds) d ρ i = (if ds.length < line then kNx (put ρ i (.lst (ds ++ [d]))) else none) := id rfl
theorem kap_1 : kap (some ds) (some (d, ρ)) i = kap2 (lstAt ρ i) d ρ i := id rfl
theorem ksx4_1 : ksx4 (some j) ds d ρ i = kNx (put ρ i (.lst (ds.set j d))) := id rfl
theorem ksx3_1 : ksx3 (some ds) d a ρ i = ksx4 (ixN ds.length a) ds d ρ i := id rfl
theorem ksx2_1 : ksx2 (some ds) d (some (.int a, ρ)) i = ksx3 (lstAt ρ i) d a ρ i := id rfl
theorem ksx1_1 : ksx1 (some (d, ρ)) i m = ksx2 (lstAt ρ i) d (fz m ρ) i := id rfl
theorem kat_1 {α : Type} {xs : List α} : kat (some j) xs = xs[j]? := id rfl
theorem ko_1 : ko dv (some d) = some (dv, d) := id rfl
theorem kfin_1 : kfin io (some (.rt dv ρ)) = ko dv (outOf io ρ) := id rfl
theorem kfin_2 : kfin io (some (.nx ρ)) = ko (.val .non) (outOf io ρ) := id rfl
theorem klc2_1 : klc2 (some (ds, ρ')) ρ vs = some (.own (.lst ds), restE ρ' ρ vs) := id rfl
theorem klc_1 : klc (some (ds, ρ)) g c el vs = (if allVal ρ vs = true ∧ ds.length ≤ line then klc2 (lcL g c el vs ds (wipeE ρ vs)) ρ vs else none) := id rfl
theorem kC4_1 : kC4 d (some (ds, ρ)) = some (d :: ds, ρ) := id rfl
theorem kC3_1 : kC3 (some (d, ρ)) g c el vs ds = kC4 d (lcL g c el vs ds (wipeE ρ vs)) := id rfl
theorem kC2_1 : kC2 (some (true, ρ)) g c el vs ds = kC3 (fz el ρ) g c el vs ds := id rfl
theorem kC2_2 : kC2 (some (false, ρ)) g c el vs ds = lcL g c el vs ds (wipeE ρ vs) := id rfl
theorem kC1_1 : kC1 (some ρ) g c el vs ds = kC2 (c ρ) g c el vs ds := id rfl
theorem ksum_1 : ksum (some ns) = some (.val (.int ns.sum)) := id rfl
theorem kst2_1 : kst2 es (some (ds, ρ)) = some (es ++ ds, ρ) := id rfl
theorem kst_1 : kst (some (.lst ds, ρ)) ms = kst2 ds (ms ρ) := id rfl
theorem kst_2 : kst (some (.tup ds, ρ)) ms = kst2 ds (ms ρ) := id rfl
theorem kRev_1 : kRev (some (.tup ds, ρ)) = some (.val (.tup ds.reverse), ρ) := id rfl
theorem kRev_2 : kRev (some (.lst ds, ρ)) = some (.own (.lst ds.reverse), ρ) := id rfl
theorem krg_1 : krg (some (.int a, ρ)) = (if a ≤ 16777216 ∧ 0 ≤ a then some (.own (.lst (intsFT 0 a)), ρ) else none) := id rfl
theorem krg2_1 : krg2 (.int a) (some (.int b, ρ)) = (if 0 ≤ a ∧ a ≤ 16777216 ∧ b ≤ 16777216 ∧ 0 ≤ b then some (.own (.lst (intsFT a b)), ρ) else none) := id rfl
theorem krg1_1 : krg1 (some (x, ρ)) m = krg2 x (fz m ρ) := id rfl
theorem kav_1 : kav (some (some (.val d))) = true := id rfl
theorem kav_2 : kav (some none) = true := id rfl
theorem krc_1 : krc (some u) ρ i = ρ.set i u := id rfl
theorem runFn_a : runFn io k s ds = kfin io (s (ini io k ds)) := by
  unfold runFn; cases s (ini io k ds) with
  | none => rfl
  | some r => cases r <;> simp [kfin, fin] <;> (rename_i ρ; cases outOf io ρ <;> rfl)
theorem out_n : outOf none ρ = some .non := id rfl
theorem out_s : outOf (some j) ρ = kbor ρ[j]? := by
  show (match ρ[j]? with
    | some (some (.bor d)) => some d
    | _ => none) = _
  unfold kbor; rcases ρ[j]? with _ | _ | (_ | _ | _) <;> rfl
theorem ini_a : ini io k ds = iniL io 0 ds ++ List.replicate (k - ds.length) none := id rfl
theorem iniL_n : iniL none j (d :: ds) = some (.val d) :: iniL none (j + 1) ds := id rfl
theorem iniL_0 : iniL (some 0) 0 (d :: ds) = some (.bor d) :: iniL none 1 ds := by
  have : ∀ (ds : List D) (k : Nat), 0 < k → iniL (some 0) k ds = iniL none k ds := by
    intro ds
    induction ds with
    | nil => intros; rfl
    | cons e es ih => intro k hk; simp only [iniL]; rw [ih _ (by omega)]; simp; omega
  simp only [iniL]; rw [this ds 1 (by omega)]; simp
theorem iniL_e : iniL io j [] = [] := id rfl
theorem sSeq_a : sSeq s t ρ = kSeq (s ρ) t := by
  unfold sSeq kSeq; rcases s ρ with _ | (_ | _ | _ | _) <;> rfl
theorem sSet_a : sSet i m ρ = kSet i (m ρ) := by
  unfold sSet kSet; rcases m ρ with _ | ⟨_, _⟩ <;> rfl
theorem sPar_a : sPar is md ρ = kPar is (md ρ) := by
  unfold sPar kPar kNx; rcases md ρ with _ | ⟨u, v⟩
  · rfl
  · cases h : setAll is u v <;> simp [h]
theorem dNil_a : dNil ρ = some ([], ρ) := id rfl
theorem dCons_a : dCons m md ρ = kd1 (m ρ) md := by
  unfold dCons kd1 kd2; rcases m ρ with _ | ⟨u, v⟩
  · rfl
  · cases h : md v <;> simp [h]
theorem setAll_n : setAll [] [] ρ = some ρ := id rfl
theorem setAll_c : setAll (i :: is) (dv :: dvs) ρ = setAll is dvs (ρ.set i (some dv)) := id rfl
theorem sIf_a : sIf c s t ρ = kIf (c ρ) s t := by
  unfold sIf kIf; rcases c ρ with _ | ⟨_ | _, v⟩ <;> rfl
theorem sRet_a : sRet m ρ = kRt (m ρ) := by
  unfold sRet kRt; rcases m ρ with _ | ⟨_, _⟩ <;> rfl
theorem sExpr_a : sExpr m ρ = kEx (m ρ) := by
  unfold sExpr kEx; rcases m ρ with _ | ⟨_, _⟩ <;> rfl
theorem sNext_a : sNext ρ = some (.nx ρ) := id rfl
theorem sBreak_a : sBreak ρ = some (.bk ρ) := id rfl
theorem sCont_a : sCont ρ = some (.ct ρ) := id rfl
theorem mC_a : mC d ρ = some (.val d, ρ) := id rfl
theorem mVar_a : mVar i ρ = kVar ρ[i]? i ρ := by
  unfold mVar kVar; rcases ρ[i]? with _ | _ | (_ | _ | _) <;> rfl
theorem mMove_a : mMove i ρ = kMov ρ[i]? i ρ := by
  unfold mMove kMov; rcases ρ[i]? with _ | _ | (_ | _ | _) <;> rfl
theorem fz_a : fz m ρ = kfz (m ρ) := by
  unfold fz kfz; rcases m ρ with _ | ⟨_ | _ | _, _⟩ <;> rfl
theorem m1_a : m1 f1 ma ρ = k1 f1 (fz ma ρ) := by
  unfold m1 k1 kc; rcases fz ma ρ with _ | ⟨u, v⟩
  · rfl
  · cases h : f1 u <;> simp [h]
theorem m2_a : m2 f ma mb ρ = k2a f (fz ma ρ) mb := by
  unfold m2 k2a; rcases fz ma ρ with _ | ⟨u, v⟩
  · rfl
  · show Option.bind (fz mb v) _ = k2b f u (fz mb v)
    unfold k2b; cases fz mb v with
    | none => rfl
    | some q => show Option.map _ (f u q.1) = kc (f u q.1) q.2; cases f u q.1 <;> rfl
theorem tst_a : tst m ρ = kt (m ρ) := by
  unfold tst kt; rcases m ρ with _ | ⟨(_ | _ | _ | _ | _ | _ | _ | _ | _) | _ | _, _⟩ <;> rfl
theorem tNot_a : tNotm c ρ = kn (c ρ) := by
  unfold tNotm kn; rcases c ρ with _ | ⟨_, _⟩ <;> rfl
theorem tAnd_a : tAndm c c' ρ = kAnd (c ρ) c' := by
  unfold tAndm kAnd; rcases c ρ with _ | ⟨_ | _, _⟩ <;> rfl
theorem tOr_a : tOrm c c' ρ = kOr (c ρ) c' := by
  unfold tOrm kOr; rcases c ρ with _ | ⟨_ | _, _⟩ <;> rfl
theorem tYes_a : tYesM ρ = some (true, ρ) := id rfl
theorem mAnd_a : mAnd m n ρ = kmA (fz m ρ) n := by
  unfold mAnd kmA; rcases fz m ρ with _ | ⟨_ | (_ | _) | _ | _ | _ | _ | _ | _ | _, _⟩ <;> rfl
theorem mOr_a : mOr m n ρ = kmO (fz m ρ) n := by
  unfold mOr kmO; rcases fz m ρ with _ | ⟨_ | (_ | _) | _ | _ | _ | _ | _ | _ | _, _⟩ <;> rfl
theorem mIf_a : mIf c m n ρ = kmI (c ρ) m n := by
  unfold mIf kmI; rcases c ρ with _ | ⟨_ | _, v⟩ <;> rfl
theorem mChain_a : mChain f f' ma mb mc ρ = kh1 f f' (fz ma ρ) mb mc := by
  unfold mChain kh1; rcases fz ma ρ with _ | ⟨u, v⟩
  · rfl
  · show Option.bind (fz mb v) _ = kh2 f f' u (fz mb v) mc
    unfold kh2; cases h : fz mb v with
    | none => rfl
    | some q =>
      show Option.bind (f u q.1) _ = kh3 f' (f u q.1) q.1 q.2 mc
      unfold kh3; rcases f u q.1 with _ | ((_ | (_ | _) | _ | _ | _ | _ | _ | _ | _) | _ | _) <;> try rfl
      show Option.bind (fz mc q.2) _ = kh4 f' q.1 (fz mc q.2)
      unfold kh4 kc; rcases fz mc q.2 with _ | ⟨u1, v1⟩
      · rfl
      · show Option.map _ (f' q.1 u1) = _
        cases h3 : f' q.1 u1 <;> simp [h3]
theorem mCall_a : mCall φ ms ρ = kca φ (ms ρ) := by
  unfold mCall kca kcb; rcases ms ρ with _ | ⟨u, v⟩
  · rfl
  · cases h : φ u <;> simp [h]
theorem mCallL_a : mCallL io' φ ml ρ = kL1 io' φ (ml ρ) := by
  unfold mCallL kL1; rcases ml ρ with _ | ⟨u, v⟩
  · rfl
  · show Option.bind (resolve v io' 0 u) _ = kL2 io' φ u v (resolve v io' 0 u)
    unfold kL2; cases resolve v io' 0 u with
    | none => rfl
    | some ds =>
      show Option.bind (φ ds) _ = kL3 io' u v (φ ds)
      unfold kL3; rcases φ ds with _ | ⟨dv, o⟩
      · rfl
      · show Option.bind (slotAt io' u) _ = kL4 dv (kL5 (slotAt io' u) v o)
        unfold kL5; cases slotAt io' u with
        | none => rfl
        | some i =>
          show Option.map _ (put v i o) = kL4 dv (put v i o)
          cases put v i o <;> rfl
theorem lNil_a : lNil ρ = some ([], ρ) := id rfl
theorem lCons_a : lCons m ml ρ = kl1 (fz m ρ) ml := by
  unfold lCons kl1 kl2; rcases fz m ρ with _ | ⟨u, v⟩
  · rfl
  · cases h : ml v <;> simp [h]
theorem lLend_a : lLend i ml ρ = kl3 (peek ρ i) i ml ρ := by
  unfold lLend kl3 kl2; rcases peek ρ i with _ | u
  · rfl
  · cases h : ml ρ <;> simp [h]
theorem res_e : resolve ρ io' p [] = some [] := id rfl
theorem res_v : resolve ρ io' p (.v d :: as) = if p = io' then none else kr d (resolve ρ io' (p + 1) as) := by
  show (if p = io' then none else _) = _
  split
  · rfl
  · cases resolve ρ io' (p + 1) as <;> rfl
theorem res_s : resolve ρ io' p (.s i :: as) = if p = io' then krs ρ[i]? (resolve ρ io' (p + 1) as) else none := by
  show (if p = io' then _ else none) = _
  split
  · rcases ρ[i]? with _ | _ | (_ | _ | _) <;> cases resolve ρ io' (p + 1) as <;> rfl
  · rfl
theorem slot_0 : slotAt 0 (.s i :: as) = some i := id rfl
theorem slot_s : slotAt (i + 1) (av :: as) = slotAt i as := by
  cases av <;> rfl
theorem put_a : put ρ i d = kput ρ[i]? ρ i d := by
  unfold put kput; rcases ρ[i]? with _ | _ | (_ | _ | _) <;> rfl
theorem peek_a : peek ρ i = kpk ρ[i]? := by
  unfold peek kpk; rcases ρ[i]? with _ | _ | (_ | _ | _) <;> rfl
theorem lstAt_a : lstAt ρ i = klst ρ[i]? := by
  unfold lstAt klst; rcases ρ[i]? with _ | _ | ((_ | _ | _ | _ | _ | _ | _ | _ | _) | (_ | _ | _ | _ | _ | _ | _ | _ | _) | (_ | _ | _ | _ | _ | _ | _ | _ | _)) <;> rfl
theorem get_v : (DV.val d).get = d := id rfl
theorem get_o : (DV.own d).get = d := id rfl
theorem get_b : (DV.bor d).get = d := id rfl
theorem aNil_a : aNil ρ = some ([], ρ) := id rfl
theorem aCons_a : aCons m ms ρ = ka1 (fz m ρ) ms := by
  unfold aCons ka1 ka2; rcases fz m ρ with _ | ⟨u, v⟩
  · rfl
  · cases h : ms v <;> simp [h]
theorem aStar_a : aStar m ms ρ = kst (fz m ρ) ms := by
  unfold aStar kst; rcases fz m ρ with _ | ⟨_ | _ | _ | _ | ds | ds | _ | _ | _, v⟩ <;> try rfl
  all_goals (show Option.map _ (ms v) = kst2 ds (ms v); cases ms v <;> rfl)
theorem mTup_a : mTup ms ρ = ktup (ms ρ) := by
  unfold mTup ktup; rcases ms ρ with _ | ⟨_, _⟩ <;> rfl
theorem mLst_a : mLst ms ρ = kls (ms ρ) := by
  unfold mLst kls; rcases ms ρ with _ | ⟨_, _⟩ <;> rfl
theorem mB_a : mB fl ms ρ = kB fl (ms ρ) := by
  unfold mB kB kc; rcases ms ρ with _ | ⟨u, v⟩
  · rfl
  · cases h : fl u <;> simp [h]
theorem mIxS_a : mIxS i mb ρ = kx1 (peek ρ i) (fz mb ρ) i := by
  unfold mIxS kx1; rcases peek ρ i with _ | u
  · rfl
  · show Option.bind (fz mb ρ) _ = _
    rcases fz mb ρ with _ | ⟨y, v⟩
    · rfl
    · show Option.bind (peek v i) _ = kx2 (peek v i) y v
      unfold kx2; cases peek v i with
      | none => rfl
      | some x =>
        show Option.map _ (dIx x y) = kx3 (dIx x y) v
        cases dIx x y <;> rfl
theorem mLenS_a : mLenS i ρ = kx4 (peek ρ i) ρ := by
  unfold mLenS kx4 kx3; rcases peek ρ i with _ | u
  · rfl
  · cases h : dLen1 u <;> simp [h]
theorem mIsi_a : mIsi T m ρ = kis T (fz m ρ) := by
  unfold mIsi kis kis2; rcases fz m ρ with _ | ⟨u, v⟩
  · rfl
  · cases h : dIsi T u <;> simp [h]
theorem pNone_a : pNone ρ = some (none, ρ) := id rfl
theorem pSome_a : pSome m ρ = kp (fz m ρ) := by
  unfold pSome kp; rcases fz m ρ with _ | ⟨_ | _ | _ | _ | _ | _ | _ | _ | _, _⟩ <;> rfl
theorem mSl_a : mSl ma pl ph ρ = ks1 (fz ma ρ) pl ph := by
  unfold mSl ks1; rcases fz ma ρ with _ | ⟨x, v⟩
  · rfl
  · show Option.bind (pl v) _ = ks2 x (pl v) ph
    unfold ks2; rcases pl v with _ | ⟨l, v⟩
    · rfl
    · show Option.bind (ph v) _ = ks3 x l (ph v)
      unfold ks3 kc; rcases ph v with _ | ⟨h, v⟩
      · rfl
      · show Option.map _ (dSl x l h) = _
        cases h2 : dSl x l h <;> simp [h2]
theorem sFor_a : sFor mi g s ρ = kF (mi ρ) g s := by
  unfold sFor kF; rcases mi ρ with _ | ⟨_, _⟩ <;> rfl
theorem forL_n : forL g s [] ρ = some (.nx ρ) := id rfl
theorem forL_c : forL g s (d :: ds) ρ = kF1 (g d ρ) g s ds := by
  show Option.bind (g d ρ) _ = _
  unfold kF1; cases g d ρ with
  | none => rfl
  | some v => show Option.bind (s v) _ = kF2 (s v) g s ds; rcases s v with _ | (_ | _ | _ | _) <;> rfl
theorem whN_s : whN c s (k + 1) ρ = kW (c ρ) c s k := by
  show Option.bind (c ρ) _ = _
  unfold kW; rcases c ρ with _ | ⟨_ | _, v⟩ <;> try rfl
  show Option.bind (s v) _ = kW2 (s v) c s k
  unfold kW2; rcases s v with _ | (_ | _ | _ | _) <;> rfl
theorem gN_a : gN i d ρ = some (ρ.set i (some (.val d))) := id rfl
theorem gT_a : gT gs (.tup ds) ρ = gs ds ρ := id rfl
theorem gsC_a : gsCons g gs (d :: ds) ρ = kg (g d ρ) gs ds := by
  unfold gsCons kg; show Option.bind (g d ρ) _ = _; cases g d ρ <;> rfl
theorem gsN_a : gsNil [] ρ = some ρ := id rfl
theorem sAsg_a : sAsg m g ρ = ksa (fz m ρ) g := by
  unfold sAsg ksa kNx; rcases fz m ρ with _ | ⟨u, v⟩
  · rfl
  · cases h : g u v <;> simp [h]
theorem iSeq_a : iSeq m ρ = ki (fz m ρ) := by
  unfold iSeq ki; rcases fz m ρ with _ | ⟨_ | _ | _ | _ | _ | _ | _ | _ | _, v⟩ <;> rfl
theorem sApp_a : sApp i m ρ = kap (lstAt ρ i) (fz m ρ) i := by
  unfold sApp kap; cases lstAt ρ i with
  | none => rfl
  | some u =>
    show Option.bind (fz m ρ) _ = _
    rcases fz m ρ with _ | ⟨d, v⟩
    · rfl
    · show Option.bind (lstAt v i) _ = kap2 (lstAt v i) d v i
      unfold kap2; cases lstAt v i with
      | none => rfl
      | some ds =>
        show (if ds.length < line then Option.map Res.nx (put v i (.lst (ds ++ [d]))) else none) = if ds.length < line then kNx (put v i (.lst (ds ++ [d]))) else none
        split
        · cases put v i (.lst (ds ++ [d])) <;> rfl
        · rfl
theorem sSetIx_a : sSetIx i ma mb ρ = ksx1 (fz mb ρ) i ma := by
  unfold sSetIx ksx1; rcases fz mb ρ with _ | ⟨d, v⟩
  · rfl
  · show Option.bind (lstAt v i) _ = ksx2 (lstAt v i) d (fz ma v) i
    unfold ksx2; cases lstAt v i with
    | none => rfl
    | some u =>
      show Option.bind (fz ma v) _ = _
      rcases fz ma v with _ | ⟨x, w⟩
      · rfl
      · show Option.bind (lstAt w i) _ = _
        cases x <;> try (cases lstAt w i <;> rfl)
        rename_i n
        show _ = ksx3 (lstAt w i) d n w i
        unfold ksx3; cases lstAt w i with
        | none => rfl
        | some ds =>
          show Option.bind (ixN ds.length n) _ = ksx4 (ixN ds.length n) ds d w i
          unfold ksx4; cases ixN ds.length n with
          | none => rfl
          | some j => show Option.map _ (put w i (.lst (ds.set j d))) = kNx (put w i (.lst (ds.set j d))); cases put w i (.lst (ds.set j d)) <;> rfl
theorem mLc_a : mLc mi g c el vs ρ = klc (mi ρ) g c el vs := by
  unfold mLc klc; rcases mi ρ with _ | ⟨ds, v⟩
  · rfl
  · show (if allVal v vs = true ∧ ds.length ≤ line then Option.map _ (lcL g c el vs ds (wipeE v vs)) else none) = if allVal v vs = true ∧ ds.length ≤ line then klc2 (lcL g c el vs ds (wipeE v vs)) v vs else none
    split
    · rcases lcL g c el vs ds (wipeE v vs) with _ | ⟨_, _⟩ <;> rfl
    · rfl
theorem lcL_n : lcL g c el vs [] ρ = some ([], ρ) := id rfl
theorem lcL_c : lcL g c el vs (d :: ds) ρ = kC1 (g d ρ) g c el vs ds := by
  show Option.bind (g d ρ) _ = _
  unfold kC1; cases g d ρ with
  | none => rfl
  | some v =>
    show Option.bind (c v) _ = kC2 (c v) g c el vs ds
    unfold kC2; rcases c v with _ | ⟨_ | _, w⟩ <;> try rfl
    show Option.bind (fz el w) _ = kC3 (fz el w) g c el vs ds
    unfold kC3; rcases fz el w with _ | ⟨x, z⟩
    · rfl
    · show Option.map _ (lcL g c el vs ds (wipeE z vs)) = kC4 x (lcL g c el vs ds (wipeE z vs)); cases lcL g c el vs ds (wipeE z vs) <;> rfl
theorem wipe_n : wipeE ρ [] = ρ := id rfl
theorem wipe_c : wipeE ρ (i :: vs) = (wipeE ρ vs).set i none := id rfl
theorem rest_n : restE ρ' ρ [] = ρ' := id rfl
theorem rest_c : restE ρ' ρ (i :: vs) = krc ρ[i]? (restE ρ' ρ vs) i := by
  show (match ρ[i]? with
    | some o => (restE ρ' ρ vs).set i o
    | none => restE ρ' ρ vs) = _
  unfold krc; cases ρ[i]? <;> rfl
theorem allVal_n : allVal ρ [] = true := id rfl
theorem allVal_c : allVal ρ (i :: vs) = (kav ρ[i]? && allVal ρ vs) := by
  unfold allVal kav; rw [List.all_cons]; try (rcases ρ[i]? with _ | _ | (_ | _ | _) <;> rfl)
theorem mRev_a : mRev m ρ = kRev (fz m ρ) := by
  unfold mRev kRev; rcases fz m ρ with _ | ⟨_ | _ | _ | _ | _ | _ | _ | _ | _, v⟩ <;> rfl
theorem mLRg_a : mLRg m ρ = krg (fz m ρ) := by
  unfold mLRg krg; rcases fz m ρ with _ | ⟨_ | _ | _ | _ | _ | _ | _ | _ | _, v⟩ <;> rfl
theorem mLRg2_a : mLRg2 ma mb ρ = krg1 (fz ma ρ) mb := by
  unfold mLRg2 krg1; rcases fz ma ρ with _ | ⟨x, v⟩
  · rfl
  · show Option.bind (fz mb v) _ = krg2 x (fz mb v)
    unfold krg2; rcases fz mb v with _ | ⟨y, w⟩
    · cases x <;> rfl
    · cases x <;> cases y <;> rfl
theorem iZip_a (e0 : ms ρ = some ([.lst ds, .lst es], ρ0)) : iZip ms ρ = some (zipD ds es, ρ0) := by
  unfold iZip; rw [e0]; rfl
theorem iZipT_a (e0 : ms ρ = some ([.tup ds, .tup es], ρ0)) : iZip ms ρ = some (zipD ds es, ρ0) := by
  unfold iZip; rw [e0]; rfl
theorem iEnu_a (e0 : ms ρ = some ([.lst ds], ρ0)) : iEnu ms ρ = some (enumD 0 ds, ρ0) := by
  unfold iEnu; rw [e0]; rfl
theorem lt_int : dLt (.int a) (.int b) = some (.val (.bl (decide (a < b)))) := id rfl
theorem le_int : dLe (.int a) (.int b) = some (.val (.bl (decide (a ≤ b)))) := id rfl
theorem gt_int : dGt (.int a) (.int b) = some (.val (.bl (decide (b < a)))) := id rfl
theorem ge_int : dGe (.int a) (.int b) = some (.val (.bl (decide (b ≤ a)))) := id rfl
theorem sub_int : dSub (.int a) (.int b) = some (.val (.int (a - b))) := id rfl
theorem add_int : dAdd (.int a) (.int b) = some (.val (.int (a + b))) := id rfl
theorem mod_int (h0 : b ≠ 0) : dMod (.int a) (.int b) = some (.val (.int (a.fmod b))) := by
  show Option.map DV.val (if b ≠ 0 then _ else _) = _
  rw [if_pos h0]; rfl
theorem fdiv_int (h0 : DivOk b) : dFdiv (.int a) (.int b) = some (.val (.int (a.fdiv b))) := by
  show Option.map DV.val (if DivOk b then _ else _) = _
  rw [if_pos h0]; rfl
theorem pow_int' (h0 : PowOk a b) : dPow (.int a) (.int b) = some (.val (.int (a ^ b.toNat))) := by
  show Option.map DV.val (if PowOk a b then _ else _) = _
  rw [if_pos h0]; rfl
theorem mul_ok (h0 : MulOk a b) : dMul (.int a) (.int b) = some (.val (.int (a * b))) := by
  show (if MulOk a b then _ else _) = _
  rw [if_pos h0]
theorem eq_int : dEq (.int a) (.int b) = some (.val (.bl (decide (a = b)))) := by
  simp [dEq, okD, eqD]; rfl
theorem ne_int : dNe (.int a) (.int b) = some (.val (.bl (decide (a ≠ b)))) := by
  simp [dNe, okD, eqD]; rfl
theorem neg_int : dNeg (.int a) = some (.val (.int (-a))) := id rfl
theorem not_bl : dNot (.bl bb) = some (.val (.bl (!bb))) := id rfl
theorem abs_int : dAbs [.int a] = some (.val (.int a.natAbs)) := by
  show some (DV.val (D.int (if a < 0 then -a else a))) = _
  congr 3; split <;> omega
theorem int_int : dInt [.int a] = some (.val (.int a)) := id rfl
theorem int_bl : dInt [.bl bb] = some (.val (.int (if bb then 1 else 0))) := id rfl
theorem max_2 : dMax [.int a, .int b] = some (.val (.int (max a b))) := id rfl
theorem min_2 : dMin [.int a, .int b] = some (.val (.int (min a b))) := id rfl
theorem max_3 {e : Int} : dMax [.int a, .int b, .int e] = some (.val (.int (max (max a b) e))) := id rfl
theorem min_3 {e : Int} : dMin [.int a, .int b, .int e] = some (.val (.int (min (min a b) e))) := id rfl
theorem len_l : dLen1 (.lst ds) = some (.int ds.length) := id rfl
theorem len_t : dLen1 (.tup ds) = some (.int ds.length) := id rfl
theorem len_s : dLen1 (.scr ns) = some (.int ns.length) := id rfl
theorem lenB_l : dLen [.lst ds] = some (.val (.int ds.length)) := id rfl
theorem lenB_t : dLen [.tup ds] = some (.val (.int ds.length)) := id rfl
theorem lenB_s : dLen [.scr ns] = some (.val (.int ns.length)) := id rfl
theorem ix_l : dIx (.lst ds) (.int a) = atI ds a := id rfl
theorem ix_t : dIx (.tup ds) (.int a) = atI ds a := id rfl
theorem ix_s : dIx (.scr ns) (.int a) = (atI ns a).map .int := id rfl
theorem ixV_a : dIxV x y = (dIx x y).map .val := id rfl
theorem at_a {α : Type} {xs : List α} : atI xs a = kat (ixN xs.length a) xs := by
  unfold atI kat; cases ixN xs.length a <;> rfl
theorem tuple_l : dTuple [.lst ds] = some (.val (.tup ds)) := id rfl
theorem tuple_t : dTuple [.tup ds] = some (.val (.tup ds)) := id rfl
theorem list_l : dList [.lst ds] = some (.own (.lst ds)) := id rfl
theorem list_t : dList [.tup ds] = some (.own (.lst ds)) := id rfl
theorem sum_l : dSum [.lst ds] = ksum (intsOf ds) := by
  show Option.map _ (intsOf ds) = _; cases intsOf ds <;> rfl
theorem all_l : dAll [.lst ds] = (boolsOf ds).map fun bs => .val (.bl (bs.all id)) := id rfl
theorem any_l : dAny [.lst ds] = (boolsOf ds).map fun bs => .val (.bl (bs.any id)) := id rfl
theorem isi_int : dIsi "int" (.int a) = some true := id rfl
theorem isi_bool : dIsi "bool" (.int a) = some false := (by decide : L2.kitB "int" "bool" = some false)
theorem isi_tup : dIsi "tuple" (.tup ds) = some true := id rfl
theorem ix_fr0 {w : Rat} : dIx (fr w) (.int 0) = some (.int w.num) := id rfl
theorem ix_fr1 {w : Rat} : dIx (fr w) (.int 1) = some (.int w.den) := id rfl
theorem mul_l (h1 : -(2 ^ 63) ≤ a) (h2 : a < 2 ^ 63) (h3 : ds.length * a.toNat ≤ line) : dMul (.lst ds) (.int a) = some (.own (.lst (rptL ds a.toNat))) := by
  show (if _ then _ else _) = _
  rw [if_pos ⟨h1, h2, h3⟩]
theorem cat_l (h1 : ds.length + es.length ≤ line) : dAdd (.lst ds) (.lst es) = some (.own (.lst (ds ++ es))) := by
  show (if _ then _ else _) = _
  rw [if_pos h1]
theorem cat_t (h1 : ds.length + es.length ≤ line) : dAdd (.tup ds) (.tup es) = some (.val (.tup (ds ++ es))) := by
  show (if _ then _ else _) = _
  rw [if_pos h1]
theorem sl_l : dSl (.lst ds) l h = some (.own (.lst (cutL ds l h))) := id rfl
theorem sl_t : dSl (.tup ds) l h = some (.val (.tup (cutL ds l h))) := id rfl
theorem sl_s : dSl (.scr ns) l h = some (.own (.lst ((cutL ns l h).map .int))) := id rfl
end
end
end Cb

set_option Elab.async false
set_option linter.all false
set_option maxRecDepth 100000
/-! The small functions that many texts share. -/
namespace Cb
open PySem L2
noncomputable section
def cb_common_of : MS :=
  (sSeq (sWhile (tst (m2 dNe (mVar 1) (mC (.int 0)))) (sPar [0, 1] (dCons (mVar 1) (dCons (m2 dMod (mVar 0) (mVar 1)) dNil))))
    (sRet (mB dAbs (aCons (mVar 0) aNil))))
def c_common_of : List D → Option (DV × D) := runFn none 2 cb_common_of
def cb_ratio_of : MS :=
  (sSeq (sSet 2 (mCall c_common_of (aCons (mVar 0) (aCons (mVar 1) aNil))))
    (sSeq (sIf (tst (m2 dLt (mVar 1) (mC (.int 0)))) (sSet 2 (m1 dNeg (mVar 2))) sNext)
    (sRet (mTup (aCons (m2 dFdiv (mVar 0) (mVar 2)) (aCons (m2 dFdiv (mVar 1) (mVar 2)) aNil))))))
def c_ratio_of : List D → Option (DV × D) := runFn none 3 cb_ratio_of
def cb_whole_power : MS :=
  (sSeq (sSet 2 (mC (.int 1)))
    (sSeq (sFor (iRng (aCons (mVar 1) aNil)) (gN 3) (sSet 2 (m2 dMul (mVar 2) (mVar 0))))
    (sRet (mMove 2))))
def c_whole_power : List D → Option (DV × D) := runFn none 4 cb_whole_power
def cb_choose_of : MS :=
  (sSeq (sIf (tNotm (tst (mChain dLe dLe (mC (.int 0)) (mVar 1) (mVar 0)))) (sRet (mC (.int 0))) sNext)
    (sSeq (sSet 2 (mC (.int 1)))
    (sSeq (sFor (iRng (aCons (mB dMin (aCons (mVar 1) (aCons (m2 dSub (mVar 0) (mVar 1)) aNil))) aNil)) (gN 3) (sSet 2 (m2 dFdiv (m2 dMul (mVar 2) (m2 dSub (mVar 0) (mVar 3))) (m2 dAdd (mVar 3) (mC (.int 1))))))
    (sRet (mMove 2)))))
def c_choose_of : List D → Option (DV × D) := runFn none 4 cb_choose_of
def cb_is_whole : MS :=
  (sRet (mAnd (mIsi "int" (mVar 0)) (m1 dNot (mIsi "bool" (mVar 0)))))
def c_is_whole : List D → Option (DV × D) := runFn none 1 cb_is_whole
def cb_is_integer : MS :=
  (sRet (mAnd (mCall c_is_whole (aCons (mVar 0) aNil)) (mChain dLe dLe (mVar 1) (mVar 0) (mVar 2))))
def c_is_integer : List D → Option (DV × D) := runFn none 3 cb_is_integer
def cb_is_tuple : MS :=
  (sRet (mAnd (mIsi "tuple" (mVar 0)) (mChain dLe dLe (mVar 1) (mLenS 0) (mVar 2))))
def c_is_tuple : List D → Option (DV × D) := runFn none 3 cb_is_tuple
def cb_is_size : MS :=
  (sRet (mAnd (mCall c_is_whole (aCons (mVar 0) aNil)) (mChain dLt dLt (m1 dNeg (mC (.int 10000000000000000000000000000000000000000))) (mVar 0) (mC (.int 10000000000000000000000000000000000000000)))))
def c_is_size : List D → Option (DV × D) := runFn none 1 cb_is_size
def cb_is_fraction : MS :=
  (sSeq (sIf (tOrm (tNotm (tst (mCall c_is_tuple (aCons (mVar 0) (aCons (mC (.int 2)) (aCons (mC (.int 2)) aNil)))))) (tNotm (tst (mB dAll (aCons (mLc (iSeq (mVar 0)) (gN 1) tYesM (mCall c_is_size (aCons (mVar 1) aNil)) [1]) aNil))))) (sRet (mC (.bl false))) sNext)
    (sRet (mAnd (m2 dGt (mIxS 0 (mC (.int 1))) (mC (.int 0))) (m2 dEq (mCall c_common_of (aCons (mIxS 0 (mC (.int 0))) (aCons (mIxS 0 (mC (.int 1))) aNil))) (mC (.int 1))))))
def c_is_fraction : List D → Option (DV × D) := runFn none 2 cb_is_fraction
def cb_is_share : MS :=
  (sRet (mAnd (mCall c_is_fraction (aCons (mVar 0) aNil)) (mChain dLe dLe (mC (.int 0)) (mIxS 0 (mC (.int 0))) (mIxS 0 (mC (.int 1))))))
def c_is_share : List D → Option (DV × D) := runFn none 1 cb_is_share
def cb__law_gcd : MS :=
  (sSeq (sFor (iRng (aCons (m2 dPow (mC (.int 10)) (mC (.int 6))) aNil)) (gN 2) (sSeq (sIf (tst (m2 dEq (mVar 1) (mC (.int 0)))) sBreak sNext)
    (sPar [0, 1] (dCons (mVar 1) (dCons (m2 dMod (mVar 0) (mVar 1)) dNil)))))
    (sRet (mB dAbs (aCons (mVar 0) aNil))))
def c__law_gcd : List D → Option (DV × D) := runFn none 3 cb__law_gcd
def cb__law_ratio : MS :=
  (sSeq (sSet 2 (m2 dMul (mCall c__law_gcd (aCons (mVar 0) (aCons (mVar 1) aNil))) (mIf (tst (m2 dGt (mVar 1) (mC (.int 0)))) (mC (.int 1)) (m1 dNeg (mC (.int 1))))))
    (sRet (mTup (aCons (m2 dFdiv (mVar 0) (mVar 2)) (aCons (m2 dFdiv (mVar 1) (mVar 2)) aNil)))))
def c__law_ratio : List D → Option (DV × D) := runFn none 3 cb__law_ratio
def cb__law_plus : MS :=
  (sRet (mCall c__law_ratio (aCons (m2 dAdd (m2 dMul (mIxS 0 (mC (.int 0))) (mIxS 1 (mC (.int 1)))) (m2 dMul (mIxS 1 (mC (.int 0))) (mIxS 0 (mC (.int 1))))) (aCons (m2 dMul (mIxS 0 (mC (.int 1))) (mIxS 1 (mC (.int 1)))) aNil))))
def c__law_plus : List D → Option (DV × D) := runFn none 2 cb__law_plus
def cb__law_below : MS :=
  (sRet (m2 dLt (m2 dMul (mIxS 0 (mC (.int 0))) (mIxS 1 (mC (.int 1)))) (m2 dMul (mIxS 1 (mC (.int 0))) (mIxS 0 (mC (.int 1))))))
def c__law_below : List D → Option (DV × D) := runFn none 2 cb__law_below
def cb__law_rest : MS :=
  (sRet (mCall c__law_ratio (aCons (m2 dSub (mIxS 0 (mC (.int 1))) (mIxS 0 (mC (.int 0)))) (aCons (mIxS 0 (mC (.int 1))) aNil))))
def c__law_rest : List D → Option (DV × D) := runFn none 1 cb__law_rest
def cb__law_take (F G H : Int) : MS :=
  (sSeq (sIf (tst (m2 dGt (mIxS 0 (mC (.int 0))) (mC (.int 0)))) (sSeq (sSet 2 (m2 dMod (mB dInt (aCons (mIxS 0 (mC (.int 0))) aNil)) (mVar 1)))
    (sSeq (sSetIx 0 (mC (.int 0)) (m2 dFdiv (mIxS 0 (mC (.int 0))) (mVar 1)))
    (sRet (mMove 2)))) sNext)
    (sSeq (sSetIx 0 (mC (.int 2)) (m2 dAdd (mIxS 0 (mC (.int 2))) (mC (.int 1))))
    (sSeq (sSet 3 (m2 dIxV (mLst (aCons (mC (.int 2147483647)) (aCons (mC (.int 2147483629)) (aCons (mC (.int 2147483587)) (aCons (mC (.int 2147483579)) aNil))))) (m2 dMod (mB dInt (aCons (mIxS 0 (mC (.int 2))) aNil)) (mC (.int 4)))))
    (sSeq (sSet 4 (m2 dMod (mB dInt (aCons (m2 dPow (mB dInt (aCons (m2 dAdd (m2 dAdd (mIxS 0 (mC (.int 1))) (m2 dMul (m2 dMul (mC (.int F)) (mIxS 0 (mC (.int 2)))) (mIxS 0 (mC (.int 2))))) (mC (.int G))) aNil)) (mC (.int 3))) aNil)) (mVar 3)))
    (sRet (m2 dMod (mB dInt (aCons (m2 dFdiv (m2 dMul (mVar 4) (m2 dAdd (m2 dMod (mB dInt (aCons (mVar 4) aNil)) (mC (.int 10007))) (m2 dMul (mC (.int H)) (mIxS 0 (mC (.int 2)))))) (mC (.int 307))) aNil)) (mVar 1)))))))
def c__law_take (F G H : Int) : List D → Option (DV × D) := runFn (some 0) 5 (cb__law_take F G H)
def cb__law_of (F G H : Int) : MS :=
  (sRet (mIxS 1 (mCallL 0 (c__law_take F G H) (lLend 0 (lCons (mLenS 1) lNil)))))
def c__law_of (F G H : Int) : List D → Option (DV × D) := runFn (some 0) 2 (cb__law_of F G H)
def cb__law_pot (A B C F G : Int) : MS :=
  (sSeq (sSet 2 (mIf (tst (m2 dLt (mVar 1) (mLenS 0))) (mIxS 0 (mVar 1)) (m2 dAdd (m2 dAdd (m2 dMod (mB dInt (aCons (mB dSum (aCons (mSl (mVar 0) pNone (pSome (mC (.int 1)))) aNil)) aNil)) (mC (.int 1000003))) (m2 dMul (mC (.int A)) (mVar 1))) (mC (.int B)))))
    (sSeq (sSet 3 (m2 dMul (m2 dMod (mB dInt (aCons (mB dAbs (aCons (mVar 2) aNil)) aNil)) (m2 dPow (m2 dPow (mC (.int 10)) (mC (.int 60))) (mC (.int 5)))) (mB dInt (aCons (m2 dGe (mB dAbs (aCons (mVar 2) aNil)) (m2 dPow (mC (.int 10)) (mC (.int 18)))) aNil))))
    (sSeq (sSet 4 (m2 dMod (mB dInt (aCons (mVar 2) aNil)) (mC (.int 2305843009213693951))))
    (sRet (mLst (aCons (mVar 3) (aCons (m2 dMod (mB dInt (aCons (m2 dAdd (m2 dAdd (m2 dMul (mVar 4) (mC (.int C))) (m2 dMul (m2 dMul (mC (.int F)) (mVar 1)) (mVar 1))) (mC (.int G))) aNil)) (mC (.int 2305843009213693921))) (aCons (mC (.int 0)) aNil))))))))
def c__law_pot (A B C F G : Int) : List D → Option (DV × D) := runFn none 5 (cb__law_pot A B C F G)
def cb__law_cells : MS :=
  (sRet (mLRg (mB dMax (aCons (mC (.int 1)) (aCons (mB dMin (aCons (mVar 1) (aCons (mLenS 0) aNil))) aNil)))))
def c__law_cells : List D → Option (DV × D) := runFn none 2 cb__law_cells
theorem common_wh : ∀ {n : Nat} {a b x : Int}, eu n a b = some x → whN (tst (m2 dNe (mVar 1) (mC (.int 0)))) (sPar [0, 1] (dCons (mVar 1) (dCons (m2 dMod (mVar 0) (mVar 1)) dNil))) n [some (.val (.int a)), some (.val (.int b))] = some (.nx [some (.val (.int x)), some (.val (.int 0))])
  | 0, _, _, _, h => by cases h
  | n + 1, a, b, x, h => by
    by_cases h0 : b = 0
    · subst h0
      simp only [eu, if_true, Option.some.injEq] at h
      subst h
      simp [whN_s, kSeq_1, kSeq_2, kSeq_3, kSeq_4, kSet_1, kNx_1, kPar_1, kd2_1, kd1_1, kIf_1, kIf_2, kRt_1, kEx_1, kVar_1, kVar_2, kMov_1, kMov_2, kfz_1, kfz_2, kc_1, k1_1, k2b_1, k2a_1, kt_1, kn_1, kAnd_1, kAnd_2, kOr_1, kOr_2, kmA_1, kmA_2, kmO_1, kmO_2, kmI_1, kmI_2, kh4_1, kh3_1, kh3_2, kh2_1, kh1_1, kcb_1, kca_1, kL5_1, kL4_1, kL3_1, kL2_1, kL1_1, kl2_1, kl1_1, kl3_1, kr_1, krs_1, krs_2, kput_1, kput_2, kpk_1, klst_1, klst_2, kbor_1, ka2_1, ka1_1, ktup_1, kls_1, kB_1, kx3_1, kx2_1, kx1_1, kx4_1, kis2_1, kis_1, kp_1, ks3_1, ks2_1, ks1_1, kF_1, kF2_1, kF2_2, kF2_3, kF2_4, kF1_1, kW2_1, kW2_2, kW2_3, kW2_4, kW_1, kW_2, kg_1, ksa_1, ki_1, ki_2, ki_3, kap2_1, kap_1, ksx4_1, ksx3_1, ksx2_1, ksx1_1, kat_1, ko_1, kfin_1, kfin_2, klc2_1, klc_1, kC4_1, kC3_1, kC2_1, kC2_2, kC1_1, ksum_1, kst2_1, kst_1, kst_2, kRev_1, kRev_2, krg_1, krg2_1, krg1_1, kav_1, kav_2, krc_1, runFn_a, out_n, out_s, ini_a, iniL_n, iniL_0, iniL_e, sSeq_a, sSet_a, sPar_a, dNil_a, dCons_a, setAll_n, setAll_c, sIf_a, sRet_a, sExpr_a, sNext_a, sBreak_a, sCont_a, mC_a, mVar_a, mMove_a, fz_a, m1_a, m2_a, tst_a, tNot_a, tAnd_a, tOr_a, tYes_a, mAnd_a, mOr_a, mIf_a, mChain_a, mCall_a, mCallL_a, lNil_a, lCons_a, lLend_a, res_e, res_v, res_s, slot_0, slot_s, put_a, peek_a, lstAt_a, get_v, get_o, get_b, aNil_a, aCons_a, aStar_a, mTup_a, mLst_a, mB_a, mIxS_a, mLenS_a, mIsi_a, pNone_a, pSome_a, mSl_a, sFor_a, forL_n, forL_c, whN_s, gN_a, gT_a, gsC_a, gsN_a, sAsg_a, iSeq_a, sApp_a, sSetIx_a, mLc_a, lcL_n, lcL_c, wipe_n, wipe_c, rest_n, rest_c, allVal_n, allVal_c, mRev_a, mLRg_a, mLRg2_a, lt_int, le_int, gt_int, ge_int, sub_int, add_int, mod_int, fdiv_int, pow_int', mul_ok, eq_int, ne_int, neg_int, not_bl, abs_int, int_int, int_bl, max_2, min_2, max_3, min_3, len_l, len_t, len_s, lenB_l, lenB_t, lenB_s, ix_l, ix_t, ix_s, ixV_a, at_a, tuple_l, tuple_t, list_l, list_t, sum_l, all_l, any_l, isi_int, isi_bool, isi_tup, ix_fr0, ix_fr1, mul_l, cat_l, cat_t, sl_l, sl_t, sl_s, line, L2.ixN]
    · have ih := common_wh (n := n) (a := b) (b := a.fmod b) (x := x) (by simpa [eu, h0] using h)
      simp [whN_s, kSeq_1, kSeq_2, kSeq_3, kSeq_4, kSet_1, kNx_1, kPar_1, kd2_1, kd1_1, kIf_1, kIf_2, kRt_1, kEx_1, kVar_1, kVar_2, kMov_1, kMov_2, kfz_1, kfz_2, kc_1, k1_1, k2b_1, k2a_1, kt_1, kn_1, kAnd_1, kAnd_2, kOr_1, kOr_2, kmA_1, kmA_2, kmO_1, kmO_2, kmI_1, kmI_2, kh4_1, kh3_1, kh3_2, kh2_1, kh1_1, kcb_1, kca_1, kL5_1, kL4_1, kL3_1, kL2_1, kL1_1, kl2_1, kl1_1, kl3_1, kr_1, krs_1, krs_2, kput_1, kput_2, kpk_1, klst_1, klst_2, kbor_1, ka2_1, ka1_1, ktup_1, kls_1, kB_1, kx3_1, kx2_1, kx1_1, kx4_1, kis2_1, kis_1, kp_1, ks3_1, ks2_1, ks1_1, kF_1, kF2_1, kF2_2, kF2_3, kF2_4, kF1_1, kW2_1, kW2_2, kW2_3, kW2_4, kW_1, kW_2, kg_1, ksa_1, ki_1, ki_2, ki_3, kap2_1, kap_1, ksx4_1, ksx3_1, ksx2_1, ksx1_1, kat_1, ko_1, kfin_1, kfin_2, klc2_1, klc_1, kC4_1, kC3_1, kC2_1, kC2_2, kC1_1, ksum_1, kst2_1, kst_1, kst_2, kRev_1, kRev_2, krg_1, krg2_1, krg1_1, kav_1, kav_2, krc_1, runFn_a, out_n, out_s, ini_a, iniL_n, iniL_0, iniL_e, sSeq_a, sSet_a, sPar_a, dNil_a, dCons_a, setAll_n, setAll_c, sIf_a, sRet_a, sExpr_a, sNext_a, sBreak_a, sCont_a, mC_a, mVar_a, mMove_a, fz_a, m1_a, m2_a, tst_a, tNot_a, tAnd_a, tOr_a, tYes_a, mAnd_a, mOr_a, mIf_a, mChain_a, mCall_a, mCallL_a, lNil_a, lCons_a, lLend_a, res_e, res_v, res_s, slot_0, slot_s, put_a, peek_a, lstAt_a, get_v, get_o, get_b, aNil_a, aCons_a, aStar_a, mTup_a, mLst_a, mB_a, mIxS_a, mLenS_a, mIsi_a, pNone_a, pSome_a, mSl_a, sFor_a, forL_n, forL_c, whN_s, gN_a, gT_a, gsC_a, gsN_a, sAsg_a, iSeq_a, sApp_a, sSetIx_a, mLc_a, lcL_n, lcL_c, wipe_n, wipe_c, rest_n, rest_c, allVal_n, allVal_c, mRev_a, mLRg_a, mLRg2_a, lt_int, le_int, gt_int, ge_int, sub_int, add_int, mod_int, fdiv_int, pow_int', mul_ok, eq_int, ne_int, neg_int, not_bl, abs_int, int_int, int_bl, max_2, min_2, max_3, min_3, len_l, len_t, len_s, lenB_l, lenB_t, lenB_s, ix_l, ix_t, ix_s, ixV_a, at_a, tuple_l, tuple_t, list_l, list_t, sum_l, all_l, any_l, isi_int, isi_bool, isi_tup, ix_fr0, ix_fr1, mul_l, cat_l, cat_t, sl_l, sl_t, sl_s, line, L2.ixN, h0]
      exact ih
theorem eu_ex (a b : Int) : ∃ n x, eu n a b = some x := by
  obtain ⟨x, h⟩ := eu_some (b.natAbs) a b Nat.lt_two_pow_self
  exact ⟨_, x, h⟩
theorem common_of_ok (a b : Int) : c_common_of [.int a, .int b] = ok (.int (Int.gcd a b)) := by
  obtain ⟨n, x, h⟩ := eu_ex a b
  have w := sWhile_of (common_wh h)
  have g := eu_gcd h
  simp [c_common_of, cb_common_of, kSeq_1, kSeq_2, kSeq_3, kSeq_4, kSet_1, kNx_1, kPar_1, kd2_1, kd1_1, kIf_1, kIf_2, kRt_1, kEx_1, kVar_1, kVar_2, kMov_1, kMov_2, kfz_1, kfz_2, kc_1, k1_1, k2b_1, k2a_1, kt_1, kn_1, kAnd_1, kAnd_2, kOr_1, kOr_2, kmA_1, kmA_2, kmO_1, kmO_2, kmI_1, kmI_2, kh4_1, kh3_1, kh3_2, kh2_1, kh1_1, kcb_1, kca_1, kL5_1, kL4_1, kL3_1, kL2_1, kL1_1, kl2_1, kl1_1, kl3_1, kr_1, krs_1, krs_2, kput_1, kput_2, kpk_1, klst_1, klst_2, kbor_1, ka2_1, ka1_1, ktup_1, kls_1, kB_1, kx3_1, kx2_1, kx1_1, kx4_1, kis2_1, kis_1, kp_1, ks3_1, ks2_1, ks1_1, kF_1, kF2_1, kF2_2, kF2_3, kF2_4, kF1_1, kW2_1, kW2_2, kW2_3, kW2_4, kW_1, kW_2, kg_1, ksa_1, ki_1, ki_2, ki_3, kap2_1, kap_1, ksx4_1, ksx3_1, ksx2_1, ksx1_1, kat_1, ko_1, kfin_1, kfin_2, klc2_1, klc_1, kC4_1, kC3_1, kC2_1, kC2_2, kC1_1, ksum_1, kst2_1, kst_1, kst_2, kRev_1, kRev_2, krg_1, krg2_1, krg1_1, kav_1, kav_2, krc_1, runFn_a, out_n, out_s, ini_a, iniL_n, iniL_0, iniL_e, sSeq_a, sSet_a, sPar_a, dNil_a, dCons_a, setAll_n, setAll_c, sIf_a, sRet_a, sExpr_a, sNext_a, sBreak_a, sCont_a, mC_a, mVar_a, mMove_a, fz_a, m1_a, m2_a, tst_a, tNot_a, tAnd_a, tOr_a, tYes_a, mAnd_a, mOr_a, mIf_a, mChain_a, mCall_a, mCallL_a, lNil_a, lCons_a, lLend_a, res_e, res_v, res_s, slot_0, slot_s, put_a, peek_a, lstAt_a, get_v, get_o, get_b, aNil_a, aCons_a, aStar_a, mTup_a, mLst_a, mB_a, mIxS_a, mLenS_a, mIsi_a, pNone_a, pSome_a, mSl_a, sFor_a, forL_n, forL_c, whN_s, gN_a, gT_a, gsC_a, gsN_a, sAsg_a, iSeq_a, sApp_a, sSetIx_a, mLc_a, lcL_n, lcL_c, wipe_n, wipe_c, rest_n, rest_c, allVal_n, allVal_c, mRev_a, mLRg_a, mLRg2_a, lt_int, le_int, gt_int, ge_int, sub_int, add_int, mod_int, fdiv_int, pow_int', mul_ok, eq_int, ne_int, neg_int, not_bl, abs_int, int_int, int_bl, max_2, min_2, max_3, min_3, len_l, len_t, len_s, lenB_l, lenB_t, lenB_s, ix_l, ix_t, ix_s, ixV_a, at_a, tuple_l, tuple_t, list_l, list_t, sum_l, all_l, any_l, isi_int, isi_bool, isi_tup, ix_fr0, ix_fr1, mul_l, cat_l, cat_t, sl_l, sl_t, sl_s, line, L2.ixN, w, g]
theorem ratio_of_ok {a b : Int} (hb : b ≠ 0) {n : Nat} (hs : Sz n b) (hn : n < 9000 := by decide) : c_ratio_of [.int a, .int b] = ok (fr ((a : Rat) / b)) := by
  have d1 : DivOk (Int.gcd a b) := (hs.of_le (gcd_le hb)).divOk (gcd_ne hb) hn
  have d2 : DivOk (-(Int.gcd a b : Int)) := (hs.of_le (gcd_le hb)).neg.divOk (by have := gcd_ne (a := a) hb; omega) hn
  by_cases h : b < 0
  · obtain ⟨e1, e2⟩ := ratio_neg (a := a) h
    simp [c_ratio_of, cb_ratio_of, kSeq_1, kSeq_2, kSeq_3, kSeq_4, kSet_1, kNx_1, kPar_1, kd2_1, kd1_1, kIf_1, kIf_2, kRt_1, kEx_1, kVar_1, kVar_2, kMov_1, kMov_2, kfz_1, kfz_2, kc_1, k1_1, k2b_1, k2a_1, kt_1, kn_1, kAnd_1, kAnd_2, kOr_1, kOr_2, kmA_1, kmA_2, kmO_1, kmO_2, kmI_1, kmI_2, kh4_1, kh3_1, kh3_2, kh2_1, kh1_1, kcb_1, kca_1, kL5_1, kL4_1, kL3_1, kL2_1, kL1_1, kl2_1, kl1_1, kl3_1, kr_1, krs_1, krs_2, kput_1, kput_2, kpk_1, klst_1, klst_2, kbor_1, ka2_1, ka1_1, ktup_1, kls_1, kB_1, kx3_1, kx2_1, kx1_1, kx4_1, kis2_1, kis_1, kp_1, ks3_1, ks2_1, ks1_1, kF_1, kF2_1, kF2_2, kF2_3, kF2_4, kF1_1, kW2_1, kW2_2, kW2_3, kW2_4, kW_1, kW_2, kg_1, ksa_1, ki_1, ki_2, ki_3, kap2_1, kap_1, ksx4_1, ksx3_1, ksx2_1, ksx1_1, kat_1, ko_1, kfin_1, kfin_2, klc2_1, klc_1, kC4_1, kC3_1, kC2_1, kC2_2, kC1_1, ksum_1, kst2_1, kst_1, kst_2, kRev_1, kRev_2, krg_1, krg2_1, krg1_1, kav_1, kav_2, krc_1, runFn_a, out_n, out_s, ini_a, iniL_n, iniL_0, iniL_e, sSeq_a, sSet_a, sPar_a, dNil_a, dCons_a, setAll_n, setAll_c, sIf_a, sRet_a, sExpr_a, sNext_a, sBreak_a, sCont_a, mC_a, mVar_a, mMove_a, fz_a, m1_a, m2_a, tst_a, tNot_a, tAnd_a, tOr_a, tYes_a, mAnd_a, mOr_a, mIf_a, mChain_a, mCall_a, mCallL_a, lNil_a, lCons_a, lLend_a, res_e, res_v, res_s, slot_0, slot_s, put_a, peek_a, lstAt_a, get_v, get_o, get_b, aNil_a, aCons_a, aStar_a, mTup_a, mLst_a, mB_a, mIxS_a, mLenS_a, mIsi_a, pNone_a, pSome_a, mSl_a, sFor_a, forL_n, forL_c, whN_s, gN_a, gT_a, gsC_a, gsN_a, sAsg_a, iSeq_a, sApp_a, sSetIx_a, mLc_a, lcL_n, lcL_c, wipe_n, wipe_c, rest_n, rest_c, allVal_n, allVal_c, mRev_a, mLRg_a, mLRg2_a, lt_int, le_int, gt_int, ge_int, sub_int, add_int, mod_int, fdiv_int, pow_int', mul_ok, eq_int, ne_int, neg_int, not_bl, abs_int, int_int, int_bl, max_2, min_2, max_3, min_3, len_l, len_t, len_s, lenB_l, lenB_t, lenB_s, ix_l, ix_t, ix_s, ixV_a, at_a, tuple_l, tuple_t, list_l, list_t, sum_l, all_l, any_l, isi_int, isi_bool, isi_tup, ix_fr0, ix_fr1, mul_l, cat_l, cat_t, sl_l, sl_t, sl_s, line, L2.ixN, common_of_ok, h, d2, e1, e2, fr]
  · obtain ⟨e1, e2⟩ := ratio_pos (a := a) (b := b) (by omega)
    simp [c_ratio_of, cb_ratio_of, kSeq_1, kSeq_2, kSeq_3, kSeq_4, kSet_1, kNx_1, kPar_1, kd2_1, kd1_1, kIf_1, kIf_2, kRt_1, kEx_1, kVar_1, kVar_2, kMov_1, kMov_2, kfz_1, kfz_2, kc_1, k1_1, k2b_1, k2a_1, kt_1, kn_1, kAnd_1, kAnd_2, kOr_1, kOr_2, kmA_1, kmA_2, kmO_1, kmO_2, kmI_1, kmI_2, kh4_1, kh3_1, kh3_2, kh2_1, kh1_1, kcb_1, kca_1, kL5_1, kL4_1, kL3_1, kL2_1, kL1_1, kl2_1, kl1_1, kl3_1, kr_1, krs_1, krs_2, kput_1, kput_2, kpk_1, klst_1, klst_2, kbor_1, ka2_1, ka1_1, ktup_1, kls_1, kB_1, kx3_1, kx2_1, kx1_1, kx4_1, kis2_1, kis_1, kp_1, ks3_1, ks2_1, ks1_1, kF_1, kF2_1, kF2_2, kF2_3, kF2_4, kF1_1, kW2_1, kW2_2, kW2_3, kW2_4, kW_1, kW_2, kg_1, ksa_1, ki_1, ki_2, ki_3, kap2_1, kap_1, ksx4_1, ksx3_1, ksx2_1, ksx1_1, kat_1, ko_1, kfin_1, kfin_2, klc2_1, klc_1, kC4_1, kC3_1, kC2_1, kC2_2, kC1_1, ksum_1, kst2_1, kst_1, kst_2, kRev_1, kRev_2, krg_1, krg2_1, krg1_1, kav_1, kav_2, krc_1, runFn_a, out_n, out_s, ini_a, iniL_n, iniL_0, iniL_e, sSeq_a, sSet_a, sPar_a, dNil_a, dCons_a, setAll_n, setAll_c, sIf_a, sRet_a, sExpr_a, sNext_a, sBreak_a, sCont_a, mC_a, mVar_a, mMove_a, fz_a, m1_a, m2_a, tst_a, tNot_a, tAnd_a, tOr_a, tYes_a, mAnd_a, mOr_a, mIf_a, mChain_a, mCall_a, mCallL_a, lNil_a, lCons_a, lLend_a, res_e, res_v, res_s, slot_0, slot_s, put_a, peek_a, lstAt_a, get_v, get_o, get_b, aNil_a, aCons_a, aStar_a, mTup_a, mLst_a, mB_a, mIxS_a, mLenS_a, mIsi_a, pNone_a, pSome_a, mSl_a, sFor_a, forL_n, forL_c, whN_s, gN_a, gT_a, gsC_a, gsN_a, sAsg_a, iSeq_a, sApp_a, sSetIx_a, mLc_a, lcL_n, lcL_c, wipe_n, wipe_c, rest_n, rest_c, allVal_n, allVal_c, mRev_a, mLRg_a, mLRg2_a, lt_int, le_int, gt_int, ge_int, sub_int, add_int, mod_int, fdiv_int, pow_int', mul_ok, eq_int, ne_int, neg_int, not_bl, abs_int, int_int, int_bl, max_2, min_2, max_3, min_3, len_l, len_t, len_s, lenB_l, lenB_t, lenB_s, ix_l, ix_t, ix_s, ixV_a, at_a, tuple_l, tuple_t, list_l, list_t, sum_l, all_l, any_l, isi_int, isi_bool, isi_tup, ix_fr0, ix_fr1, mul_l, cat_l, cat_t, sl_l, sl_t, sl_s, line, L2.ixN, common_of_ok, h, d1, e1, e2, fr]
theorem p62a : (2000001 : Int) ≤ 2 ^ 62 := by decide
theorem p62b : -(2 ^ 62) ≤ (-2000000 : Int) := by decide
theorem range_D (n : Nat) (h : n ≤ 2000000) (ρ ρ' : En) (ms : MA) (e : ms ρ = some ([.int n], ρ')) : iRng ms ρ = some (rangeD 0 n, ρ') := by
  have h0 : ∀ A B : Int, A ≤ -2000000 → 2000001 ≤ B → A ≤ (n : Int) ∧ (n : Int) < B := fun A B h1 h2 => ⟨by omega, by omega⟩
  have h1 := h0 _ _ p62b p62a
  unfold iRng
  rw [e, Option.bind_some]
  exact (if_pos h1).trans (by rw [Int.toNat_natCast])
theorem range_D2 (lo hi : Int) (h1 : -2000000 ≤ lo) (h2 : lo ≤ 2000000) (h3 : -2000000 ≤ hi) (h4 : hi ≤ 2000000) (ρ ρ' : En) (ms : MA) (e : ms ρ = some ([.int lo, .int hi], ρ')) : iRng ms ρ = some (rangeD lo (hi - lo).toNat, ρ') := by
  have h0 : ∀ A B : Int, A ≤ -2000000 → 2000001 ≤ B → A ≤ lo ∧ lo < B ∧ A ≤ hi ∧ hi < B := fun A B h1 h2 => ⟨by omega, by omega, by omega, by omega⟩
  have h1 := h0 _ _ p62b p62a
  unfold iRng
  rw [e, Option.bind_some]
  exact if_pos h1
theorem pow_loop {a : Int} {n : Nat} (hs : Sz n a) : ∀ (L : List D) (x m : D) (k : Nat) (o : Option DV), n * (k + L.length + 2) < 900000 → ∃ o',
    forL (gN 3) (sSet 2 (m2 dMul (mVar 2) (mVar 0))) L [some (.val (.int a)), some (.val m), some (.val (.int (a ^ k))), o] = some (.nx [some (.val (.int a)), some (.val m), some (.val (.int (a ^ (k + L.length)))), o'])
  | [], x, m, k, o, hl => ⟨o, by simp [forL]⟩
  | d :: L, x, m, k, o, hl => by
    have hm : MulOk (a ^ k) a := (hs.pow k).mulOk hs (by
      simp only [List.length_cons, Nat.mul_add, Nat.mul_one] at hl ⊢
      omega)
    obtain ⟨o', ih⟩ := pow_loop hs L x m (k + 1) (some (.val d)) (by
      simp only [List.length_cons] at hl
      have e : k + 1 + L.length + 2 = k + (L.length + 1) + 2 := by omega
      rw [e]; exact hl)
    refine ⟨o', ?_⟩
    have e : k + (d :: L).length = k + 1 + L.length := by simp only [List.length_cons]; omega
    rw [e, ← ih]
    simp [kSeq_1, kSeq_2, kSeq_3, kSeq_4, kSet_1, kNx_1, kPar_1, kd2_1, kd1_1, kIf_1, kIf_2, kRt_1, kEx_1, kVar_1, kVar_2, kMov_1, kMov_2, kfz_1, kfz_2, kc_1, k1_1, k2b_1, k2a_1, kt_1, kn_1, kAnd_1, kAnd_2, kOr_1, kOr_2, kmA_1, kmA_2, kmO_1, kmO_2, kmI_1, kmI_2, kh4_1, kh3_1, kh3_2, kh2_1, kh1_1, kcb_1, kca_1, kL5_1, kL4_1, kL3_1, kL2_1, kL1_1, kl2_1, kl1_1, kl3_1, kr_1, krs_1, krs_2, kput_1, kput_2, kpk_1, klst_1, klst_2, kbor_1, ka2_1, ka1_1, ktup_1, kls_1, kB_1, kx3_1, kx2_1, kx1_1, kx4_1, kis2_1, kis_1, kp_1, ks3_1, ks2_1, ks1_1, kF_1, kF2_1, kF2_2, kF2_3, kF2_4, kF1_1, kW2_1, kW2_2, kW2_3, kW2_4, kW_1, kW_2, kg_1, ksa_1, ki_1, ki_2, ki_3, kap2_1, kap_1, ksx4_1, ksx3_1, ksx2_1, ksx1_1, kat_1, ko_1, kfin_1, kfin_2, klc2_1, klc_1, kC4_1, kC3_1, kC2_1, kC2_2, kC1_1, ksum_1, kst2_1, kst_1, kst_2, kRev_1, kRev_2, krg_1, krg2_1, krg1_1, kav_1, kav_2, krc_1, runFn_a, out_n, out_s, ini_a, iniL_n, iniL_0, iniL_e, sSeq_a, sSet_a, sPar_a, dNil_a, dCons_a, setAll_n, setAll_c, sIf_a, sRet_a, sExpr_a, sNext_a, sBreak_a, sCont_a, mC_a, mVar_a, mMove_a, fz_a, m1_a, m2_a, tst_a, tNot_a, tAnd_a, tOr_a, tYes_a, mAnd_a, mOr_a, mIf_a, mChain_a, mCall_a, mCallL_a, lNil_a, lCons_a, lLend_a, res_e, res_v, res_s, slot_0, slot_s, put_a, peek_a, lstAt_a, get_v, get_o, get_b, aNil_a, aCons_a, aStar_a, mTup_a, mLst_a, mB_a, mIxS_a, mLenS_a, mIsi_a, pNone_a, pSome_a, mSl_a, sFor_a, forL_n, forL_c, whN_s, gN_a, gT_a, gsC_a, gsN_a, sAsg_a, iSeq_a, sApp_a, sSetIx_a, mLc_a, lcL_n, lcL_c, wipe_n, wipe_c, rest_n, rest_c, allVal_n, allVal_c, mRev_a, mLRg_a, mLRg2_a, lt_int, le_int, gt_int, ge_int, sub_int, add_int, mod_int, fdiv_int, pow_int', mul_ok, eq_int, ne_int, neg_int, not_bl, abs_int, int_int, int_bl, max_2, min_2, max_3, min_3, len_l, len_t, len_s, lenB_l, lenB_t, lenB_s, ix_l, ix_t, ix_s, ixV_a, at_a, tuple_l, tuple_t, list_l, list_t, sum_l, all_l, any_l, isi_int, isi_bool, isi_tup, ix_fr0, ix_fr1, mul_l, cat_l, cat_t, sl_l, sl_t, sl_s, line, L2.ixN, hm, Int.pow_succ]
theorem whole_power_ok {a : Int} {n k : Nat} (hs : Sz n a) (hl : n * (k + 2) < 900000 := by decide) (hk : k ≤ 2000000) : c_whole_power [.int a, .int k] = ok (.int (a ^ k)) := by
  obtain ⟨o', h⟩ := pow_loop hs (rangeD 0 k) (.int 0) (.int k) 0 none (by rw [rangeD_length]; rw [Nat.zero_add]; exact hl)
  rw [rangeD_length, Nat.zero_add, Int.pow_zero] at h
  have hr := range_D k hk [some (.val (.int a)), some (.val (.int k)), some (.val (.int 1)), none] [some (.val (.int a)), some (.val (.int k)), some (.val (.int 1)), none] (aCons (mVar 1) aNil) (by simp [kSeq_1, kSeq_2, kSeq_3, kSeq_4, kSet_1, kNx_1, kPar_1, kd2_1, kd1_1, kIf_1, kIf_2, kRt_1, kEx_1, kVar_1, kVar_2, kMov_1, kMov_2, kfz_1, kfz_2, kc_1, k1_1, k2b_1, k2a_1, kt_1, kn_1, kAnd_1, kAnd_2, kOr_1, kOr_2, kmA_1, kmA_2, kmO_1, kmO_2, kmI_1, kmI_2, kh4_1, kh3_1, kh3_2, kh2_1, kh1_1, kcb_1, kca_1, kL5_1, kL4_1, kL3_1, kL2_1, kL1_1, kl2_1, kl1_1, kl3_1, kr_1, krs_1, krs_2, kput_1, kput_2, kpk_1, klst_1, klst_2, kbor_1, ka2_1, ka1_1, ktup_1, kls_1, kB_1, kx3_1, kx2_1, kx1_1, kx4_1, kis2_1, kis_1, kp_1, ks3_1, ks2_1, ks1_1, kF_1, kF2_1, kF2_2, kF2_3, kF2_4, kF1_1, kW2_1, kW2_2, kW2_3, kW2_4, kW_1, kW_2, kg_1, ksa_1, ki_1, ki_2, ki_3, kap2_1, kap_1, ksx4_1, ksx3_1, ksx2_1, ksx1_1, kat_1, ko_1, kfin_1, kfin_2, klc2_1, klc_1, kC4_1, kC3_1, kC2_1, kC2_2, kC1_1, ksum_1, kst2_1, kst_1, kst_2, kRev_1, kRev_2, krg_1, krg2_1, krg1_1, kav_1, kav_2, krc_1, runFn_a, out_n, out_s, ini_a, iniL_n, iniL_0, iniL_e, sSeq_a, sSet_a, sPar_a, dNil_a, dCons_a, setAll_n, setAll_c, sIf_a, sRet_a, sExpr_a, sNext_a, sBreak_a, sCont_a, mC_a, mVar_a, mMove_a, fz_a, m1_a, m2_a, tst_a, tNot_a, tAnd_a, tOr_a, tYes_a, mAnd_a, mOr_a, mIf_a, mChain_a, mCall_a, mCallL_a, lNil_a, lCons_a, lLend_a, res_e, res_v, res_s, slot_0, slot_s, put_a, peek_a, lstAt_a, get_v, get_o, get_b, aNil_a, aCons_a, aStar_a, mTup_a, mLst_a, mB_a, mIxS_a, mLenS_a, mIsi_a, pNone_a, pSome_a, mSl_a, sFor_a, forL_n, forL_c, whN_s, gN_a, gT_a, gsC_a, gsN_a, sAsg_a, iSeq_a, sApp_a, sSetIx_a, mLc_a, lcL_n, lcL_c, wipe_n, wipe_c, rest_n, rest_c, allVal_n, allVal_c, mRev_a, mLRg_a, mLRg2_a, lt_int, le_int, gt_int, ge_int, sub_int, add_int, mod_int, fdiv_int, pow_int', mul_ok, eq_int, ne_int, neg_int, not_bl, abs_int, int_int, int_bl, max_2, min_2, max_3, min_3, len_l, len_t, len_s, lenB_l, lenB_t, lenB_s, ix_l, ix_t, ix_s, ixV_a, at_a, tuple_l, tuple_t, list_l, list_t, sum_l, all_l, any_l, isi_int, isi_bool, isi_tup, ix_fr0, ix_fr1, mul_l, cat_l, cat_t, sl_l, sl_t, sl_s, line, L2.ixN])
  simp [c_whole_power, cb_whole_power, kSeq_1, kSeq_2, kSeq_3, kSeq_4, kSet_1, kNx_1, kPar_1, kd2_1, kd1_1, kIf_1, kIf_2, kRt_1, kEx_1, kVar_1, kVar_2, kMov_1, kMov_2, kfz_1, kfz_2, kc_1, k1_1, k2b_1, k2a_1, kt_1, kn_1, kAnd_1, kAnd_2, kOr_1, kOr_2, kmA_1, kmA_2, kmO_1, kmO_2, kmI_1, kmI_2, kh4_1, kh3_1, kh3_2, kh2_1, kh1_1, kcb_1, kca_1, kL5_1, kL4_1, kL3_1, kL2_1, kL1_1, kl2_1, kl1_1, kl3_1, kr_1, krs_1, krs_2, kput_1, kput_2, kpk_1, klst_1, klst_2, kbor_1, ka2_1, ka1_1, ktup_1, kls_1, kB_1, kx3_1, kx2_1, kx1_1, kx4_1, kis2_1, kis_1, kp_1, ks3_1, ks2_1, ks1_1, kF_1, kF2_1, kF2_2, kF2_3, kF2_4, kF1_1, kW2_1, kW2_2, kW2_3, kW2_4, kW_1, kW_2, kg_1, ksa_1, ki_1, ki_2, ki_3, kap2_1, kap_1, ksx4_1, ksx3_1, ksx2_1, ksx1_1, kat_1, ko_1, kfin_1, kfin_2, klc2_1, klc_1, kC4_1, kC3_1, kC2_1, kC2_2, kC1_1, ksum_1, kst2_1, kst_1, kst_2, kRev_1, kRev_2, krg_1, krg2_1, krg1_1, kav_1, kav_2, krc_1, runFn_a, out_n, out_s, ini_a, iniL_n, iniL_0, iniL_e, sSeq_a, sSet_a, sPar_a, dNil_a, dCons_a, setAll_n, setAll_c, sIf_a, sRet_a, sExpr_a, sNext_a, sBreak_a, sCont_a, mC_a, mVar_a, mMove_a, fz_a, m1_a, m2_a, tst_a, tNot_a, tAnd_a, tOr_a, tYes_a, mAnd_a, mOr_a, mIf_a, mChain_a, mCall_a, mCallL_a, lNil_a, lCons_a, lLend_a, res_e, res_v, res_s, slot_0, slot_s, put_a, peek_a, lstAt_a, get_v, get_o, get_b, aNil_a, aCons_a, aStar_a, mTup_a, mLst_a, mB_a, mIxS_a, mLenS_a, mIsi_a, pNone_a, pSome_a, mSl_a, sFor_a, forL_n, forL_c, whN_s, gN_a, gT_a, gsC_a, gsN_a, sAsg_a, iSeq_a, sApp_a, sSetIx_a, mLc_a, lcL_n, lcL_c, wipe_n, wipe_c, rest_n, rest_c, allVal_n, allVal_c, mRev_a, mLRg_a, mLRg2_a, lt_int, le_int, gt_int, ge_int, sub_int, add_int, mod_int, fdiv_int, pow_int', mul_ok, eq_int, ne_int, neg_int, not_bl, abs_int, int_int, int_bl, max_2, min_2, max_3, min_3, len_l, len_t, len_s, lenB_l, lenB_t, lenB_s, ix_l, ix_t, ix_s, ixV_a, at_a, tuple_l, tuple_t, list_l, list_t, sum_l, all_l, any_l, isi_int, isi_bool, isi_tup, ix_fr0, ix_fr1, mul_l, cat_l, cat_t, sl_l, sl_t, sl_s, line, L2.ixN, hr, h]
end
end Cb

set_option Elab.async false
set_option linter.all false
set_option maxRecDepth 100000
/-! Binomials, checks, the drawing functions of the laws. -/
namespace Cb
open PySem L2
noncomputable section
theorem p63a : (2000001 : Int) ≤ 2 ^ 63 := by decide
/-! ### binomials -/
def ch : Nat → Nat → Nat
  | _, 0 => 1
  | 0, _ + 1 => 0
  | n + 1, k + 1 => ch n k + ch n (k + 1)
theorem ch_0 (n : Nat) : ch n 0 = 1 := by cases n <;> rfl
theorem ch_lt : ∀ {n k : Nat}, n < k → ch n k = 0
  | 0, k + 1, _ => rfl
  | n + 1, k + 1, h => by
    show ch n k + ch n (k + 1) = 0
    rw [ch_lt (by omega), ch_lt (by omega)]
theorem ch_self : ∀ n : Nat, ch n n = 1
  | 0 => rfl
  | n + 1 => by
    show ch n n + ch n (n + 1) = 1
    rw [ch_self n, ch_lt (by omega)]
theorem ch_step : ∀ (n k : Nat), ch n (k + 1) * (k + 1) = ch n k * (n - k)
  | 0, k => by cases k <;> simp [ch]
  | n + 1, 0 => by
    show (ch n 0 + ch n 1) * 1 = 1 * (n + 1)
    have := ch_step n 0
    rw [ch_0] at *
    simp at this ⊢; omega
  | n + 1, k + 1 => by
    show (ch n (k + 1) + ch n (k + 1 + 1)) * (k + 1 + 1) = (ch n k + ch n (k + 1)) * (n + 1 - (k + 1))
    have h1 := ch_step n k
    have h2 := ch_step n (k + 1)
    rw [Nat.add_mul, h2, Nat.add_mul, show n + 1 - (k + 1) = n - k by omega, ← h1, ← Nat.mul_add, ← Nat.mul_add]
    by_cases h : k < n
    · congr 1; omega
    · rw [ch_lt (n := n) (k := k + 1) (by omega)]; simp
theorem ch_symm : ∀ (s a b : Nat), a + b = s → ch (a + b) a = ch (a + b) b
  | 0, a, b, h => by
    have h1 : a = 0 := by omega
    have h2 : b = 0 := by omega
    rw [h1, h2]
  | s + 1, 0, b, h => by rw [ch_0, Nat.zero_add, ch_self]
  | s + 1, a + 1, 0, h => by rw [ch_0, Nat.add_zero, ch_self]
  | s + 1, a + 1, b + 1, h => by
    show ch (a + 1 + b) a + ch (a + 1 + b) (a + 1) = ch (a + 1 + b) b + ch (a + 1 + b) (b + 1)
    have h1 := ch_symm s (a + 1) b (by omega)
    have h2 := ch_symm s a (b + 1) (by omega)
    rw [show a + (b + 1) = a + 1 + b by omega] at h2
    rw [h1, h2]; omega
theorem ch_sub {n k : Nat} (h : k ≤ n) : ch n (n - k) = ch n k := by
  have := ch_symm n k (n - k) (by omega)
  rw [show k + (n - k) = n by omega] at this
  exact this.symm
theorem ch_le : ∀ (n k : Nat), ch n k ≤ 2 ^ n
  | n, 0 => by rw [ch_0]; exact Nat.one_le_two_pow
  | 0, k + 1 => by simp [ch]
  | n + 1, k + 1 => by
    show ch n k + ch n (k + 1) ≤ 2 ^ (n + 1)
    have := ch_le n k
    have := ch_le n (k + 1)
    rw [Nat.pow_succ]; omega
theorem ch_pos {n k : Nat} (h : k ≤ n) : 0 < ch n k := by
  induction n generalizing k with
  | zero => have : k = 0 := by omega
            subst this; simp [ch]
  | succ n ih =>
    cases k with
    | zero => rw [ch_0]; omega
    | succ k =>
      have := ih (k := k) (by omega)
      show 0 < ch n k + ch n (k + 1)
      omega
theorem ch_sz (n k : Nat) : Sz (n + 1) (ch n k : Int) := by
  unfold Sz
  have := ch_le n k
  rw [Nat.pow_succ]
  have : 0 < 2 ^ n := Nat.two_pow_pos n
  simp; omega
/-! ### ranges -/
theorem rangeD_0 (lo : Int) : rangeD lo 0 = [] := rfl
theorem rangeD_s (lo : Int) (n : Nat) : rangeD lo (n + 1) = .int lo :: rangeD (lo + 1) n := by
  unfold rangeD
  rw [List.range_succ_eq_map, List.map_cons, List.map_map]
  congr 1
  · simp
  · apply List.map_congr_left
    intro i _
    show D.int (lo + ((i + 1 : Nat) : Int)) = D.int (lo + 1 + (i : Int))
    congr 1; omega
theorem choose_loop {n : Nat} (hn : n < 400000) (sm : D) : ∀ (L j : Nat) (o : Option DV), j + L ≤ n → ∃ o',
    forL (gN 3) (sSet 2 (m2 dFdiv (m2 dMul (mVar 2) (m2 dSub (mVar 0) (mVar 3))) (m2 dAdd (mVar 3) (mC (.int 1))))) (rangeD (j : Int) L) [some (.val (.int n)), some (.val sm), some (.val (.int (ch n j))), o] = some (.nx [some (.val (.int n)), some (.val sm), some (.val (.int (ch n (j + L)))), o'])
  | 0, j, o, h => ⟨o, by simp [rangeD_0, kSeq_1, kSeq_2, kSeq_3, kSeq_4, kSet_1, kNx_1, kPar_1, kd2_1, kd1_1, kIf_1, kIf_2, kRt_1, kEx_1, kVar_1, kVar_2, kMov_1, kMov_2, kfz_1, kfz_2, kc_1, k1_1, k2b_1, k2a_1, kt_1, kn_1, kAnd_1, kAnd_2, kOr_1, kOr_2, kmA_1, kmA_2, kmO_1, kmO_2, kmI_1, kmI_2, kh4_1, kh3_1, kh3_2, kh2_1, kh1_1, kcb_1, kca_1, kL5_1, kL4_1, kL3_1, kL2_1, kL1_1, kl2_1, kl1_1, kl3_1, kr_1, krs_1, krs_2, kput_1, kput_2, kpk_1, klst_1, klst_2, kbor_1, ka2_1, ka1_1, ktup_1, kls_1, kB_1, kx3_1, kx2_1, kx1_1, kx4_1, kis2_1, kis_1, kp_1, ks3_1, ks2_1, ks1_1, kF_1, kF2_1, kF2_2, kF2_3, kF2_4, kF1_1, kW2_1, kW2_2, kW2_3, kW2_4, kW_1, kW_2, kg_1, ksa_1, ki_1, ki_2, ki_3, kap2_1, kap_1, ksx4_1, ksx3_1, ksx2_1, ksx1_1, kat_1, ko_1, kfin_1, kfin_2, klc2_1, klc_1, kC4_1, kC3_1, kC2_1, kC2_2, kC1_1, ksum_1, kst2_1, kst_1, kst_2, kRev_1, kRev_2, krg_1, krg2_1, krg1_1, kav_1, kav_2, krc_1, runFn_a, out_n, out_s, ini_a, iniL_n, iniL_0, iniL_e, sSeq_a, sSet_a, sPar_a, dNil_a, dCons_a, setAll_n, setAll_c, sIf_a, sRet_a, sExpr_a, sNext_a, sBreak_a, sCont_a, mC_a, mVar_a, mMove_a, fz_a, m1_a, m2_a, tst_a, tNot_a, tAnd_a, tOr_a, tYes_a, mAnd_a, mOr_a, mIf_a, mChain_a, mCall_a, mCallL_a, lNil_a, lCons_a, lLend_a, res_e, res_v, res_s, slot_0, slot_s, put_a, peek_a, lstAt_a, get_v, get_o, get_b, aNil_a, aCons_a, aStar_a, mTup_a, mLst_a, mB_a, mIxS_a, mLenS_a, mIsi_a, pNone_a, pSome_a, mSl_a, sFor_a, forL_n, forL_c, whN_s, gN_a, gT_a, gsC_a, gsN_a, sAsg_a, iSeq_a, sApp_a, sSetIx_a, mLc_a, lcL_n, lcL_c, wipe_n, wipe_c, rest_n, rest_c, allVal_n, allVal_c, mRev_a, mLRg_a, mLRg2_a, lt_int, le_int, gt_int, ge_int, sub_int, add_int, mod_int, fdiv_int, pow_int', mul_ok, eq_int, ne_int, neg_int, not_bl, abs_int, int_int, int_bl, max_2, min_2, max_3, min_3, len_l, len_t, len_s, lenB_l, lenB_t, lenB_s, ix_l, ix_t, ix_s, ixV_a, at_a, tuple_l, tuple_t, list_l, list_t, sum_l, all_l, any_l, isi_int, isi_bool, isi_tup, ix_fr0, ix_fr1, mul_l, cat_l, cat_t, sl_l, sl_t, sl_s, line, L2.ixN]⟩
  | L + 1, j, o, h => by
    obtain ⟨o', ih⟩ := choose_loop hn sm L (j + 1) (some (.val (.int j))) (by omega)
    refine ⟨o', ?_⟩
    have hs : Sz 30 ((n : Int) - j) := by unfold Sz; omega
    have hm : MulOk (ch n j : Int) ((n : Int) - j) := (ch_sz n j).mulOk hs (by omega)
    have hs2 : Sz 30 ((j : Int) + 1) := by unfold Sz; omega
    have hd : DivOk ((j : Int) + 1) := hs2.divOk (by omega)
    have e1 : ((ch n j : Int) * ((n : Int) - j)).fdiv ((j : Int) + 1) = (ch n (j + 1) : Int) := by
      have := ch_step n j
      have e2 : (ch n j : Int) * ((n : Int) - j) = (ch n (j + 1) : Int) * ((j : Int) + 1) := by
        rw [show (n : Int) - j = ((n - j : Nat) : Int) by omega, show (j : Int) + 1 = ((j + 1 : Nat) : Int) by omega, ← Int.natCast_mul, ← Int.natCast_mul, this]
      rw [e2, Int.mul_fdiv_cancel _ (by omega)]
    rw [rangeD_s, show j + (L + 1) = j + 1 + L by omega, ← ih]
    simp [kSeq_1, kSeq_2, kSeq_3, kSeq_4, kSet_1, kNx_1, kPar_1, kd2_1, kd1_1, kIf_1, kIf_2, kRt_1, kEx_1, kVar_1, kVar_2, kMov_1, kMov_2, kfz_1, kfz_2, kc_1, k1_1, k2b_1, k2a_1, kt_1, kn_1, kAnd_1, kAnd_2, kOr_1, kOr_2, kmA_1, kmA_2, kmO_1, kmO_2, kmI_1, kmI_2, kh4_1, kh3_1, kh3_2, kh2_1, kh1_1, kcb_1, kca_1, kL5_1, kL4_1, kL3_1, kL2_1, kL1_1, kl2_1, kl1_1, kl3_1, kr_1, krs_1, krs_2, kput_1, kput_2, kpk_1, klst_1, klst_2, kbor_1, ka2_1, ka1_1, ktup_1, kls_1, kB_1, kx3_1, kx2_1, kx1_1, kx4_1, kis2_1, kis_1, kp_1, ks3_1, ks2_1, ks1_1, kF_1, kF2_1, kF2_2, kF2_3, kF2_4, kF1_1, kW2_1, kW2_2, kW2_3, kW2_4, kW_1, kW_2, kg_1, ksa_1, ki_1, ki_2, ki_3, kap2_1, kap_1, ksx4_1, ksx3_1, ksx2_1, ksx1_1, kat_1, ko_1, kfin_1, kfin_2, klc2_1, klc_1, kC4_1, kC3_1, kC2_1, kC2_2, kC1_1, ksum_1, kst2_1, kst_1, kst_2, kRev_1, kRev_2, krg_1, krg2_1, krg1_1, kav_1, kav_2, krc_1, runFn_a, out_n, out_s, ini_a, iniL_n, iniL_0, iniL_e, sSeq_a, sSet_a, sPar_a, dNil_a, dCons_a, setAll_n, setAll_c, sIf_a, sRet_a, sExpr_a, sNext_a, sBreak_a, sCont_a, mC_a, mVar_a, mMove_a, fz_a, m1_a, m2_a, tst_a, tNot_a, tAnd_a, tOr_a, tYes_a, mAnd_a, mOr_a, mIf_a, mChain_a, mCall_a, mCallL_a, lNil_a, lCons_a, lLend_a, res_e, res_v, res_s, slot_0, slot_s, put_a, peek_a, lstAt_a, get_v, get_o, get_b, aNil_a, aCons_a, aStar_a, mTup_a, mLst_a, mB_a, mIxS_a, mLenS_a, mIsi_a, pNone_a, pSome_a, mSl_a, sFor_a, forL_n, forL_c, whN_s, gN_a, gT_a, gsC_a, gsN_a, sAsg_a, iSeq_a, sApp_a, sSetIx_a, mLc_a, lcL_n, lcL_c, wipe_n, wipe_c, rest_n, rest_c, allVal_n, allVal_c, mRev_a, mLRg_a, mLRg2_a, lt_int, le_int, gt_int, ge_int, sub_int, add_int, mod_int, fdiv_int, pow_int', mul_ok, eq_int, ne_int, neg_int, not_bl, abs_int, int_int, int_bl, max_2, min_2, max_3, min_3, len_l, len_t, len_s, lenB_l, lenB_t, lenB_s, ix_l, ix_t, ix_s, ixV_a, at_a, tuple_l, tuple_t, list_l, list_t, sum_l, all_l, any_l, isi_int, isi_bool, isi_tup, ix_fr0, ix_fr1, mul_l, cat_l, cat_t, sl_l, sl_t, sl_s, line, L2.ixN, hm, hd, e1]
theorem choose_of_ok {n k : Nat} (hn : n < 400000) : c_choose_of [.int n, .int k] = ok (.int (ch n k)) := by
  by_cases h : k ≤ n
  · obtain ⟨o', hl⟩ := choose_loop hn (.int k) (min k (n - k)) 0 none (by omega)
    have hm : min (k : Int) ((n : Int) - k) = ((min k (n - k) : Nat) : Int) := by omega
    have hr := range_D (min k (n - k)) (by omega) [some (.val (.int n)), some (.val (.int k)), some (.val (.int 1)), none] [some (.val (.int n)), some (.val (.int k)), some (.val (.int 1)), none] (aCons (mB dMin (aCons (mVar 1) (aCons (m2 dSub (mVar 0) (mVar 1)) aNil))) aNil) (by simp only [kSeq_1, kSeq_2, kSeq_3, kSeq_4, kSet_1, kNx_1, kPar_1, kd2_1, kd1_1, kIf_1, kIf_2, kRt_1, kEx_1, kVar_1, kVar_2, kMov_1, kMov_2, kfz_1, kfz_2, kc_1, k1_1, k2b_1, k2a_1, kt_1, kn_1, kAnd_1, kAnd_2, kOr_1, kOr_2, kmA_1, kmA_2, kmO_1, kmO_2, kmI_1, kmI_2, kh4_1, kh3_1, kh3_2, kh2_1, kh1_1, kcb_1, kca_1, kL5_1, kL4_1, kL3_1, kL2_1, kL1_1, kl2_1, kl1_1, kl3_1, kr_1, krs_1, krs_2, kput_1, kput_2, kpk_1, klst_1, klst_2, kbor_1, ka2_1, ka1_1, ktup_1, kls_1, kB_1, kx3_1, kx2_1, kx1_1, kx4_1, kis2_1, kis_1, kp_1, ks3_1, ks2_1, ks1_1, kF_1, kF2_1, kF2_2, kF2_3, kF2_4, kF1_1, kW2_1, kW2_2, kW2_3, kW2_4, kW_1, kW_2, kg_1, ksa_1, ki_1, ki_2, ki_3, kap2_1, kap_1, ksx4_1, ksx3_1, ksx2_1, ksx1_1, kat_1, ko_1, kfin_1, kfin_2, klc2_1, klc_1, kC4_1, kC3_1, kC2_1, kC2_2, kC1_1, ksum_1, kst2_1, kst_1, kst_2, kRev_1, kRev_2, krg_1, krg2_1, krg1_1, kav_1, kav_2, krc_1, runFn_a, out_n, out_s, ini_a, iniL_n, iniL_0, iniL_e, sSeq_a, sSet_a, sPar_a, dNil_a, dCons_a, setAll_n, setAll_c, sIf_a, sRet_a, sExpr_a, sNext_a, sBreak_a, sCont_a, mC_a, mVar_a, mMove_a, fz_a, m1_a, m2_a, tst_a, tNot_a, tAnd_a, tOr_a, tYes_a, mAnd_a, mOr_a, mIf_a, mChain_a, mCall_a, mCallL_a, lNil_a, lCons_a, lLend_a, res_e, res_v, res_s, slot_0, slot_s, put_a, peek_a, lstAt_a, get_v, get_o, get_b, aNil_a, aCons_a, aStar_a, mTup_a, mLst_a, mB_a, mIxS_a, mLenS_a, mIsi_a, pNone_a, pSome_a, mSl_a, sFor_a, forL_n, forL_c, whN_s, gN_a, gT_a, gsC_a, gsN_a, sAsg_a, iSeq_a, sApp_a, sSetIx_a, mLc_a, lcL_n, lcL_c, wipe_n, wipe_c, rest_n, rest_c, allVal_n, allVal_c, mRev_a, mLRg_a, mLRg2_a, lt_int, le_int, gt_int, ge_int, sub_int, add_int, mod_int, fdiv_int, pow_int', mul_ok, eq_int, ne_int, neg_int, not_bl, abs_int, int_int, int_bl, max_2, min_2, max_3, min_3, len_l, len_t, len_s, lenB_l, lenB_t, lenB_s, ix_l, ix_t, ix_s, ixV_a, at_a, tuple_l, tuple_t, list_l, list_t, sum_l, all_l, any_l, isi_int, isi_bool, isi_tup, ix_fr0, ix_fr1, mul_l, cat_l, cat_t, sl_l, sl_t, sl_s, line, L2.ixN, hm, List.getElem?_cons_succ, List.getElem?_cons_zero])
    have e : ch n (0 + min k (n - k)) = ch n k := by
      rw [Nat.zero_add]
      by_cases h2 : k ≤ n - k
      · rw [Nat.min_eq_left h2]
      · rw [Nat.min_eq_right (by omega), ch_sub h]
    rw [ch_0] at hl
    simp only [e] at hl
    have c1 : (k : Int) ≤ n := by omega
    simp [c_choose_of, cb_choose_of, kSeq_1, kSeq_2, kSeq_3, kSeq_4, kSet_1, kNx_1, kPar_1, kd2_1, kd1_1, kIf_1, kIf_2, kRt_1, kEx_1, kVar_1, kVar_2, kMov_1, kMov_2, kfz_1, kfz_2, kc_1, k1_1, k2b_1, k2a_1, kt_1, kn_1, kAnd_1, kAnd_2, kOr_1, kOr_2, kmA_1, kmA_2, kmO_1, kmO_2, kmI_1, kmI_2, kh4_1, kh3_1, kh3_2, kh2_1, kh1_1, kcb_1, kca_1, kL5_1, kL4_1, kL3_1, kL2_1, kL1_1, kl2_1, kl1_1, kl3_1, kr_1, krs_1, krs_2, kput_1, kput_2, kpk_1, klst_1, klst_2, kbor_1, ka2_1, ka1_1, ktup_1, kls_1, kB_1, kx3_1, kx2_1, kx1_1, kx4_1, kis2_1, kis_1, kp_1, ks3_1, ks2_1, ks1_1, kF_1, kF2_1, kF2_2, kF2_3, kF2_4, kF1_1, kW2_1, kW2_2, kW2_3, kW2_4, kW_1, kW_2, kg_1, ksa_1, ki_1, ki_2, ki_3, kap2_1, kap_1, ksx4_1, ksx3_1, ksx2_1, ksx1_1, kat_1, ko_1, kfin_1, kfin_2, klc2_1, klc_1, kC4_1, kC3_1, kC2_1, kC2_2, kC1_1, ksum_1, kst2_1, kst_1, kst_2, kRev_1, kRev_2, krg_1, krg2_1, krg1_1, kav_1, kav_2, krc_1, runFn_a, out_n, out_s, ini_a, iniL_n, iniL_0, iniL_e, sSeq_a, sSet_a, sPar_a, dNil_a, dCons_a, setAll_n, setAll_c, sIf_a, sRet_a, sExpr_a, sNext_a, sBreak_a, sCont_a, mC_a, mVar_a, mMove_a, fz_a, m1_a, m2_a, tst_a, tNot_a, tAnd_a, tOr_a, tYes_a, mAnd_a, mOr_a, mIf_a, mChain_a, mCall_a, mCallL_a, lNil_a, lCons_a, lLend_a, res_e, res_v, res_s, slot_0, slot_s, put_a, peek_a, lstAt_a, get_v, get_o, get_b, aNil_a, aCons_a, aStar_a, mTup_a, mLst_a, mB_a, mIxS_a, mLenS_a, mIsi_a, pNone_a, pSome_a, mSl_a, sFor_a, forL_n, forL_c, whN_s, gN_a, gT_a, gsC_a, gsN_a, sAsg_a, iSeq_a, sApp_a, sSetIx_a, mLc_a, lcL_n, lcL_c, wipe_n, wipe_c, rest_n, rest_c, allVal_n, allVal_c, mRev_a, mLRg_a, mLRg2_a, lt_int, le_int, gt_int, ge_int, sub_int, add_int, mod_int, fdiv_int, pow_int', mul_ok, eq_int, ne_int, neg_int, not_bl, abs_int, int_int, int_bl, max_2, min_2, max_3, min_3, len_l, len_t, len_s, lenB_l, lenB_t, lenB_s, ix_l, ix_t, ix_s, ixV_a, at_a, tuple_l, tuple_t, list_l, list_t, sum_l, all_l, any_l, isi_int, isi_bool, isi_tup, ix_fr0, ix_fr1, mul_l, cat_l, cat_t, sl_l, sl_t, sl_s, line, L2.ixN, c1, hr]
    simpa [kSeq_1, kSeq_2, kSeq_3, kSeq_4, kSet_1, kNx_1, kPar_1, kd2_1, kd1_1, kIf_1, kIf_2, kRt_1, kEx_1, kVar_1, kVar_2, kMov_1, kMov_2, kfz_1, kfz_2, kc_1, k1_1, k2b_1, k2a_1, kt_1, kn_1, kAnd_1, kAnd_2, kOr_1, kOr_2, kmA_1, kmA_2, kmO_1, kmO_2, kmI_1, kmI_2, kh4_1, kh3_1, kh3_2, kh2_1, kh1_1, kcb_1, kca_1, kL5_1, kL4_1, kL3_1, kL2_1, kL1_1, kl2_1, kl1_1, kl3_1, kr_1, krs_1, krs_2, kput_1, kput_2, kpk_1, klst_1, klst_2, kbor_1, ka2_1, ka1_1, ktup_1, kls_1, kB_1, kx3_1, kx2_1, kx1_1, kx4_1, kis2_1, kis_1, kp_1, ks3_1, ks2_1, ks1_1, kF_1, kF2_1, kF2_2, kF2_3, kF2_4, kF1_1, kW2_1, kW2_2, kW2_3, kW2_4, kW_1, kW_2, kg_1, ksa_1, ki_1, ki_2, ki_3, kap2_1, kap_1, ksx4_1, ksx3_1, ksx2_1, ksx1_1, kat_1, ko_1, kfin_1, kfin_2, klc2_1, klc_1, kC4_1, kC3_1, kC2_1, kC2_2, kC1_1, ksum_1, kst2_1, kst_1, kst_2, kRev_1, kRev_2, krg_1, krg2_1, krg1_1, kav_1, kav_2, krc_1, runFn_a, out_n, out_s, ini_a, iniL_n, iniL_0, iniL_e, sSeq_a, sSet_a, sPar_a, dNil_a, dCons_a, setAll_n, setAll_c, sIf_a, sRet_a, sExpr_a, sNext_a, sBreak_a, sCont_a, mC_a, mVar_a, mMove_a, fz_a, m1_a, m2_a, tst_a, tNot_a, tAnd_a, tOr_a, tYes_a, mAnd_a, mOr_a, mIf_a, mChain_a, mCall_a, mCallL_a, lNil_a, lCons_a, lLend_a, res_e, res_v, res_s, slot_0, slot_s, put_a, peek_a, lstAt_a, get_v, get_o, get_b, aNil_a, aCons_a, aStar_a, mTup_a, mLst_a, mB_a, mIxS_a, mLenS_a, mIsi_a, pNone_a, pSome_a, mSl_a, sFor_a, forL_n, forL_c, whN_s, gN_a, gT_a, gsC_a, gsN_a, sAsg_a, iSeq_a, sApp_a, sSetIx_a, mLc_a, lcL_n, lcL_c, wipe_n, wipe_c, rest_n, rest_c, allVal_n, allVal_c, mRev_a, mLRg_a, mLRg2_a, lt_int, le_int, gt_int, ge_int, sub_int, add_int, mod_int, fdiv_int, pow_int', mul_ok, eq_int, ne_int, neg_int, not_bl, abs_int, int_int, int_bl, max_2, min_2, max_3, min_3, len_l, len_t, len_s, lenB_l, lenB_t, lenB_s, ix_l, ix_t, ix_s, ixV_a, at_a, tuple_l, tuple_t, list_l, list_t, sum_l, all_l, any_l, isi_int, isi_bool, isi_tup, ix_fr0, ix_fr1, mul_l, cat_l, cat_t, sl_l, sl_t, sl_s, line, L2.ixN] using congrArg (fun r => kfin none (kSeq r (sRet (mMove 2)))) hl
  · have c1 : ¬ ((k : Int) ≤ n) := by omega
    rw [ch_lt (by omega)]
    simp [c_choose_of, cb_choose_of, kSeq_1, kSeq_2, kSeq_3, kSeq_4, kSet_1, kNx_1, kPar_1, kd2_1, kd1_1, kIf_1, kIf_2, kRt_1, kEx_1, kVar_1, kVar_2, kMov_1, kMov_2, kfz_1, kfz_2, kc_1, k1_1, k2b_1, k2a_1, kt_1, kn_1, kAnd_1, kAnd_2, kOr_1, kOr_2, kmA_1, kmA_2, kmO_1, kmO_2, kmI_1, kmI_2, kh4_1, kh3_1, kh3_2, kh2_1, kh1_1, kcb_1, kca_1, kL5_1, kL4_1, kL3_1, kL2_1, kL1_1, kl2_1, kl1_1, kl3_1, kr_1, krs_1, krs_2, kput_1, kput_2, kpk_1, klst_1, klst_2, kbor_1, ka2_1, ka1_1, ktup_1, kls_1, kB_1, kx3_1, kx2_1, kx1_1, kx4_1, kis2_1, kis_1, kp_1, ks3_1, ks2_1, ks1_1, kF_1, kF2_1, kF2_2, kF2_3, kF2_4, kF1_1, kW2_1, kW2_2, kW2_3, kW2_4, kW_1, kW_2, kg_1, ksa_1, ki_1, ki_2, ki_3, kap2_1, kap_1, ksx4_1, ksx3_1, ksx2_1, ksx1_1, kat_1, ko_1, kfin_1, kfin_2, klc2_1, klc_1, kC4_1, kC3_1, kC2_1, kC2_2, kC1_1, ksum_1, kst2_1, kst_1, kst_2, kRev_1, kRev_2, krg_1, krg2_1, krg1_1, kav_1, kav_2, krc_1, runFn_a, out_n, out_s, ini_a, iniL_n, iniL_0, iniL_e, sSeq_a, sSet_a, sPar_a, dNil_a, dCons_a, setAll_n, setAll_c, sIf_a, sRet_a, sExpr_a, sNext_a, sBreak_a, sCont_a, mC_a, mVar_a, mMove_a, fz_a, m1_a, m2_a, tst_a, tNot_a, tAnd_a, tOr_a, tYes_a, mAnd_a, mOr_a, mIf_a, mChain_a, mCall_a, mCallL_a, lNil_a, lCons_a, lLend_a, res_e, res_v, res_s, slot_0, slot_s, put_a, peek_a, lstAt_a, get_v, get_o, get_b, aNil_a, aCons_a, aStar_a, mTup_a, mLst_a, mB_a, mIxS_a, mLenS_a, mIsi_a, pNone_a, pSome_a, mSl_a, sFor_a, forL_n, forL_c, whN_s, gN_a, gT_a, gsC_a, gsN_a, sAsg_a, iSeq_a, sApp_a, sSetIx_a, mLc_a, lcL_n, lcL_c, wipe_n, wipe_c, rest_n, rest_c, allVal_n, allVal_c, mRev_a, mLRg_a, mLRg2_a, lt_int, le_int, gt_int, ge_int, sub_int, add_int, mod_int, fdiv_int, pow_int', mul_ok, eq_int, ne_int, neg_int, not_bl, abs_int, int_int, int_bl, max_2, min_2, max_3, min_3, len_l, len_t, len_s, lenB_l, lenB_t, lenB_s, ix_l, ix_t, ix_s, ixV_a, at_a, tuple_l, tuple_t, list_l, list_t, sum_l, all_l, any_l, isi_int, isi_bool, isi_tup, ix_fr0, ix_fr1, mul_l, cat_l, cat_t, sl_l, sl_t, sl_s, line, L2.ixN, c1]
theorem choose_of_neg {n k : Int} (h : k < 0) : c_choose_of [.int n, .int k] = ok (.int 0) := by
  have c1 : ¬ (0 ≤ k) := by omega
  simp [c_choose_of, cb_choose_of, kSeq_1, kSeq_2, kSeq_3, kSeq_4, kSet_1, kNx_1, kPar_1, kd2_1, kd1_1, kIf_1, kIf_2, kRt_1, kEx_1, kVar_1, kVar_2, kMov_1, kMov_2, kfz_1, kfz_2, kc_1, k1_1, k2b_1, k2a_1, kt_1, kn_1, kAnd_1, kAnd_2, kOr_1, kOr_2, kmA_1, kmA_2, kmO_1, kmO_2, kmI_1, kmI_2, kh4_1, kh3_1, kh3_2, kh2_1, kh1_1, kcb_1, kca_1, kL5_1, kL4_1, kL3_1, kL2_1, kL1_1, kl2_1, kl1_1, kl3_1, kr_1, krs_1, krs_2, kput_1, kput_2, kpk_1, klst_1, klst_2, kbor_1, ka2_1, ka1_1, ktup_1, kls_1, kB_1, kx3_1, kx2_1, kx1_1, kx4_1, kis2_1, kis_1, kp_1, ks3_1, ks2_1, ks1_1, kF_1, kF2_1, kF2_2, kF2_3, kF2_4, kF1_1, kW2_1, kW2_2, kW2_3, kW2_4, kW_1, kW_2, kg_1, ksa_1, ki_1, ki_2, ki_3, kap2_1, kap_1, ksx4_1, ksx3_1, ksx2_1, ksx1_1, kat_1, ko_1, kfin_1, kfin_2, klc2_1, klc_1, kC4_1, kC3_1, kC2_1, kC2_2, kC1_1, ksum_1, kst2_1, kst_1, kst_2, kRev_1, kRev_2, krg_1, krg2_1, krg1_1, kav_1, kav_2, krc_1, runFn_a, out_n, out_s, ini_a, iniL_n, iniL_0, iniL_e, sSeq_a, sSet_a, sPar_a, dNil_a, dCons_a, setAll_n, setAll_c, sIf_a, sRet_a, sExpr_a, sNext_a, sBreak_a, sCont_a, mC_a, mVar_a, mMove_a, fz_a, m1_a, m2_a, tst_a, tNot_a, tAnd_a, tOr_a, tYes_a, mAnd_a, mOr_a, mIf_a, mChain_a, mCall_a, mCallL_a, lNil_a, lCons_a, lLend_a, res_e, res_v, res_s, slot_0, slot_s, put_a, peek_a, lstAt_a, get_v, get_o, get_b, aNil_a, aCons_a, aStar_a, mTup_a, mLst_a, mB_a, mIxS_a, mLenS_a, mIsi_a, pNone_a, pSome_a, mSl_a, sFor_a, forL_n, forL_c, whN_s, gN_a, gT_a, gsC_a, gsN_a, sAsg_a, iSeq_a, sApp_a, sSetIx_a, mLc_a, lcL_n, lcL_c, wipe_n, wipe_c, rest_n, rest_c, allVal_n, allVal_c, mRev_a, mLRg_a, mLRg2_a, lt_int, le_int, gt_int, ge_int, sub_int, add_int, mod_int, fdiv_int, pow_int', mul_ok, eq_int, ne_int, neg_int, not_bl, abs_int, int_int, int_bl, max_2, min_2, max_3, min_3, len_l, len_t, len_s, lenB_l, lenB_t, lenB_s, ix_l, ix_t, ix_s, ixV_a, at_a, tuple_l, tuple_t, list_l, list_t, sum_l, all_l, any_l, isi_int, isi_bool, isi_tup, ix_fr0, ix_fr1, mul_l, cat_l, cat_t, sl_l, sl_t, sl_s, line, L2.ixN, c1]
/-! ### checks -/
theorem is_whole_ok (i : Int) : c_is_whole [.int i] = ok (.bl true) := by
  simp [c_is_whole, cb_is_whole, kSeq_1, kSeq_2, kSeq_3, kSeq_4, kSet_1, kNx_1, kPar_1, kd2_1, kd1_1, kIf_1, kIf_2, kRt_1, kEx_1, kVar_1, kVar_2, kMov_1, kMov_2, kfz_1, kfz_2, kc_1, k1_1, k2b_1, k2a_1, kt_1, kn_1, kAnd_1, kAnd_2, kOr_1, kOr_2, kmA_1, kmA_2, kmO_1, kmO_2, kmI_1, kmI_2, kh4_1, kh3_1, kh3_2, kh2_1, kh1_1, kcb_1, kca_1, kL5_1, kL4_1, kL3_1, kL2_1, kL1_1, kl2_1, kl1_1, kl3_1, kr_1, krs_1, krs_2, kput_1, kput_2, kpk_1, klst_1, klst_2, kbor_1, ka2_1, ka1_1, ktup_1, kls_1, kB_1, kx3_1, kx2_1, kx1_1, kx4_1, kis2_1, kis_1, kp_1, ks3_1, ks2_1, ks1_1, kF_1, kF2_1, kF2_2, kF2_3, kF2_4, kF1_1, kW2_1, kW2_2, kW2_3, kW2_4, kW_1, kW_2, kg_1, ksa_1, ki_1, ki_2, ki_3, kap2_1, kap_1, ksx4_1, ksx3_1, ksx2_1, ksx1_1, kat_1, ko_1, kfin_1, kfin_2, klc2_1, klc_1, kC4_1, kC3_1, kC2_1, kC2_2, kC1_1, ksum_1, kst2_1, kst_1, kst_2, kRev_1, kRev_2, krg_1, krg2_1, krg1_1, kav_1, kav_2, krc_1, runFn_a, out_n, out_s, ini_a, iniL_n, iniL_0, iniL_e, sSeq_a, sSet_a, sPar_a, dNil_a, dCons_a, setAll_n, setAll_c, sIf_a, sRet_a, sExpr_a, sNext_a, sBreak_a, sCont_a, mC_a, mVar_a, mMove_a, fz_a, m1_a, m2_a, tst_a, tNot_a, tAnd_a, tOr_a, tYes_a, mAnd_a, mOr_a, mIf_a, mChain_a, mCall_a, mCallL_a, lNil_a, lCons_a, lLend_a, res_e, res_v, res_s, slot_0, slot_s, put_a, peek_a, lstAt_a, get_v, get_o, get_b, aNil_a, aCons_a, aStar_a, mTup_a, mLst_a, mB_a, mIxS_a, mLenS_a, mIsi_a, pNone_a, pSome_a, mSl_a, sFor_a, forL_n, forL_c, whN_s, gN_a, gT_a, gsC_a, gsN_a, sAsg_a, iSeq_a, sApp_a, sSetIx_a, mLc_a, lcL_n, lcL_c, wipe_n, wipe_c, rest_n, rest_c, allVal_n, allVal_c, mRev_a, mLRg_a, mLRg2_a, lt_int, le_int, gt_int, ge_int, sub_int, add_int, mod_int, fdiv_int, pow_int', mul_ok, eq_int, ne_int, neg_int, not_bl, abs_int, int_int, int_bl, max_2, min_2, max_3, min_3, len_l, len_t, len_s, lenB_l, lenB_t, lenB_s, ix_l, ix_t, ix_s, ixV_a, at_a, tuple_l, tuple_t, list_l, list_t, sum_l, all_l, any_l, isi_int, isi_bool, isi_tup, ix_fr0, ix_fr1, mul_l, cat_l, cat_t, sl_l, sl_t, sl_s, line, L2.ixN]
theorem is_integer_ok (i lo hi : Int) : c_is_integer [.int i, .int lo, .int hi] = ok (.bl (decide (lo ≤ i ∧ i ≤ hi))) := by
  by_cases h : lo ≤ i
  · simp [c_is_integer, cb_is_integer, kSeq_1, kSeq_2, kSeq_3, kSeq_4, kSet_1, kNx_1, kPar_1, kd2_1, kd1_1, kIf_1, kIf_2, kRt_1, kEx_1, kVar_1, kVar_2, kMov_1, kMov_2, kfz_1, kfz_2, kc_1, k1_1, k2b_1, k2a_1, kt_1, kn_1, kAnd_1, kAnd_2, kOr_1, kOr_2, kmA_1, kmA_2, kmO_1, kmO_2, kmI_1, kmI_2, kh4_1, kh3_1, kh3_2, kh2_1, kh1_1, kcb_1, kca_1, kL5_1, kL4_1, kL3_1, kL2_1, kL1_1, kl2_1, kl1_1, kl3_1, kr_1, krs_1, krs_2, kput_1, kput_2, kpk_1, klst_1, klst_2, kbor_1, ka2_1, ka1_1, ktup_1, kls_1, kB_1, kx3_1, kx2_1, kx1_1, kx4_1, kis2_1, kis_1, kp_1, ks3_1, ks2_1, ks1_1, kF_1, kF2_1, kF2_2, kF2_3, kF2_4, kF1_1, kW2_1, kW2_2, kW2_3, kW2_4, kW_1, kW_2, kg_1, ksa_1, ki_1, ki_2, ki_3, kap2_1, kap_1, ksx4_1, ksx3_1, ksx2_1, ksx1_1, kat_1, ko_1, kfin_1, kfin_2, klc2_1, klc_1, kC4_1, kC3_1, kC2_1, kC2_2, kC1_1, ksum_1, kst2_1, kst_1, kst_2, kRev_1, kRev_2, krg_1, krg2_1, krg1_1, kav_1, kav_2, krc_1, runFn_a, out_n, out_s, ini_a, iniL_n, iniL_0, iniL_e, sSeq_a, sSet_a, sPar_a, dNil_a, dCons_a, setAll_n, setAll_c, sIf_a, sRet_a, sExpr_a, sNext_a, sBreak_a, sCont_a, mC_a, mVar_a, mMove_a, fz_a, m1_a, m2_a, tst_a, tNot_a, tAnd_a, tOr_a, tYes_a, mAnd_a, mOr_a, mIf_a, mChain_a, mCall_a, mCallL_a, lNil_a, lCons_a, lLend_a, res_e, res_v, res_s, slot_0, slot_s, put_a, peek_a, lstAt_a, get_v, get_o, get_b, aNil_a, aCons_a, aStar_a, mTup_a, mLst_a, mB_a, mIxS_a, mLenS_a, mIsi_a, pNone_a, pSome_a, mSl_a, sFor_a, forL_n, forL_c, whN_s, gN_a, gT_a, gsC_a, gsN_a, sAsg_a, iSeq_a, sApp_a, sSetIx_a, mLc_a, lcL_n, lcL_c, wipe_n, wipe_c, rest_n, rest_c, allVal_n, allVal_c, mRev_a, mLRg_a, mLRg2_a, lt_int, le_int, gt_int, ge_int, sub_int, add_int, mod_int, fdiv_int, pow_int', mul_ok, eq_int, ne_int, neg_int, not_bl, abs_int, int_int, int_bl, max_2, min_2, max_3, min_3, len_l, len_t, len_s, lenB_l, lenB_t, lenB_s, ix_l, ix_t, ix_s, ixV_a, at_a, tuple_l, tuple_t, list_l, list_t, sum_l, all_l, any_l, isi_int, isi_bool, isi_tup, ix_fr0, ix_fr1, mul_l, cat_l, cat_t, sl_l, sl_t, sl_s, line, L2.ixN, is_whole_ok, h]
  · simp [c_is_integer, cb_is_integer, kSeq_1, kSeq_2, kSeq_3, kSeq_4, kSet_1, kNx_1, kPar_1, kd2_1, kd1_1, kIf_1, kIf_2, kRt_1, kEx_1, kVar_1, kVar_2, kMov_1, kMov_2, kfz_1, kfz_2, kc_1, k1_1, k2b_1, k2a_1, kt_1, kn_1, kAnd_1, kAnd_2, kOr_1, kOr_2, kmA_1, kmA_2, kmO_1, kmO_2, kmI_1, kmI_2, kh4_1, kh3_1, kh3_2, kh2_1, kh1_1, kcb_1, kca_1, kL5_1, kL4_1, kL3_1, kL2_1, kL1_1, kl2_1, kl1_1, kl3_1, kr_1, krs_1, krs_2, kput_1, kput_2, kpk_1, klst_1, klst_2, kbor_1, ka2_1, ka1_1, ktup_1, kls_1, kB_1, kx3_1, kx2_1, kx1_1, kx4_1, kis2_1, kis_1, kp_1, ks3_1, ks2_1, ks1_1, kF_1, kF2_1, kF2_2, kF2_3, kF2_4, kF1_1, kW2_1, kW2_2, kW2_3, kW2_4, kW_1, kW_2, kg_1, ksa_1, ki_1, ki_2, ki_3, kap2_1, kap_1, ksx4_1, ksx3_1, ksx2_1, ksx1_1, kat_1, ko_1, kfin_1, kfin_2, klc2_1, klc_1, kC4_1, kC3_1, kC2_1, kC2_2, kC1_1, ksum_1, kst2_1, kst_1, kst_2, kRev_1, kRev_2, krg_1, krg2_1, krg1_1, kav_1, kav_2, krc_1, runFn_a, out_n, out_s, ini_a, iniL_n, iniL_0, iniL_e, sSeq_a, sSet_a, sPar_a, dNil_a, dCons_a, setAll_n, setAll_c, sIf_a, sRet_a, sExpr_a, sNext_a, sBreak_a, sCont_a, mC_a, mVar_a, mMove_a, fz_a, m1_a, m2_a, tst_a, tNot_a, tAnd_a, tOr_a, tYes_a, mAnd_a, mOr_a, mIf_a, mChain_a, mCall_a, mCallL_a, lNil_a, lCons_a, lLend_a, res_e, res_v, res_s, slot_0, slot_s, put_a, peek_a, lstAt_a, get_v, get_o, get_b, aNil_a, aCons_a, aStar_a, mTup_a, mLst_a, mB_a, mIxS_a, mLenS_a, mIsi_a, pNone_a, pSome_a, mSl_a, sFor_a, forL_n, forL_c, whN_s, gN_a, gT_a, gsC_a, gsN_a, sAsg_a, iSeq_a, sApp_a, sSetIx_a, mLc_a, lcL_n, lcL_c, wipe_n, wipe_c, rest_n, rest_c, allVal_n, allVal_c, mRev_a, mLRg_a, mLRg2_a, lt_int, le_int, gt_int, ge_int, sub_int, add_int, mod_int, fdiv_int, pow_int', mul_ok, eq_int, ne_int, neg_int, not_bl, abs_int, int_int, int_bl, max_2, min_2, max_3, min_3, len_l, len_t, len_s, lenB_l, lenB_t, lenB_s, ix_l, ix_t, ix_s, ixV_a, at_a, tuple_l, tuple_t, list_l, list_t, sum_l, all_l, any_l, isi_int, isi_bool, isi_tup, ix_fr0, ix_fr1, mul_l, cat_l, cat_t, sl_l, sl_t, sl_s, line, L2.ixN, is_whole_ok, h]
theorem is_tuple_ok {ds : List D} (lo hi : Int) : c_is_tuple [.tup ds, .int lo, .int hi] = ok (.bl (decide (lo ≤ ds.length ∧ (ds.length : Int) ≤ hi))) := by
  by_cases h : lo ≤ ds.length
  · simp [c_is_tuple, cb_is_tuple, kSeq_1, kSeq_2, kSeq_3, kSeq_4, kSet_1, kNx_1, kPar_1, kd2_1, kd1_1, kIf_1, kIf_2, kRt_1, kEx_1, kVar_1, kVar_2, kMov_1, kMov_2, kfz_1, kfz_2, kc_1, k1_1, k2b_1, k2a_1, kt_1, kn_1, kAnd_1, kAnd_2, kOr_1, kOr_2, kmA_1, kmA_2, kmO_1, kmO_2, kmI_1, kmI_2, kh4_1, kh3_1, kh3_2, kh2_1, kh1_1, kcb_1, kca_1, kL5_1, kL4_1, kL3_1, kL2_1, kL1_1, kl2_1, kl1_1, kl3_1, kr_1, krs_1, krs_2, kput_1, kput_2, kpk_1, klst_1, klst_2, kbor_1, ka2_1, ka1_1, ktup_1, kls_1, kB_1, kx3_1, kx2_1, kx1_1, kx4_1, kis2_1, kis_1, kp_1, ks3_1, ks2_1, ks1_1, kF_1, kF2_1, kF2_2, kF2_3, kF2_4, kF1_1, kW2_1, kW2_2, kW2_3, kW2_4, kW_1, kW_2, kg_1, ksa_1, ki_1, ki_2, ki_3, kap2_1, kap_1, ksx4_1, ksx3_1, ksx2_1, ksx1_1, kat_1, ko_1, kfin_1, kfin_2, klc2_1, klc_1, kC4_1, kC3_1, kC2_1, kC2_2, kC1_1, ksum_1, kst2_1, kst_1, kst_2, kRev_1, kRev_2, krg_1, krg2_1, krg1_1, kav_1, kav_2, krc_1, runFn_a, out_n, out_s, ini_a, iniL_n, iniL_0, iniL_e, sSeq_a, sSet_a, sPar_a, dNil_a, dCons_a, setAll_n, setAll_c, sIf_a, sRet_a, sExpr_a, sNext_a, sBreak_a, sCont_a, mC_a, mVar_a, mMove_a, fz_a, m1_a, m2_a, tst_a, tNot_a, tAnd_a, tOr_a, tYes_a, mAnd_a, mOr_a, mIf_a, mChain_a, mCall_a, mCallL_a, lNil_a, lCons_a, lLend_a, res_e, res_v, res_s, slot_0, slot_s, put_a, peek_a, lstAt_a, get_v, get_o, get_b, aNil_a, aCons_a, aStar_a, mTup_a, mLst_a, mB_a, mIxS_a, mLenS_a, mIsi_a, pNone_a, pSome_a, mSl_a, sFor_a, forL_n, forL_c, whN_s, gN_a, gT_a, gsC_a, gsN_a, sAsg_a, iSeq_a, sApp_a, sSetIx_a, mLc_a, lcL_n, lcL_c, wipe_n, wipe_c, rest_n, rest_c, allVal_n, allVal_c, mRev_a, mLRg_a, mLRg2_a, lt_int, le_int, gt_int, ge_int, sub_int, add_int, mod_int, fdiv_int, pow_int', mul_ok, eq_int, ne_int, neg_int, not_bl, abs_int, int_int, int_bl, max_2, min_2, max_3, min_3, len_l, len_t, len_s, lenB_l, lenB_t, lenB_s, ix_l, ix_t, ix_s, ixV_a, at_a, tuple_l, tuple_t, list_l, list_t, sum_l, all_l, any_l, isi_int, isi_bool, isi_tup, ix_fr0, ix_fr1, mul_l, cat_l, cat_t, sl_l, sl_t, sl_s, line, L2.ixN, h]
  · simp [c_is_tuple, cb_is_tuple, kSeq_1, kSeq_2, kSeq_3, kSeq_4, kSet_1, kNx_1, kPar_1, kd2_1, kd1_1, kIf_1, kIf_2, kRt_1, kEx_1, kVar_1, kVar_2, kMov_1, kMov_2, kfz_1, kfz_2, kc_1, k1_1, k2b_1, k2a_1, kt_1, kn_1, kAnd_1, kAnd_2, kOr_1, kOr_2, kmA_1, kmA_2, kmO_1, kmO_2, kmI_1, kmI_2, kh4_1, kh3_1, kh3_2, kh2_1, kh1_1, kcb_1, kca_1, kL5_1, kL4_1, kL3_1, kL2_1, kL1_1, kl2_1, kl1_1, kl3_1, kr_1, krs_1, krs_2, kput_1, kput_2, kpk_1, klst_1, klst_2, kbor_1, ka2_1, ka1_1, ktup_1, kls_1, kB_1, kx3_1, kx2_1, kx1_1, kx4_1, kis2_1, kis_1, kp_1, ks3_1, ks2_1, ks1_1, kF_1, kF2_1, kF2_2, kF2_3, kF2_4, kF1_1, kW2_1, kW2_2, kW2_3, kW2_4, kW_1, kW_2, kg_1, ksa_1, ki_1, ki_2, ki_3, kap2_1, kap_1, ksx4_1, ksx3_1, ksx2_1, ksx1_1, kat_1, ko_1, kfin_1, kfin_2, klc2_1, klc_1, kC4_1, kC3_1, kC2_1, kC2_2, kC1_1, ksum_1, kst2_1, kst_1, kst_2, kRev_1, kRev_2, krg_1, krg2_1, krg1_1, kav_1, kav_2, krc_1, runFn_a, out_n, out_s, ini_a, iniL_n, iniL_0, iniL_e, sSeq_a, sSet_a, sPar_a, dNil_a, dCons_a, setAll_n, setAll_c, sIf_a, sRet_a, sExpr_a, sNext_a, sBreak_a, sCont_a, mC_a, mVar_a, mMove_a, fz_a, m1_a, m2_a, tst_a, tNot_a, tAnd_a, tOr_a, tYes_a, mAnd_a, mOr_a, mIf_a, mChain_a, mCall_a, mCallL_a, lNil_a, lCons_a, lLend_a, res_e, res_v, res_s, slot_0, slot_s, put_a, peek_a, lstAt_a, get_v, get_o, get_b, aNil_a, aCons_a, aStar_a, mTup_a, mLst_a, mB_a, mIxS_a, mLenS_a, mIsi_a, pNone_a, pSome_a, mSl_a, sFor_a, forL_n, forL_c, whN_s, gN_a, gT_a, gsC_a, gsN_a, sAsg_a, iSeq_a, sApp_a, sSetIx_a, mLc_a, lcL_n, lcL_c, wipe_n, wipe_c, rest_n, rest_c, allVal_n, allVal_c, mRev_a, mLRg_a, mLRg2_a, lt_int, le_int, gt_int, ge_int, sub_int, add_int, mod_int, fdiv_int, pow_int', mul_ok, eq_int, ne_int, neg_int, not_bl, abs_int, int_int, int_bl, max_2, min_2, max_3, min_3, len_l, len_t, len_s, lenB_l, lenB_t, lenB_s, ix_l, ix_t, ix_s, ixV_a, at_a, tuple_l, tuple_t, list_l, list_t, sum_l, all_l, any_l, isi_int, isi_bool, isi_tup, ix_fr0, ix_fr1, mul_l, cat_l, cat_t, sl_l, sl_t, sl_s, line, L2.ixN, h]
theorem is_size_ok (i : Int) (h1 : -10000000000000000000000000000000000000000 < i) (h2 : i < 10000000000000000000000000000000000000000) : c_is_size [.int i] = ok (.bl true) := by
  simp [c_is_size, cb_is_size, kSeq_1, kSeq_2, kSeq_3, kSeq_4, kSet_1, kNx_1, kPar_1, kd2_1, kd1_1, kIf_1, kIf_2, kRt_1, kEx_1, kVar_1, kVar_2, kMov_1, kMov_2, kfz_1, kfz_2, kc_1, k1_1, k2b_1, k2a_1, kt_1, kn_1, kAnd_1, kAnd_2, kOr_1, kOr_2, kmA_1, kmA_2, kmO_1, kmO_2, kmI_1, kmI_2, kh4_1, kh3_1, kh3_2, kh2_1, kh1_1, kcb_1, kca_1, kL5_1, kL4_1, kL3_1, kL2_1, kL1_1, kl2_1, kl1_1, kl3_1, kr_1, krs_1, krs_2, kput_1, kput_2, kpk_1, klst_1, klst_2, kbor_1, ka2_1, ka1_1, ktup_1, kls_1, kB_1, kx3_1, kx2_1, kx1_1, kx4_1, kis2_1, kis_1, kp_1, ks3_1, ks2_1, ks1_1, kF_1, kF2_1, kF2_2, kF2_3, kF2_4, kF1_1, kW2_1, kW2_2, kW2_3, kW2_4, kW_1, kW_2, kg_1, ksa_1, ki_1, ki_2, ki_3, kap2_1, kap_1, ksx4_1, ksx3_1, ksx2_1, ksx1_1, kat_1, ko_1, kfin_1, kfin_2, klc2_1, klc_1, kC4_1, kC3_1, kC2_1, kC2_2, kC1_1, ksum_1, kst2_1, kst_1, kst_2, kRev_1, kRev_2, krg_1, krg2_1, krg1_1, kav_1, kav_2, krc_1, runFn_a, out_n, out_s, ini_a, iniL_n, iniL_0, iniL_e, sSeq_a, sSet_a, sPar_a, dNil_a, dCons_a, setAll_n, setAll_c, sIf_a, sRet_a, sExpr_a, sNext_a, sBreak_a, sCont_a, mC_a, mVar_a, mMove_a, fz_a, m1_a, m2_a, tst_a, tNot_a, tAnd_a, tOr_a, tYes_a, mAnd_a, mOr_a, mIf_a, mChain_a, mCall_a, mCallL_a, lNil_a, lCons_a, lLend_a, res_e, res_v, res_s, slot_0, slot_s, put_a, peek_a, lstAt_a, get_v, get_o, get_b, aNil_a, aCons_a, aStar_a, mTup_a, mLst_a, mB_a, mIxS_a, mLenS_a, mIsi_a, pNone_a, pSome_a, mSl_a, sFor_a, forL_n, forL_c, whN_s, gN_a, gT_a, gsC_a, gsN_a, sAsg_a, iSeq_a, sApp_a, sSetIx_a, mLc_a, lcL_n, lcL_c, wipe_n, wipe_c, rest_n, rest_c, allVal_n, allVal_c, mRev_a, mLRg_a, mLRg2_a, lt_int, le_int, gt_int, ge_int, sub_int, add_int, mod_int, fdiv_int, pow_int', mul_ok, eq_int, ne_int, neg_int, not_bl, abs_int, int_int, int_bl, max_2, min_2, max_3, min_3, len_l, len_t, len_s, lenB_l, lenB_t, lenB_s, ix_l, ix_t, ix_s, ixV_a, at_a, tuple_l, tuple_t, list_l, list_t, sum_l, all_l, any_l, isi_int, isi_bool, isi_tup, ix_fr0, ix_fr1, mul_l, cat_l, cat_t, sl_l, sl_t, sl_s, line, L2.ixN, is_whole_ok, h1, h2]
/-- a fraction whose parts may be told -/
def Fz (q : Rat) : Prop := -10000000000000000000000000000000000000000 < q.num ∧ q.num < 10000000000000000000000000000000000000000 ∧ (q.den : Int) < 10000000000000000000000000000000000000000
theorem boolsOf_nil : boolsOf [] = some [] := rfl
theorem boolsOf_cons {b : Bool} {ds : List D} : boolsOf (.bl b :: ds) = (boolsOf ds).map (b :: ·) := rfl
theorem is_fraction_ok {q : Rat} (h : Fz q) : c_is_fraction [fr q] = ok (.bl true) := by
  obtain ⟨h1, h2, h3⟩ := h
  have hd : -10000000000000000000000000000000000000000 < (q.den : Int) := by omega
  have hp : (0 : Int) < q.den := by have := q.den_pos; omega
  have hg : Int.gcd q.num q.den = 1 := by have := q.reduced; simpa [Int.gcd, Nat.Coprime] using this
  unfold fr
  simp [c_is_fraction, cb_is_fraction, kSeq_1, kSeq_2, kSeq_3, kSeq_4, kSet_1, kNx_1, kPar_1, kd2_1, kd1_1, kIf_1, kIf_2, kRt_1, kEx_1, kVar_1, kVar_2, kMov_1, kMov_2, kfz_1, kfz_2, kc_1, k1_1, k2b_1, k2a_1, kt_1, kn_1, kAnd_1, kAnd_2, kOr_1, kOr_2, kmA_1, kmA_2, kmO_1, kmO_2, kmI_1, kmI_2, kh4_1, kh3_1, kh3_2, kh2_1, kh1_1, kcb_1, kca_1, kL5_1, kL4_1, kL3_1, kL2_1, kL1_1, kl2_1, kl1_1, kl3_1, kr_1, krs_1, krs_2, kput_1, kput_2, kpk_1, klst_1, klst_2, kbor_1, ka2_1, ka1_1, ktup_1, kls_1, kB_1, kx3_1, kx2_1, kx1_1, kx4_1, kis2_1, kis_1, kp_1, ks3_1, ks2_1, ks1_1, kF_1, kF2_1, kF2_2, kF2_3, kF2_4, kF1_1, kW2_1, kW2_2, kW2_3, kW2_4, kW_1, kW_2, kg_1, ksa_1, ki_1, ki_2, ki_3, kap2_1, kap_1, ksx4_1, ksx3_1, ksx2_1, ksx1_1, kat_1, ko_1, kfin_1, kfin_2, klc2_1, klc_1, kC4_1, kC3_1, kC2_1, kC2_2, kC1_1, ksum_1, kst2_1, kst_1, kst_2, kRev_1, kRev_2, krg_1, krg2_1, krg1_1, kav_1, kav_2, krc_1, runFn_a, out_n, out_s, ini_a, iniL_n, iniL_0, iniL_e, sSeq_a, sSet_a, sPar_a, dNil_a, dCons_a, setAll_n, setAll_c, sIf_a, sRet_a, sExpr_a, sNext_a, sBreak_a, sCont_a, mC_a, mVar_a, mMove_a, fz_a, m1_a, m2_a, tst_a, tNot_a, tAnd_a, tOr_a, tYes_a, mAnd_a, mOr_a, mIf_a, mChain_a, mCall_a, mCallL_a, lNil_a, lCons_a, lLend_a, res_e, res_v, res_s, slot_0, slot_s, put_a, peek_a, lstAt_a, get_v, get_o, get_b, aNil_a, aCons_a, aStar_a, mTup_a, mLst_a, mB_a, mIxS_a, mLenS_a, mIsi_a, pNone_a, pSome_a, mSl_a, sFor_a, forL_n, forL_c, whN_s, gN_a, gT_a, gsC_a, gsN_a, sAsg_a, iSeq_a, sApp_a, sSetIx_a, mLc_a, lcL_n, lcL_c, wipe_n, wipe_c, rest_n, rest_c, allVal_n, allVal_c, mRev_a, mLRg_a, mLRg2_a, lt_int, le_int, gt_int, ge_int, sub_int, add_int, mod_int, fdiv_int, pow_int', mul_ok, eq_int, ne_int, neg_int, not_bl, abs_int, int_int, int_bl, max_2, min_2, max_3, min_3, len_l, len_t, len_s, lenB_l, lenB_t, lenB_s, ix_l, ix_t, ix_s, ixV_a, at_a, tuple_l, tuple_t, list_l, list_t, sum_l, all_l, any_l, isi_int, isi_bool, isi_tup, ix_fr0, ix_fr1, mul_l, cat_l, cat_t, sl_l, sl_t, sl_s, line, L2.ixN, is_tuple_ok, is_size_ok _ h1 h2, is_size_ok _ hd h3, boolsOf_nil, boolsOf_cons, common_of_ok, q.den_pos, hg]
theorem is_share_ok {q : Rat} (h : Fz q) (h0 : 0 ≤ q.num) (h1 : q.num ≤ q.den) : c_is_share [fr q] = ok (.bl true) := by
  simp [c_is_share, cb_is_share, kSeq_1, kSeq_2, kSeq_3, kSeq_4, kSet_1, kNx_1, kPar_1, kd2_1, kd1_1, kIf_1, kIf_2, kRt_1, kEx_1, kVar_1, kVar_2, kMov_1, kMov_2, kfz_1, kfz_2, kc_1, k1_1, k2b_1, k2a_1, kt_1, kn_1, kAnd_1, kAnd_2, kOr_1, kOr_2, kmA_1, kmA_2, kmO_1, kmO_2, kmI_1, kmI_2, kh4_1, kh3_1, kh3_2, kh2_1, kh1_1, kcb_1, kca_1, kL5_1, kL4_1, kL3_1, kL2_1, kL1_1, kl2_1, kl1_1, kl3_1, kr_1, krs_1, krs_2, kput_1, kput_2, kpk_1, klst_1, klst_2, kbor_1, ka2_1, ka1_1, ktup_1, kls_1, kB_1, kx3_1, kx2_1, kx1_1, kx4_1, kis2_1, kis_1, kp_1, ks3_1, ks2_1, ks1_1, kF_1, kF2_1, kF2_2, kF2_3, kF2_4, kF1_1, kW2_1, kW2_2, kW2_3, kW2_4, kW_1, kW_2, kg_1, ksa_1, ki_1, ki_2, ki_3, kap2_1, kap_1, ksx4_1, ksx3_1, ksx2_1, ksx1_1, kat_1, ko_1, kfin_1, kfin_2, klc2_1, klc_1, kC4_1, kC3_1, kC2_1, kC2_2, kC1_1, ksum_1, kst2_1, kst_1, kst_2, kRev_1, kRev_2, krg_1, krg2_1, krg1_1, kav_1, kav_2, krc_1, runFn_a, out_n, out_s, ini_a, iniL_n, iniL_0, iniL_e, sSeq_a, sSet_a, sPar_a, dNil_a, dCons_a, setAll_n, setAll_c, sIf_a, sRet_a, sExpr_a, sNext_a, sBreak_a, sCont_a, mC_a, mVar_a, mMove_a, fz_a, m1_a, m2_a, tst_a, tNot_a, tAnd_a, tOr_a, tYes_a, mAnd_a, mOr_a, mIf_a, mChain_a, mCall_a, mCallL_a, lNil_a, lCons_a, lLend_a, res_e, res_v, res_s, slot_0, slot_s, put_a, peek_a, lstAt_a, get_v, get_o, get_b, aNil_a, aCons_a, aStar_a, mTup_a, mLst_a, mB_a, mIxS_a, mLenS_a, mIsi_a, pNone_a, pSome_a, mSl_a, sFor_a, forL_n, forL_c, whN_s, gN_a, gT_a, gsC_a, gsN_a, sAsg_a, iSeq_a, sApp_a, sSetIx_a, mLc_a, lcL_n, lcL_c, wipe_n, wipe_c, rest_n, rest_c, allVal_n, allVal_c, mRev_a, mLRg_a, mLRg2_a, lt_int, le_int, gt_int, ge_int, sub_int, add_int, mod_int, fdiv_int, pow_int', mul_ok, eq_int, ne_int, neg_int, not_bl, abs_int, int_int, int_bl, max_2, min_2, max_3, min_3, len_l, len_t, len_s, lenB_l, lenB_t, lenB_s, ix_l, ix_t, ix_s, ixV_a, at_a, tuple_l, tuple_t, list_l, list_t, sum_l, all_l, any_l, isi_int, isi_bool, isi_tup, ix_fr0, ix_fr1, mul_l, cat_l, cat_t, sl_l, sl_t, sl_s, line, L2.ixN, is_fraction_ok h, h0, h1]
end
end Cb

set_option Elab.async false
set_option linter.all false
set_option maxRecDepth 100000
/-! The drawing functions of the laws, their fractions. -/
namespace Cb
open PySem L2
noncomputable section
theorem law_gcd_loop : ∀ (n : Nat) (a b x : Int) (L : List D) (o : Option DV), eu n a b = some x → n ≤ L.length → ∃ b' o',
    forL (gN 2) (sSeq (sIf (tst (m2 dEq (mVar 1) (mC (.int 0)))) sBreak sNext) (sPar [0, 1] (dCons (mVar 1) (dCons (m2 dMod (mVar 0) (mVar 1)) dNil)))) L [some (.val (.int a)), some (.val (.int b)), o] = some (.nx [some (.val (.int x)), some (.val (.int b')), o'])
  | 0, _, _, _, _, _, h, _ => by cases h
  | n + 1, a, b, x, [], o, h, hl => by simp at hl
  | n + 1, a, b, x, d :: L, o, h, hl => by
    by_cases h0 : b = 0
    · subst h0
      simp only [eu, if_true, Option.some.injEq] at h
      subst h
      exact ⟨0, some (.val d), by simp [kSeq_1, kSeq_2, kSeq_3, kSeq_4, kSet_1, kNx_1, kPar_1, kd2_1, kd1_1, kIf_1, kIf_2, kRt_1, kEx_1, kVar_1, kVar_2, kMov_1, kMov_2, kfz_1, kfz_2, kc_1, k1_1, k2b_1, k2a_1, kt_1, kn_1, kAnd_1, kAnd_2, kOr_1, kOr_2, kmA_1, kmA_2, kmO_1, kmO_2, kmI_1, kmI_2, kh4_1, kh3_1, kh3_2, kh2_1, kh1_1, kcb_1, kca_1, kL5_1, kL4_1, kL3_1, kL2_1, kL1_1, kl2_1, kl1_1, kl3_1, kr_1, krs_1, krs_2, kput_1, kput_2, kpk_1, klst_1, klst_2, kbor_1, ka2_1, ka1_1, ktup_1, kls_1, kB_1, kx3_1, kx2_1, kx1_1, kx4_1, kis2_1, kis_1, kp_1, ks3_1, ks2_1, ks1_1, kF_1, kF2_1, kF2_2, kF2_3, kF2_4, kF1_1, kW2_1, kW2_2, kW2_3, kW2_4, kW_1, kW_2, kg_1, ksa_1, ki_1, ki_2, ki_3, kap2_1, kap_1, ksx4_1, ksx3_1, ksx2_1, ksx1_1, kat_1, ko_1, kfin_1, kfin_2, klc2_1, klc_1, kC4_1, kC3_1, kC2_1, kC2_2, kC1_1, ksum_1, kst2_1, kst_1, kst_2, kRev_1, kRev_2, krg_1, krg2_1, krg1_1, kav_1, kav_2, krc_1, runFn_a, out_n, out_s, ini_a, iniL_n, iniL_0, iniL_e, sSeq_a, sSet_a, sPar_a, dNil_a, dCons_a, setAll_n, setAll_c, sIf_a, sRet_a, sExpr_a, sNext_a, sBreak_a, sCont_a, mC_a, mVar_a, mMove_a, fz_a, m1_a, m2_a, tst_a, tNot_a, tAnd_a, tOr_a, tYes_a, mAnd_a, mOr_a, mIf_a, mChain_a, mCall_a, mCallL_a, lNil_a, lCons_a, lLend_a, res_e, res_v, res_s, slot_0, slot_s, put_a, peek_a, lstAt_a, get_v, get_o, get_b, aNil_a, aCons_a, aStar_a, mTup_a, mLst_a, mB_a, mIxS_a, mLenS_a, mIsi_a, pNone_a, pSome_a, mSl_a, sFor_a, forL_n, forL_c, whN_s, gN_a, gT_a, gsC_a, gsN_a, sAsg_a, iSeq_a, sApp_a, sSetIx_a, mLc_a, lcL_n, lcL_c, wipe_n, wipe_c, rest_n, rest_c, allVal_n, allVal_c, mRev_a, mLRg_a, mLRg2_a, lt_int, le_int, gt_int, ge_int, sub_int, add_int, mod_int, fdiv_int, pow_int', mul_ok, eq_int, ne_int, neg_int, not_bl, abs_int, int_int, int_bl, max_2, min_2, max_3, min_3, len_l, len_t, len_s, lenB_l, lenB_t, lenB_s, ix_l, ix_t, ix_s, ixV_a, at_a, tuple_l, tuple_t, list_l, list_t, sum_l, all_l, any_l, isi_int, isi_bool, isi_tup, ix_fr0, ix_fr1, mul_l, cat_l, cat_t, sl_l, sl_t, sl_s, line, L2.ixN]⟩
    · obtain ⟨b', o', ih⟩ := law_gcd_loop n b (a.fmod b) x L (some (.val d)) (by simpa [eu, h0] using h) (by simpa using hl)
      exact ⟨b', o', by simp [kSeq_1, kSeq_2, kSeq_3, kSeq_4, kSet_1, kNx_1, kPar_1, kd2_1, kd1_1, kIf_1, kIf_2, kRt_1, kEx_1, kVar_1, kVar_2, kMov_1, kMov_2, kfz_1, kfz_2, kc_1, k1_1, k2b_1, k2a_1, kt_1, kn_1, kAnd_1, kAnd_2, kOr_1, kOr_2, kmA_1, kmA_2, kmO_1, kmO_2, kmI_1, kmI_2, kh4_1, kh3_1, kh3_2, kh2_1, kh1_1, kcb_1, kca_1, kL5_1, kL4_1, kL3_1, kL2_1, kL1_1, kl2_1, kl1_1, kl3_1, kr_1, krs_1, krs_2, kput_1, kput_2, kpk_1, klst_1, klst_2, kbor_1, ka2_1, ka1_1, ktup_1, kls_1, kB_1, kx3_1, kx2_1, kx1_1, kx4_1, kis2_1, kis_1, kp_1, ks3_1, ks2_1, ks1_1, kF_1, kF2_1, kF2_2, kF2_3, kF2_4, kF1_1, kW2_1, kW2_2, kW2_3, kW2_4, kW_1, kW_2, kg_1, ksa_1, ki_1, ki_2, ki_3, kap2_1, kap_1, ksx4_1, ksx3_1, ksx2_1, ksx1_1, kat_1, ko_1, kfin_1, kfin_2, klc2_1, klc_1, kC4_1, kC3_1, kC2_1, kC2_2, kC1_1, ksum_1, kst2_1, kst_1, kst_2, kRev_1, kRev_2, krg_1, krg2_1, krg1_1, kav_1, kav_2, krc_1, runFn_a, out_n, out_s, ini_a, iniL_n, iniL_0, iniL_e, sSeq_a, sSet_a, sPar_a, dNil_a, dCons_a, setAll_n, setAll_c, sIf_a, sRet_a, sExpr_a, sNext_a, sBreak_a, sCont_a, mC_a, mVar_a, mMove_a, fz_a, m1_a, m2_a, tst_a, tNot_a, tAnd_a, tOr_a, tYes_a, mAnd_a, mOr_a, mIf_a, mChain_a, mCall_a, mCallL_a, lNil_a, lCons_a, lLend_a, res_e, res_v, res_s, slot_0, slot_s, put_a, peek_a, lstAt_a, get_v, get_o, get_b, aNil_a, aCons_a, aStar_a, mTup_a, mLst_a, mB_a, mIxS_a, mLenS_a, mIsi_a, pNone_a, pSome_a, mSl_a, sFor_a, forL_n, forL_c, whN_s, gN_a, gT_a, gsC_a, gsN_a, sAsg_a, iSeq_a, sApp_a, sSetIx_a, mLc_a, lcL_n, lcL_c, wipe_n, wipe_c, rest_n, rest_c, allVal_n, allVal_c, mRev_a, mLRg_a, mLRg2_a, lt_int, le_int, gt_int, ge_int, sub_int, add_int, mod_int, fdiv_int, pow_int', mul_ok, eq_int, ne_int, neg_int, not_bl, abs_int, int_int, int_bl, max_2, min_2, max_3, min_3, len_l, len_t, len_s, lenB_l, lenB_t, lenB_s, ix_l, ix_t, ix_s, ixV_a, at_a, tuple_l, tuple_t, list_l, list_t, sum_l, all_l, any_l, isi_int, isi_bool, isi_tup, ix_fr0, ix_fr1, mul_l, cat_l, cat_t, sl_l, sl_t, sl_s, line, L2.ixN, h0, ih]⟩
theorem pow_10_6 : PowOk 10 6 := by decide
theorem law_gcd_ok (a b : Int) {n : Nat} (hs : Sz n b) (hn : n < 400000 := by decide) : c__law_gcd [.int a, .int b] = ok (.int (Int.gcd a b)) := by
  obtain ⟨x, h⟩ := eu_some n a b hs
  obtain ⟨b', o', hl⟩ := law_gcd_loop (2 * n + 1) a b x (rangeD 0 1000000) none h (by rw [rangeD_length]; omega)
  have hr := range_D 1000000 (by decide) [some (.val (.int a)), some (.val (.int b)), none] [some (.val (.int a)), some (.val (.int b)), none] (aCons (m2 dPow (mC (.int 10)) (mC (.int 6))) aNil) (by simp [kSeq_1, kSeq_2, kSeq_3, kSeq_4, kSet_1, kNx_1, kPar_1, kd2_1, kd1_1, kIf_1, kIf_2, kRt_1, kEx_1, kVar_1, kVar_2, kMov_1, kMov_2, kfz_1, kfz_2, kc_1, k1_1, k2b_1, k2a_1, kt_1, kn_1, kAnd_1, kAnd_2, kOr_1, kOr_2, kmA_1, kmA_2, kmO_1, kmO_2, kmI_1, kmI_2, kh4_1, kh3_1, kh3_2, kh2_1, kh1_1, kcb_1, kca_1, kL5_1, kL4_1, kL3_1, kL2_1, kL1_1, kl2_1, kl1_1, kl3_1, kr_1, krs_1, krs_2, kput_1, kput_2, kpk_1, klst_1, klst_2, kbor_1, ka2_1, ka1_1, ktup_1, kls_1, kB_1, kx3_1, kx2_1, kx1_1, kx4_1, kis2_1, kis_1, kp_1, ks3_1, ks2_1, ks1_1, kF_1, kF2_1, kF2_2, kF2_3, kF2_4, kF1_1, kW2_1, kW2_2, kW2_3, kW2_4, kW_1, kW_2, kg_1, ksa_1, ki_1, ki_2, ki_3, kap2_1, kap_1, ksx4_1, ksx3_1, ksx2_1, ksx1_1, kat_1, ko_1, kfin_1, kfin_2, klc2_1, klc_1, kC4_1, kC3_1, kC2_1, kC2_2, kC1_1, ksum_1, kst2_1, kst_1, kst_2, kRev_1, kRev_2, krg_1, krg2_1, krg1_1, kav_1, kav_2, krc_1, runFn_a, out_n, out_s, ini_a, iniL_n, iniL_0, iniL_e, sSeq_a, sSet_a, sPar_a, dNil_a, dCons_a, setAll_n, setAll_c, sIf_a, sRet_a, sExpr_a, sNext_a, sBreak_a, sCont_a, mC_a, mVar_a, mMove_a, fz_a, m1_a, m2_a, tst_a, tNot_a, tAnd_a, tOr_a, tYes_a, mAnd_a, mOr_a, mIf_a, mChain_a, mCall_a, mCallL_a, lNil_a, lCons_a, lLend_a, res_e, res_v, res_s, slot_0, slot_s, put_a, peek_a, lstAt_a, get_v, get_o, get_b, aNil_a, aCons_a, aStar_a, mTup_a, mLst_a, mB_a, mIxS_a, mLenS_a, mIsi_a, pNone_a, pSome_a, mSl_a, sFor_a, forL_n, forL_c, whN_s, gN_a, gT_a, gsC_a, gsN_a, sAsg_a, iSeq_a, sApp_a, sSetIx_a, mLc_a, lcL_n, lcL_c, wipe_n, wipe_c, rest_n, rest_c, allVal_n, allVal_c, mRev_a, mLRg_a, mLRg2_a, lt_int, le_int, gt_int, ge_int, sub_int, add_int, mod_int, fdiv_int, pow_int', mul_ok, eq_int, ne_int, neg_int, not_bl, abs_int, int_int, int_bl, max_2, min_2, max_3, min_3, len_l, len_t, len_s, lenB_l, lenB_t, lenB_s, ix_l, ix_t, ix_s, ixV_a, at_a, tuple_l, tuple_t, list_l, list_t, sum_l, all_l, any_l, isi_int, isi_bool, isi_tup, ix_fr0, ix_fr1, mul_l, cat_l, cat_t, sl_l, sl_t, sl_s, line, L2.ixN, pow_10_6])
  have g := eu_gcd h
  simp [c__law_gcd, cb__law_gcd, kSeq_1, kSeq_2, kSeq_3, kSeq_4, kSet_1, kNx_1, kPar_1, kd2_1, kd1_1, kIf_1, kIf_2, kRt_1, kEx_1, kVar_1, kVar_2, kMov_1, kMov_2, kfz_1, kfz_2, kc_1, k1_1, k2b_1, k2a_1, kt_1, kn_1, kAnd_1, kAnd_2, kOr_1, kOr_2, kmA_1, kmA_2, kmO_1, kmO_2, kmI_1, kmI_2, kh4_1, kh3_1, kh3_2, kh2_1, kh1_1, kcb_1, kca_1, kL5_1, kL4_1, kL3_1, kL2_1, kL1_1, kl2_1, kl1_1, kl3_1, kr_1, krs_1, krs_2, kput_1, kput_2, kpk_1, klst_1, klst_2, kbor_1, ka2_1, ka1_1, ktup_1, kls_1, kB_1, kx3_1, kx2_1, kx1_1, kx4_1, kis2_1, kis_1, kp_1, ks3_1, ks2_1, ks1_1, kF_1, kF2_1, kF2_2, kF2_3, kF2_4, kF1_1, kW2_1, kW2_2, kW2_3, kW2_4, kW_1, kW_2, kg_1, ksa_1, ki_1, ki_2, ki_3, kap2_1, kap_1, ksx4_1, ksx3_1, ksx2_1, ksx1_1, kat_1, ko_1, kfin_1, kfin_2, klc2_1, klc_1, kC4_1, kC3_1, kC2_1, kC2_2, kC1_1, ksum_1, kst2_1, kst_1, kst_2, kRev_1, kRev_2, krg_1, krg2_1, krg1_1, kav_1, kav_2, krc_1, runFn_a, out_n, out_s, ini_a, iniL_n, iniL_0, iniL_e, sSeq_a, sSet_a, sPar_a, dNil_a, dCons_a, setAll_n, setAll_c, sIf_a, sRet_a, sExpr_a, sNext_a, sBreak_a, sCont_a, mC_a, mVar_a, mMove_a, fz_a, m1_a, m2_a, tst_a, tNot_a, tAnd_a, tOr_a, tYes_a, mAnd_a, mOr_a, mIf_a, mChain_a, mCall_a, mCallL_a, lNil_a, lCons_a, lLend_a, res_e, res_v, res_s, slot_0, slot_s, put_a, peek_a, lstAt_a, get_v, get_o, get_b, aNil_a, aCons_a, aStar_a, mTup_a, mLst_a, mB_a, mIxS_a, mLenS_a, mIsi_a, pNone_a, pSome_a, mSl_a, sFor_a, forL_n, forL_c, whN_s, gN_a, gT_a, gsC_a, gsN_a, sAsg_a, iSeq_a, sApp_a, sSetIx_a, mLc_a, lcL_n, lcL_c, wipe_n, wipe_c, rest_n, rest_c, allVal_n, allVal_c, mRev_a, mLRg_a, mLRg2_a, lt_int, le_int, gt_int, ge_int, sub_int, add_int, mod_int, fdiv_int, pow_int', mul_ok, eq_int, ne_int, neg_int, not_bl, abs_int, int_int, int_bl, max_2, min_2, max_3, min_3, len_l, len_t, len_s, lenB_l, lenB_t, lenB_s, ix_l, ix_t, ix_s, ixV_a, at_a, tuple_l, tuple_t, list_l, list_t, sum_l, all_l, any_l, isi_int, isi_bool, isi_tup, ix_fr0, ix_fr1, mul_l, cat_l, cat_t, sl_l, sl_t, sl_s, line, L2.ixN, hr]
  rw [hl]
  simp [kSeq_1, kSeq_2, kSeq_3, kSeq_4, kSet_1, kNx_1, kPar_1, kd2_1, kd1_1, kIf_1, kIf_2, kRt_1, kEx_1, kVar_1, kVar_2, kMov_1, kMov_2, kfz_1, kfz_2, kc_1, k1_1, k2b_1, k2a_1, kt_1, kn_1, kAnd_1, kAnd_2, kOr_1, kOr_2, kmA_1, kmA_2, kmO_1, kmO_2, kmI_1, kmI_2, kh4_1, kh3_1, kh3_2, kh2_1, kh1_1, kcb_1, kca_1, kL5_1, kL4_1, kL3_1, kL2_1, kL1_1, kl2_1, kl1_1, kl3_1, kr_1, krs_1, krs_2, kput_1, kput_2, kpk_1, klst_1, klst_2, kbor_1, ka2_1, ka1_1, ktup_1, kls_1, kB_1, kx3_1, kx2_1, kx1_1, kx4_1, kis2_1, kis_1, kp_1, ks3_1, ks2_1, ks1_1, kF_1, kF2_1, kF2_2, kF2_3, kF2_4, kF1_1, kW2_1, kW2_2, kW2_3, kW2_4, kW_1, kW_2, kg_1, ksa_1, ki_1, ki_2, ki_3, kap2_1, kap_1, ksx4_1, ksx3_1, ksx2_1, ksx1_1, kat_1, ko_1, kfin_1, kfin_2, klc2_1, klc_1, kC4_1, kC3_1, kC2_1, kC2_2, kC1_1, ksum_1, kst2_1, kst_1, kst_2, kRev_1, kRev_2, krg_1, krg2_1, krg1_1, kav_1, kav_2, krc_1, runFn_a, out_n, out_s, ini_a, iniL_n, iniL_0, iniL_e, sSeq_a, sSet_a, sPar_a, dNil_a, dCons_a, setAll_n, setAll_c, sIf_a, sRet_a, sExpr_a, sNext_a, sBreak_a, sCont_a, mC_a, mVar_a, mMove_a, fz_a, m1_a, m2_a, tst_a, tNot_a, tAnd_a, tOr_a, tYes_a, mAnd_a, mOr_a, mIf_a, mChain_a, mCall_a, mCallL_a, lNil_a, lCons_a, lLend_a, res_e, res_v, res_s, slot_0, slot_s, put_a, peek_a, lstAt_a, get_v, get_o, get_b, aNil_a, aCons_a, aStar_a, mTup_a, mLst_a, mB_a, mIxS_a, mLenS_a, mIsi_a, pNone_a, pSome_a, mSl_a, sFor_a, forL_n, forL_c, whN_s, gN_a, gT_a, gsC_a, gsN_a, sAsg_a, iSeq_a, sApp_a, sSetIx_a, mLc_a, lcL_n, lcL_c, wipe_n, wipe_c, rest_n, rest_c, allVal_n, allVal_c, mRev_a, mLRg_a, mLRg2_a, lt_int, le_int, gt_int, ge_int, sub_int, add_int, mod_int, fdiv_int, pow_int', mul_ok, eq_int, ne_int, neg_int, not_bl, abs_int, int_int, int_bl, max_2, min_2, max_3, min_3, len_l, len_t, len_s, lenB_l, lenB_t, lenB_s, ix_l, ix_t, ix_s, ixV_a, at_a, tuple_l, tuple_t, list_l, list_t, sum_l, all_l, any_l, isi_int, isi_bool, isi_tup, ix_fr0, ix_fr1, mul_l, cat_l, cat_t, sl_l, sl_t, sl_s, line, L2.ixN, g]
theorem sz_one : Sz 2 1 := by decide
theorem sz_mone : Sz 2 (-1) := by decide
theorem law_ratio_ok {a b : Int} (hb : b ≠ 0) {n : Nat} (hs : Sz n b) (hn : n < 9000 := by decide) : c__law_ratio [.int a, .int b] = ok (fr ((a : Rat) / b)) := by
  have hg := hs.of_le (gcd_le (a := a) hb)
  have d1 : DivOk (Int.gcd a b) := hg.divOk (gcd_ne hb) hn
  have d2 : DivOk (-(Int.gcd a b : Int)) := hg.neg.divOk (by have := gcd_ne (a := a) hb; omega) hn
  have m1 : MulOk (Int.gcd a b) 1 := hg.mulOk sz_one (by omega)
  have m2 : MulOk (Int.gcd a b) (-1) := hg.mulOk sz_mone (by omega)
  have hk := law_gcd_ok a b hs (by omega)
  by_cases h : 0 < b
  · obtain ⟨e1, e2⟩ := ratio_pos (a := a) h
    simp [c__law_ratio, cb__law_ratio, kSeq_1, kSeq_2, kSeq_3, kSeq_4, kSet_1, kNx_1, kPar_1, kd2_1, kd1_1, kIf_1, kIf_2, kRt_1, kEx_1, kVar_1, kVar_2, kMov_1, kMov_2, kfz_1, kfz_2, kc_1, k1_1, k2b_1, k2a_1, kt_1, kn_1, kAnd_1, kAnd_2, kOr_1, kOr_2, kmA_1, kmA_2, kmO_1, kmO_2, kmI_1, kmI_2, kh4_1, kh3_1, kh3_2, kh2_1, kh1_1, kcb_1, kca_1, kL5_1, kL4_1, kL3_1, kL2_1, kL1_1, kl2_1, kl1_1, kl3_1, kr_1, krs_1, krs_2, kput_1, kput_2, kpk_1, klst_1, klst_2, kbor_1, ka2_1, ka1_1, ktup_1, kls_1, kB_1, kx3_1, kx2_1, kx1_1, kx4_1, kis2_1, kis_1, kp_1, ks3_1, ks2_1, ks1_1, kF_1, kF2_1, kF2_2, kF2_3, kF2_4, kF1_1, kW2_1, kW2_2, kW2_3, kW2_4, kW_1, kW_2, kg_1, ksa_1, ki_1, ki_2, ki_3, kap2_1, kap_1, ksx4_1, ksx3_1, ksx2_1, ksx1_1, kat_1, ko_1, kfin_1, kfin_2, klc2_1, klc_1, kC4_1, kC3_1, kC2_1, kC2_2, kC1_1, ksum_1, kst2_1, kst_1, kst_2, kRev_1, kRev_2, krg_1, krg2_1, krg1_1, kav_1, kav_2, krc_1, runFn_a, out_n, out_s, ini_a, iniL_n, iniL_0, iniL_e, sSeq_a, sSet_a, sPar_a, dNil_a, dCons_a, setAll_n, setAll_c, sIf_a, sRet_a, sExpr_a, sNext_a, sBreak_a, sCont_a, mC_a, mVar_a, mMove_a, fz_a, m1_a, m2_a, tst_a, tNot_a, tAnd_a, tOr_a, tYes_a, mAnd_a, mOr_a, mIf_a, mChain_a, mCall_a, mCallL_a, lNil_a, lCons_a, lLend_a, res_e, res_v, res_s, slot_0, slot_s, put_a, peek_a, lstAt_a, get_v, get_o, get_b, aNil_a, aCons_a, aStar_a, mTup_a, mLst_a, mB_a, mIxS_a, mLenS_a, mIsi_a, pNone_a, pSome_a, mSl_a, sFor_a, forL_n, forL_c, whN_s, gN_a, gT_a, gsC_a, gsN_a, sAsg_a, iSeq_a, sApp_a, sSetIx_a, mLc_a, lcL_n, lcL_c, wipe_n, wipe_c, rest_n, rest_c, allVal_n, allVal_c, mRev_a, mLRg_a, mLRg2_a, lt_int, le_int, gt_int, ge_int, sub_int, add_int, mod_int, fdiv_int, pow_int', mul_ok, eq_int, ne_int, neg_int, not_bl, abs_int, int_int, int_bl, max_2, min_2, max_3, min_3, len_l, len_t, len_s, lenB_l, lenB_t, lenB_s, ix_l, ix_t, ix_s, ixV_a, at_a, tuple_l, tuple_t, list_l, list_t, sum_l, all_l, any_l, isi_int, isi_bool, isi_tup, ix_fr0, ix_fr1, mul_l, cat_l, cat_t, sl_l, sl_t, sl_s, line, L2.ixN, hk, h, d1, m1, e1, e2, fr]
  · obtain ⟨e1, e2⟩ := ratio_neg (a := a) (b := b) (by omega)
    simp [c__law_ratio, cb__law_ratio, kSeq_1, kSeq_2, kSeq_3, kSeq_4, kSet_1, kNx_1, kPar_1, kd2_1, kd1_1, kIf_1, kIf_2, kRt_1, kEx_1, kVar_1, kVar_2, kMov_1, kMov_2, kfz_1, kfz_2, kc_1, k1_1, k2b_1, k2a_1, kt_1, kn_1, kAnd_1, kAnd_2, kOr_1, kOr_2, kmA_1, kmA_2, kmO_1, kmO_2, kmI_1, kmI_2, kh4_1, kh3_1, kh3_2, kh2_1, kh1_1, kcb_1, kca_1, kL5_1, kL4_1, kL3_1, kL2_1, kL1_1, kl2_1, kl1_1, kl3_1, kr_1, krs_1, krs_2, kput_1, kput_2, kpk_1, klst_1, klst_2, kbor_1, ka2_1, ka1_1, ktup_1, kls_1, kB_1, kx3_1, kx2_1, kx1_1, kx4_1, kis2_1, kis_1, kp_1, ks3_1, ks2_1, ks1_1, kF_1, kF2_1, kF2_2, kF2_3, kF2_4, kF1_1, kW2_1, kW2_2, kW2_3, kW2_4, kW_1, kW_2, kg_1, ksa_1, ki_1, ki_2, ki_3, kap2_1, kap_1, ksx4_1, ksx3_1, ksx2_1, ksx1_1, kat_1, ko_1, kfin_1, kfin_2, klc2_1, klc_1, kC4_1, kC3_1, kC2_1, kC2_2, kC1_1, ksum_1, kst2_1, kst_1, kst_2, kRev_1, kRev_2, krg_1, krg2_1, krg1_1, kav_1, kav_2, krc_1, runFn_a, out_n, out_s, ini_a, iniL_n, iniL_0, iniL_e, sSeq_a, sSet_a, sPar_a, dNil_a, dCons_a, setAll_n, setAll_c, sIf_a, sRet_a, sExpr_a, sNext_a, sBreak_a, sCont_a, mC_a, mVar_a, mMove_a, fz_a, m1_a, m2_a, tst_a, tNot_a, tAnd_a, tOr_a, tYes_a, mAnd_a, mOr_a, mIf_a, mChain_a, mCall_a, mCallL_a, lNil_a, lCons_a, lLend_a, res_e, res_v, res_s, slot_0, slot_s, put_a, peek_a, lstAt_a, get_v, get_o, get_b, aNil_a, aCons_a, aStar_a, mTup_a, mLst_a, mB_a, mIxS_a, mLenS_a, mIsi_a, pNone_a, pSome_a, mSl_a, sFor_a, forL_n, forL_c, whN_s, gN_a, gT_a, gsC_a, gsN_a, sAsg_a, iSeq_a, sApp_a, sSetIx_a, mLc_a, lcL_n, lcL_c, wipe_n, wipe_c, rest_n, rest_c, allVal_n, allVal_c, mRev_a, mLRg_a, mLRg2_a, lt_int, le_int, gt_int, ge_int, sub_int, add_int, mod_int, fdiv_int, pow_int', mul_ok, eq_int, ne_int, neg_int, not_bl, abs_int, int_int, int_bl, max_2, min_2, max_3, min_3, len_l, len_t, len_s, lenB_l, lenB_t, lenB_s, ix_l, ix_t, ix_s, ixV_a, at_a, tuple_l, tuple_t, list_l, list_t, sum_l, all_l, any_l, isi_int, isi_bool, isi_tup, ix_fr0, ix_fr1, mul_l, cat_l, cat_t, sl_l, sl_t, sl_s, line, L2.ixN, hk, h, d2, m2, e1, e2, fr]
/-- a fraction so small -/
def Fs (n : Nat) (q : Rat) : Prop := Sz n q.num ∧ Sz n q.den
theorem fs_ratio {a b : Int} {n : Nat} (ha : Sz n a) (hb : Sz n b) (h0 : b ≠ 0) : Fs n ((a : Rat) / b) := by
  rw [← Rat.divInt_eq_div]
  constructor
  · rw [Rat.num_divInt]
    refine ha.of_le ?_
    have h1 : (b.sign * a / (b.gcd a : Int)).natAbs ≤ (b.sign * a).natAbs := by
      rw [← Int.fdiv_eq_ediv_of_nonneg _ (by omega)]
      exact Int.natAbs_fdiv_le_natAbs _ _
    rw [Int.natAbs_mul, Int.natAbs_sign_of_ne_zero h0, Nat.one_mul] at h1
    exact h1
  · rw [Rat.den_divInt, if_neg h0]
    exact hb.of_le (by rw [Int.natAbs_natCast]; exact Nat.div_le_self _ _)
theorem Fs.mono {n m : Nat} {q : Rat} (h : Fs n q) (k : n ≤ m) : Fs m q := ⟨h.1.mono k, h.2.mono k⟩
theorem Fs.fz {n : Nat} {q : Rat} (h : Fs n q) (k : n ≤ 132) : Fz q := by
  obtain ⟨h1, h2⟩ := h.mono k
  unfold Sz at h1 h2
  have : (2 : Nat) ^ 132 = 5444517870735015415413993718908291383296 := by decide
  rw [this] at h1 h2
  unfold Fz
  refine ⟨?_, ?_, ?_⟩ <;> omega
theorem rat_add (p q : Rat) : ((p.num * q.den + q.num * p.den : Int) : Rat) / ((p.den * q.den : Int) : Rat) = p + q := by
  rw [← Rat.divInt_eq_div, Rat.add_def', ← Int.natCast_mul, Rat.divInt_ofNat]
theorem rat_sub (p q : Rat) : ((p.num * q.den - q.num * p.den : Int) : Rat) / ((p.den * q.den : Int) : Rat) = p - q := by
  rw [← Rat.divInt_eq_div, Rat.sub_def', ← Int.natCast_mul, Rat.divInt_ofNat]
theorem rat_mul (p q : Rat) : ((p.num * q.num : Int) : Rat) / ((p.den * q.den : Int) : Rat) = p * q := by
  rw [← Rat.divInt_eq_div, Rat.mul_def', ← Int.natCast_mul, Rat.divInt_ofNat]
theorem den_ne (q : Rat) : (q.den : Int) ≠ 0 := by have := q.den_pos; omega
theorem den_ne2 (p q : Rat) : (p.den : Int) * (q.den : Int) ≠ 0 := Int.mul_ne_zero (den_ne p) (den_ne q)
theorem law_plus_ok {p q : Rat} {n m : Nat} (hp : Fs n p) (hq : Fs m q) (hn : n + m < 9000 := by decide) : c__law_plus [fr p, fr q] = ok (fr (p + q)) := by
  have m1 : MulOk p.num q.den := hp.1.mulOk hq.2 (by omega)
  have m2 : MulOk q.num p.den := hq.1.mulOk hp.2 (by omega)
  have m3 : MulOk p.den q.den := hp.2.mulOk hq.2 (by omega)
  have hr := law_ratio_ok (a := p.num * q.den + q.num * p.den) (den_ne2 p q) (hp.2.mul hq.2) hn
  rw [rat_add] at hr
  simp [c__law_plus, cb__law_plus, kSeq_1, kSeq_2, kSeq_3, kSeq_4, kSet_1, kNx_1, kPar_1, kd2_1, kd1_1, kIf_1, kIf_2, kRt_1, kEx_1, kVar_1, kVar_2, kMov_1, kMov_2, kfz_1, kfz_2, kc_1, k1_1, k2b_1, k2a_1, kt_1, kn_1, kAnd_1, kAnd_2, kOr_1, kOr_2, kmA_1, kmA_2, kmO_1, kmO_2, kmI_1, kmI_2, kh4_1, kh3_1, kh3_2, kh2_1, kh1_1, kcb_1, kca_1, kL5_1, kL4_1, kL3_1, kL2_1, kL1_1, kl2_1, kl1_1, kl3_1, kr_1, krs_1, krs_2, kput_1, kput_2, kpk_1, klst_1, klst_2, kbor_1, ka2_1, ka1_1, ktup_1, kls_1, kB_1, kx3_1, kx2_1, kx1_1, kx4_1, kis2_1, kis_1, kp_1, ks3_1, ks2_1, ks1_1, kF_1, kF2_1, kF2_2, kF2_3, kF2_4, kF1_1, kW2_1, kW2_2, kW2_3, kW2_4, kW_1, kW_2, kg_1, ksa_1, ki_1, ki_2, ki_3, kap2_1, kap_1, ksx4_1, ksx3_1, ksx2_1, ksx1_1, kat_1, ko_1, kfin_1, kfin_2, klc2_1, klc_1, kC4_1, kC3_1, kC2_1, kC2_2, kC1_1, ksum_1, kst2_1, kst_1, kst_2, kRev_1, kRev_2, krg_1, krg2_1, krg1_1, kav_1, kav_2, krc_1, runFn_a, out_n, out_s, ini_a, iniL_n, iniL_0, iniL_e, sSeq_a, sSet_a, sPar_a, dNil_a, dCons_a, setAll_n, setAll_c, sIf_a, sRet_a, sExpr_a, sNext_a, sBreak_a, sCont_a, mC_a, mVar_a, mMove_a, fz_a, m1_a, m2_a, tst_a, tNot_a, tAnd_a, tOr_a, tYes_a, mAnd_a, mOr_a, mIf_a, mChain_a, mCall_a, mCallL_a, lNil_a, lCons_a, lLend_a, res_e, res_v, res_s, slot_0, slot_s, put_a, peek_a, lstAt_a, get_v, get_o, get_b, aNil_a, aCons_a, aStar_a, mTup_a, mLst_a, mB_a, mIxS_a, mLenS_a, mIsi_a, pNone_a, pSome_a, mSl_a, sFor_a, forL_n, forL_c, whN_s, gN_a, gT_a, gsC_a, gsN_a, sAsg_a, iSeq_a, sApp_a, sSetIx_a, mLc_a, lcL_n, lcL_c, wipe_n, wipe_c, rest_n, rest_c, allVal_n, allVal_c, mRev_a, mLRg_a, mLRg2_a, lt_int, le_int, gt_int, ge_int, sub_int, add_int, mod_int, fdiv_int, pow_int', mul_ok, eq_int, ne_int, neg_int, not_bl, abs_int, int_int, int_bl, max_2, min_2, max_3, min_3, len_l, len_t, len_s, lenB_l, lenB_t, lenB_s, ix_l, ix_t, ix_s, ixV_a, at_a, tuple_l, tuple_t, list_l, list_t, sum_l, all_l, any_l, isi_int, isi_bool, isi_tup, ix_fr0, ix_fr1, mul_l, cat_l, cat_t, sl_l, sl_t, sl_s, line, L2.ixN, m1, m2, m3, hr]
theorem law_below_ok {p q : Rat} {n m : Nat} (hp : Fs n p) (hq : Fs m q) (hn : n + m < 9000 := by decide) : c__law_below [fr p, fr q] = ok (.bl (decide (p < q))) := by
  have m1 : MulOk p.num q.den := hp.1.mulOk hq.2 (by omega)
  have m2 : MulOk q.num p.den := hq.1.mulOk hp.2 (by omega)
  have e : decide (p.num * q.den < q.num * p.den) = decide (p < q) := by
    rw [Bool.eq_iff_iff, decide_eq_true_iff, decide_eq_true_iff, Rat.lt_iff]
  simp [c__law_below, cb__law_below, kSeq_1, kSeq_2, kSeq_3, kSeq_4, kSet_1, kNx_1, kPar_1, kd2_1, kd1_1, kIf_1, kIf_2, kRt_1, kEx_1, kVar_1, kVar_2, kMov_1, kMov_2, kfz_1, kfz_2, kc_1, k1_1, k2b_1, k2a_1, kt_1, kn_1, kAnd_1, kAnd_2, kOr_1, kOr_2, kmA_1, kmA_2, kmO_1, kmO_2, kmI_1, kmI_2, kh4_1, kh3_1, kh3_2, kh2_1, kh1_1, kcb_1, kca_1, kL5_1, kL4_1, kL3_1, kL2_1, kL1_1, kl2_1, kl1_1, kl3_1, kr_1, krs_1, krs_2, kput_1, kput_2, kpk_1, klst_1, klst_2, kbor_1, ka2_1, ka1_1, ktup_1, kls_1, kB_1, kx3_1, kx2_1, kx1_1, kx4_1, kis2_1, kis_1, kp_1, ks3_1, ks2_1, ks1_1, kF_1, kF2_1, kF2_2, kF2_3, kF2_4, kF1_1, kW2_1, kW2_2, kW2_3, kW2_4, kW_1, kW_2, kg_1, ksa_1, ki_1, ki_2, ki_3, kap2_1, kap_1, ksx4_1, ksx3_1, ksx2_1, ksx1_1, kat_1, ko_1, kfin_1, kfin_2, klc2_1, klc_1, kC4_1, kC3_1, kC2_1, kC2_2, kC1_1, ksum_1, kst2_1, kst_1, kst_2, kRev_1, kRev_2, krg_1, krg2_1, krg1_1, kav_1, kav_2, krc_1, runFn_a, out_n, out_s, ini_a, iniL_n, iniL_0, iniL_e, sSeq_a, sSet_a, sPar_a, dNil_a, dCons_a, setAll_n, setAll_c, sIf_a, sRet_a, sExpr_a, sNext_a, sBreak_a, sCont_a, mC_a, mVar_a, mMove_a, fz_a, m1_a, m2_a, tst_a, tNot_a, tAnd_a, tOr_a, tYes_a, mAnd_a, mOr_a, mIf_a, mChain_a, mCall_a, mCallL_a, lNil_a, lCons_a, lLend_a, res_e, res_v, res_s, slot_0, slot_s, put_a, peek_a, lstAt_a, get_v, get_o, get_b, aNil_a, aCons_a, aStar_a, mTup_a, mLst_a, mB_a, mIxS_a, mLenS_a, mIsi_a, pNone_a, pSome_a, mSl_a, sFor_a, forL_n, forL_c, whN_s, gN_a, gT_a, gsC_a, gsN_a, sAsg_a, iSeq_a, sApp_a, sSetIx_a, mLc_a, lcL_n, lcL_c, wipe_n, wipe_c, rest_n, rest_c, allVal_n, allVal_c, mRev_a, mLRg_a, mLRg2_a, lt_int, le_int, gt_int, ge_int, sub_int, add_int, mod_int, fdiv_int, pow_int', mul_ok, eq_int, ne_int, neg_int, not_bl, abs_int, int_int, int_bl, max_2, min_2, max_3, min_3, len_l, len_t, len_s, lenB_l, lenB_t, lenB_s, ix_l, ix_t, ix_s, ixV_a, at_a, tuple_l, tuple_t, list_l, list_t, sum_l, all_l, any_l, isi_int, isi_bool, isi_tup, ix_fr0, ix_fr1, mul_l, cat_l, cat_t, sl_l, sl_t, sl_s, line, L2.ixN, m1, m2, e]
theorem rat_rest (p : Rat) : ((p.den - p.num : Int) : Rat) / ((p.den : Int) : Rat) = 1 - p := by
  have := rat_sub 1 p
  simpa using this
theorem law_rest_ok {p : Rat} {n : Nat} (hp : Fs n p) (hn : n < 9000 := by decide) : c__law_rest [fr p] = ok (fr (1 - p)) := by
  have hr := law_ratio_ok (a := p.den - p.num) (den_ne p) hp.2 hn
  rw [rat_rest] at hr
  simp [c__law_rest, cb__law_rest, kSeq_1, kSeq_2, kSeq_3, kSeq_4, kSet_1, kNx_1, kPar_1, kd2_1, kd1_1, kIf_1, kIf_2, kRt_1, kEx_1, kVar_1, kVar_2, kMov_1, kMov_2, kfz_1, kfz_2, kc_1, k1_1, k2b_1, k2a_1, kt_1, kn_1, kAnd_1, kAnd_2, kOr_1, kOr_2, kmA_1, kmA_2, kmO_1, kmO_2, kmI_1, kmI_2, kh4_1, kh3_1, kh3_2, kh2_1, kh1_1, kcb_1, kca_1, kL5_1, kL4_1, kL3_1, kL2_1, kL1_1, kl2_1, kl1_1, kl3_1, kr_1, krs_1, krs_2, kput_1, kput_2, kpk_1, klst_1, klst_2, kbor_1, ka2_1, ka1_1, ktup_1, kls_1, kB_1, kx3_1, kx2_1, kx1_1, kx4_1, kis2_1, kis_1, kp_1, ks3_1, ks2_1, ks1_1, kF_1, kF2_1, kF2_2, kF2_3, kF2_4, kF1_1, kW2_1, kW2_2, kW2_3, kW2_4, kW_1, kW_2, kg_1, ksa_1, ki_1, ki_2, ki_3, kap2_1, kap_1, ksx4_1, ksx3_1, ksx2_1, ksx1_1, kat_1, ko_1, kfin_1, kfin_2, klc2_1, klc_1, kC4_1, kC3_1, kC2_1, kC2_2, kC1_1, ksum_1, kst2_1, kst_1, kst_2, kRev_1, kRev_2, krg_1, krg2_1, krg1_1, kav_1, kav_2, krc_1, runFn_a, out_n, out_s, ini_a, iniL_n, iniL_0, iniL_e, sSeq_a, sSet_a, sPar_a, dNil_a, dCons_a, setAll_n, setAll_c, sIf_a, sRet_a, sExpr_a, sNext_a, sBreak_a, sCont_a, mC_a, mVar_a, mMove_a, fz_a, m1_a, m2_a, tst_a, tNot_a, tAnd_a, tOr_a, tYes_a, mAnd_a, mOr_a, mIf_a, mChain_a, mCall_a, mCallL_a, lNil_a, lCons_a, lLend_a, res_e, res_v, res_s, slot_0, slot_s, put_a, peek_a, lstAt_a, get_v, get_o, get_b, aNil_a, aCons_a, aStar_a, mTup_a, mLst_a, mB_a, mIxS_a, mLenS_a, mIsi_a, pNone_a, pSome_a, mSl_a, sFor_a, forL_n, forL_c, whN_s, gN_a, gT_a, gsC_a, gsN_a, sAsg_a, iSeq_a, sApp_a, sSetIx_a, mLc_a, lcL_n, lcL_c, wipe_n, wipe_c, rest_n, rest_c, allVal_n, allVal_c, mRev_a, mLRg_a, mLRg2_a, lt_int, le_int, gt_int, ge_int, sub_int, add_int, mod_int, fdiv_int, pow_int', mul_ok, eq_int, ne_int, neg_int, not_bl, abs_int, int_int, int_bl, max_2, min_2, max_3, min_3, len_l, len_t, len_s, lenB_l, lenB_t, lenB_s, ix_l, ix_t, ix_s, ixV_a, at_a, tuple_l, tuple_t, list_l, list_t, sum_l, all_l, any_l, isi_int, isi_bool, isi_tup, ix_fr0, ix_fr1, mul_l, cat_l, cat_t, sl_l, sl_t, sl_s, line, L2.ixN, hr]
/-! ### drawing -/
def Pot (n : Nat) (d : D) : Prop := ∃ a b c : Int, d = .lst [.int a, .int b, .int c] ∧ (0 ≤ a ∧ Sz 1000 a) ∧ (0 ≤ b ∧ Sz 61 b) ∧ 0 ≤ c ∧ c < (n : Int)
theorem Pot.mono {n m : Nat} {d : D} (h : Pot n d) (k : n ≤ m) : Pot m d := by
  obtain ⟨a, b, c, e, h1, h2, h3, h4⟩ := h
  exact ⟨a, b, c, e, h1, h2, h3, by omega⟩
theorem powOk_sz {a : Int} {n : Nat} (h : Sz n a) (hn : n < 10000000) : PowOk a 3 := by
  refine ⟨by decide, ?_⟩
  have := h.log
  have e : Builtin.Int.intBits a ≤ n + 1 := by
    unfold Builtin.Int.intBits
    split <;> omega
  have : (2 : Int) ^ 27 = 134217728 := by decide
  omega
theorem law_take_ok {F G H : Int} {n : Nat} {p : D} {u : Int} (h : Pot n p) (hu : 0 < u) {m : Nat} (hs : Sz m u) (hm : m < 9000 := by decide) (hn : n < 1000000 := by decide) (t0 : Sz 18 F := by decide) (hG : Sz 14 G := by decide) (u1 : Sz 13 H := by decide) :
    ∃ d p', c__law_take F G H [p, .int u] = some (.val (.int d), p') ∧ Pot (n + 1) p' ∧ 0 ≤ d ∧ d < u := by
  obtain ⟨a, b, c, rfl, ⟨h1, h2⟩, ⟨h3, h4⟩, h5, h6⟩ := h
  have hu0 : u ≠ 0 := by omega
  have hd := hs.divOk hu0 hm
  by_cases ha : 0 < a
  · refine ⟨a.fmod u, .lst [.int (a.fdiv u), .int b, .int c], ?_, ⟨_, _, _, rfl, ⟨Int.fdiv_nonneg h1 (by omega), h2.of_le (Int.natAbs_fdiv_le_natAbs _ _)⟩, ⟨h3, h4⟩, h5, by omega⟩, Int.fmod_nonneg h1 (by omega), Int.fmod_lt_of_pos _ hu⟩
    simp [c__law_take, cb__law_take, kSeq_1, kSeq_2, kSeq_3, kSeq_4, kSet_1, kNx_1, kPar_1, kd2_1, kd1_1, kIf_1, kIf_2, kRt_1, kEx_1, kVar_1, kVar_2, kMov_1, kMov_2, kfz_1, kfz_2, kc_1, k1_1, k2b_1, k2a_1, kt_1, kn_1, kAnd_1, kAnd_2, kOr_1, kOr_2, kmA_1, kmA_2, kmO_1, kmO_2, kmI_1, kmI_2, kh4_1, kh3_1, kh3_2, kh2_1, kh1_1, kcb_1, kca_1, kL5_1, kL4_1, kL3_1, kL2_1, kL1_1, kl2_1, kl1_1, kl3_1, kr_1, krs_1, krs_2, kput_1, kput_2, kpk_1, klst_1, klst_2, kbor_1, ka2_1, ka1_1, ktup_1, kls_1, kB_1, kx3_1, kx2_1, kx1_1, kx4_1, kis2_1, kis_1, kp_1, ks3_1, ks2_1, ks1_1, kF_1, kF2_1, kF2_2, kF2_3, kF2_4, kF1_1, kW2_1, kW2_2, kW2_3, kW2_4, kW_1, kW_2, kg_1, ksa_1, ki_1, ki_2, ki_3, kap2_1, kap_1, ksx4_1, ksx3_1, ksx2_1, ksx1_1, kat_1, ko_1, kfin_1, kfin_2, klc2_1, klc_1, kC4_1, kC3_1, kC2_1, kC2_2, kC1_1, ksum_1, kst2_1, kst_1, kst_2, kRev_1, kRev_2, krg_1, krg2_1, krg1_1, kav_1, kav_2, krc_1, runFn_a, out_n, out_s, ini_a, iniL_n, iniL_0, iniL_e, sSeq_a, sSet_a, sPar_a, dNil_a, dCons_a, setAll_n, setAll_c, sIf_a, sRet_a, sExpr_a, sNext_a, sBreak_a, sCont_a, mC_a, mVar_a, mMove_a, fz_a, m1_a, m2_a, tst_a, tNot_a, tAnd_a, tOr_a, tYes_a, mAnd_a, mOr_a, mIf_a, mChain_a, mCall_a, mCallL_a, lNil_a, lCons_a, lLend_a, res_e, res_v, res_s, slot_0, slot_s, put_a, peek_a, lstAt_a, get_v, get_o, get_b, aNil_a, aCons_a, aStar_a, mTup_a, mLst_a, mB_a, mIxS_a, mLenS_a, mIsi_a, pNone_a, pSome_a, mSl_a, sFor_a, forL_n, forL_c, whN_s, gN_a, gT_a, gsC_a, gsN_a, sAsg_a, iSeq_a, sApp_a, sSetIx_a, mLc_a, lcL_n, lcL_c, wipe_n, wipe_c, rest_n, rest_c, allVal_n, allVal_c, mRev_a, mLRg_a, mLRg2_a, lt_int, le_int, gt_int, ge_int, sub_int, add_int, mod_int, fdiv_int, pow_int', mul_ok, eq_int, ne_int, neg_int, not_bl, abs_int, int_int, int_bl, max_2, min_2, max_3, min_3, len_l, len_t, len_s, lenB_l, lenB_t, lenB_s, ix_l, ix_t, ix_s, ixV_a, at_a, tuple_l, tuple_t, list_l, list_t, sum_l, all_l, any_l, isi_int, isi_bool, isi_tup, ix_fr0, ix_fr1, mul_l, cat_l, cat_t, sl_l, sl_t, sl_s, line, L2.ixN, ha, hu0, hd]
  · have s1 : Sz 20 (c + 1) := by unfold Sz; omega
    have t1 := t0.mul s1
    have t2 := t1.mul s1
    have t3 := (h4.mono (m := 61) (by decide)).add (t2.mono (m := 61) (by decide))
    have t4 := t3.add (y := G) (n := 62) (hG.mono (by decide))
    have m1 : MulOk F (c + 1) := t0.mulOk s1
    have m2 : MulOk (F * (c + 1)) (c + 1) := t1.mulOk s1
    have p3 := powOk_sz t4 (by decide)
    have hx : ∃ pr : Int, 0 < pr ∧ Sz 31 pr ∧ dIx (.lst [.int 2147483647, .int 2147483629, .int 2147483587, .int 2147483579]) (.int ((c + 1).fmod 4)) = some (.int pr) := by
      have e0 : 0 ≤ (c + 1).fmod 4 := Int.fmod_nonneg (by omega) (by decide)
      have e1 : (c + 1).fmod 4 < 4 := Int.fmod_lt_of_pos _ (by decide)
      have e2 : (c + 1).fmod 4 = 0 ∨ (c + 1).fmod 4 = 1 ∨ (c + 1).fmod 4 = 2 ∨ (c + 1).fmod 4 = 3 := by omega
      rcases e2 with e | e | e | e <;> rw [e]
      · exact ⟨2147483647, by decide, by decide, rfl⟩
      · exact ⟨2147483629, by decide, by decide, rfl⟩
      · exact ⟨2147483587, by decide, by decide, rfl⟩
      · exact ⟨2147483579, by decide, by decide, rfl⟩
    obtain ⟨pr, q1, q2, q3⟩ := hx
    have q0 : pr ≠ 0 := by omega
    generalize eb : ((b + F * (c + 1) * (c + 1) + G) ^ 3).fmod pr = bl
    have b1 : 0 ≤ bl := by rw [← eb]; exact Int.fmod_nonneg_of_pos _ q1
    have b2 : bl < pr := by rw [← eb]; exact Int.fmod_lt_of_pos _ q1
    have b3 : Sz 31 bl := q2.of_le (by omega)
    have f1 : 0 ≤ bl.fmod 10007 := Int.fmod_nonneg_of_pos _ (by decide)
    have f2 : bl.fmod 10007 < 10007 := Int.fmod_lt_of_pos _ (by decide)
    have f3 : Sz 33 (bl.fmod 10007) := by unfold Sz; omega
    have m3 : MulOk H (c + 1) := u1.mulOk s1
    have u2 := u1.mul s1
    have m4 : MulOk bl (bl.fmod 10007 + H * (c + 1)) := b3.mulOk (f3.add u2)
    have d7 : DivOk 307 := by decide
    refine ⟨((bl * (bl.fmod 10007 + H * (c + 1))).fdiv 307).fmod u, .lst [.int a, .int b, .int (c + 1)], ?_, ⟨_, _, _, rfl, ⟨h1, h2⟩, ⟨h3, h4⟩, by omega, by omega⟩, Int.fmod_nonneg_of_pos _ hu, Int.fmod_lt_of_pos _ hu⟩
    simp [c__law_take, cb__law_take, kSeq_1, kSeq_2, kSeq_3, kSeq_4, kSet_1, kNx_1, kPar_1, kd2_1, kd1_1, kIf_1, kIf_2, kRt_1, kEx_1, kVar_1, kVar_2, kMov_1, kMov_2, kfz_1, kfz_2, kc_1, k1_1, k2b_1, k2a_1, kt_1, kn_1, kAnd_1, kAnd_2, kOr_1, kOr_2, kmA_1, kmA_2, kmO_1, kmO_2, kmI_1, kmI_2, kh4_1, kh3_1, kh3_2, kh2_1, kh1_1, kcb_1, kca_1, kL5_1, kL4_1, kL3_1, kL2_1, kL1_1, kl2_1, kl1_1, kl3_1, kr_1, krs_1, krs_2, kput_1, kput_2, kpk_1, klst_1, klst_2, kbor_1, ka2_1, ka1_1, ktup_1, kls_1, kB_1, kx3_1, kx2_1, kx1_1, kx4_1, kis2_1, kis_1, kp_1, ks3_1, ks2_1, ks1_1, kF_1, kF2_1, kF2_2, kF2_3, kF2_4, kF1_1, kW2_1, kW2_2, kW2_3, kW2_4, kW_1, kW_2, kg_1, ksa_1, ki_1, ki_2, ki_3, kap2_1, kap_1, ksx4_1, ksx3_1, ksx2_1, ksx1_1, kat_1, ko_1, kfin_1, kfin_2, klc2_1, klc_1, kC4_1, kC3_1, kC2_1, kC2_2, kC1_1, ksum_1, kst2_1, kst_1, kst_2, kRev_1, kRev_2, krg_1, krg2_1, krg1_1, kav_1, kav_2, krc_1, runFn_a, out_n, out_s, ini_a, iniL_n, iniL_0, iniL_e, sSeq_a, sSet_a, sPar_a, dNil_a, dCons_a, setAll_n, setAll_c, sIf_a, sRet_a, sExpr_a, sNext_a, sBreak_a, sCont_a, mC_a, mVar_a, mMove_a, fz_a, m1_a, m2_a, tst_a, tNot_a, tAnd_a, tOr_a, tYes_a, mAnd_a, mOr_a, mIf_a, mChain_a, mCall_a, mCallL_a, lNil_a, lCons_a, lLend_a, res_e, res_v, res_s, slot_0, slot_s, put_a, peek_a, lstAt_a, get_v, get_o, get_b, aNil_a, aCons_a, aStar_a, mTup_a, mLst_a, mB_a, mIxS_a, mLenS_a, mIsi_a, pNone_a, pSome_a, mSl_a, sFor_a, forL_n, forL_c, whN_s, gN_a, gT_a, gsC_a, gsN_a, sAsg_a, iSeq_a, sApp_a, sSetIx_a, mLc_a, lcL_n, lcL_c, wipe_n, wipe_c, rest_n, rest_c, allVal_n, allVal_c, mRev_a, mLRg_a, mLRg2_a, lt_int, le_int, gt_int, ge_int, sub_int, add_int, mod_int, fdiv_int, pow_int', mul_ok, eq_int, ne_int, neg_int, not_bl, abs_int, int_int, int_bl, max_2, min_2, max_3, min_3, len_l, len_t, len_s, lenB_l, lenB_t, lenB_s, ix_l, ix_t, ix_s, ixV_a, at_a, tuple_l, tuple_t, list_l, list_t, sum_l, all_l, any_l, isi_int, isi_bool, isi_tup, ix_fr0, ix_fr1, mul_l, cat_l, cat_t, sl_l, sl_t, sl_s, line, L2.ixN, ha, hu0, m1, m2, p3, q0] at q3 ⊢
    simp [q3, kSeq_1, kSeq_2, kSeq_3, kSeq_4, kSet_1, kNx_1, kPar_1, kd2_1, kd1_1, kIf_1, kIf_2, kRt_1, kEx_1, kVar_1, kVar_2, kMov_1, kMov_2, kfz_1, kfz_2, kc_1, k1_1, k2b_1, k2a_1, kt_1, kn_1, kAnd_1, kAnd_2, kOr_1, kOr_2, kmA_1, kmA_2, kmO_1, kmO_2, kmI_1, kmI_2, kh4_1, kh3_1, kh3_2, kh2_1, kh1_1, kcb_1, kca_1, kL5_1, kL4_1, kL3_1, kL2_1, kL1_1, kl2_1, kl1_1, kl3_1, kr_1, krs_1, krs_2, kput_1, kput_2, kpk_1, klst_1, klst_2, kbor_1, ka2_1, ka1_1, ktup_1, kls_1, kB_1, kx3_1, kx2_1, kx1_1, kx4_1, kis2_1, kis_1, kp_1, ks3_1, ks2_1, ks1_1, kF_1, kF2_1, kF2_2, kF2_3, kF2_4, kF1_1, kW2_1, kW2_2, kW2_3, kW2_4, kW_1, kW_2, kg_1, ksa_1, ki_1, ki_2, ki_3, kap2_1, kap_1, ksx4_1, ksx3_1, ksx2_1, ksx1_1, kat_1, ko_1, kfin_1, kfin_2, klc2_1, klc_1, kC4_1, kC3_1, kC2_1, kC2_2, kC1_1, ksum_1, kst2_1, kst_1, kst_2, kRev_1, kRev_2, krg_1, krg2_1, krg1_1, kav_1, kav_2, krc_1, runFn_a, out_n, out_s, ini_a, iniL_n, iniL_0, iniL_e, sSeq_a, sSet_a, sPar_a, dNil_a, dCons_a, setAll_n, setAll_c, sIf_a, sRet_a, sExpr_a, sNext_a, sBreak_a, sCont_a, mC_a, mVar_a, mMove_a, fz_a, m1_a, m2_a, tst_a, tNot_a, tAnd_a, tOr_a, tYes_a, mAnd_a, mOr_a, mIf_a, mChain_a, mCall_a, mCallL_a, lNil_a, lCons_a, lLend_a, res_e, res_v, res_s, slot_0, slot_s, put_a, peek_a, lstAt_a, get_v, get_o, get_b, aNil_a, aCons_a, aStar_a, mTup_a, mLst_a, mB_a, mIxS_a, mLenS_a, mIsi_a, pNone_a, pSome_a, mSl_a, sFor_a, forL_n, forL_c, whN_s, gN_a, gT_a, gsC_a, gsN_a, sAsg_a, iSeq_a, sApp_a, sSetIx_a, mLc_a, lcL_n, lcL_c, wipe_n, wipe_c, rest_n, rest_c, allVal_n, allVal_c, mRev_a, mLRg_a, mLRg2_a, lt_int, le_int, gt_int, ge_int, sub_int, add_int, mod_int, fdiv_int, pow_int', mul_ok, eq_int, ne_int, neg_int, not_bl, abs_int, int_int, int_bl, max_2, min_2, max_3, min_3, len_l, len_t, len_s, lenB_l, lenB_t, lenB_s, ix_l, ix_t, ix_s, ixV_a, at_a, tuple_l, tuple_t, list_l, list_t, sum_l, all_l, any_l, isi_int, isi_bool, isi_tup, ix_fr0, ix_fr1, mul_l, cat_l, cat_t, sl_l, sl_t, sl_s, line, L2.ixN, q0, m1, m2, p3, m3, m4, d7, hu0, eb]
theorem law_of_ok {F G H : Int} {n : Nat} {p : D} {ds : List D} (h : Pot n p) (h0 : ds ≠ []) (hl : ds.length < 1000000) (hn : n < 1000000 := by decide) (t0 : Sz 18 F := by decide) (hG : Sz 14 G := by decide) (u1 : Sz 13 H := by decide) :
    ∃ d p', c__law_of F G H [p, .lst ds] = some (.val d, p') ∧ Pot (n + 1) p' ∧ d ∈ ds := by
  have hp : 0 < ds.length := List.length_pos_iff.mpr h0
  obtain ⟨i, p', e, hp', h1, h2⟩ := law_take_ok (F := F) (G := G) (H := H) (u := (ds.length : Int)) (m := 20) h (by omega) (by unfold Sz; omega) (by decide) hn t0 hG u1
  have hi : i.toNat < ds.length := by omega
  have hx : dIx (.lst ds) (.int i) = some ds[i.toNat] := by
    show atI ds i = _
    unfold atI ixN
    rw [if_pos h1, if_pos h2]
    exact List.getElem?_eq_getElem hi
  refine ⟨ds[i.toNat], p', ?_, hp', List.getElem_mem hi⟩
  simp only [c__law_of, cb__law_of, kSeq_1, kSeq_2, kSeq_3, kSeq_4, kSet_1, kNx_1, kPar_1, kd2_1, kd1_1, kIf_1, kIf_2, kRt_1, kEx_1, kVar_1, kVar_2, kMov_1, kMov_2, kfz_1, kfz_2, kc_1, k1_1, k2b_1, k2a_1, kt_1, kn_1, kAnd_1, kAnd_2, kOr_1, kOr_2, kmA_1, kmA_2, kmO_1, kmO_2, kmI_1, kmI_2, kh4_1, kh3_1, kh3_2, kh2_1, kh1_1, kcb_1, kca_1, kL5_1, kL4_1, kL3_1, kL2_1, kL1_1, kl2_1, kl1_1, kl3_1, kr_1, krs_1, krs_2, kput_1, kput_2, kpk_1, klst_1, klst_2, kbor_1, ka2_1, ka1_1, ktup_1, kls_1, kB_1, kx3_1, kx2_1, kx1_1, kx4_1, kis2_1, kis_1, kp_1, ks3_1, ks2_1, ks1_1, kF_1, kF2_1, kF2_2, kF2_3, kF2_4, kF1_1, kW2_1, kW2_2, kW2_3, kW2_4, kW_1, kW_2, kg_1, ksa_1, ki_1, ki_2, ki_3, kap2_1, kap_1, ksx4_1, ksx3_1, ksx2_1, ksx1_1, kat_1, ko_1, kfin_1, kfin_2, klc2_1, klc_1, kC4_1, kC3_1, kC2_1, kC2_2, kC1_1, ksum_1, kst2_1, kst_1, kst_2, kRev_1, kRev_2, krg_1, krg2_1, krg1_1, kav_1, kav_2, krc_1, runFn_a, out_n, out_s, ini_a, iniL_n, iniL_0, iniL_e, sSeq_a, sSet_a, sPar_a, dNil_a, dCons_a, setAll_n, setAll_c, sIf_a, sRet_a, sExpr_a, sNext_a, sBreak_a, sCont_a, mC_a, mVar_a, mMove_a, fz_a, m1_a, m2_a, tst_a, tNot_a, tAnd_a, tOr_a, tYes_a, mAnd_a, mOr_a, mIf_a, mChain_a, mCall_a, mCallL_a, lNil_a, lCons_a, lLend_a, res_e, res_v, res_s, slot_0, slot_s, put_a, peek_a, lstAt_a, get_v, get_o, get_b, aNil_a, aCons_a, aStar_a, mTup_a, mLst_a, mB_a, mIxS_a, mLenS_a, mIsi_a, pNone_a, pSome_a, mSl_a, sFor_a, forL_n, forL_c, whN_s, gN_a, gT_a, gsC_a, gsN_a, sAsg_a, iSeq_a, sApp_a, sSetIx_a, mLc_a, lcL_n, lcL_c, wipe_n, wipe_c, rest_n, rest_c, allVal_n, allVal_c, mRev_a, mLRg_a, mLRg2_a, lt_int, le_int, gt_int, ge_int, sub_int, add_int, mod_int, fdiv_int, pow_int', mul_ok, eq_int, ne_int, neg_int, not_bl, abs_int, int_int, int_bl, max_2, min_2, max_3, min_3, len_l, len_t, len_s, lenB_l, lenB_t, lenB_s, ix_l, ix_t, ix_s, ixV_a, at_a, tuple_l, tuple_t, list_l, list_t, sum_l, all_l, any_l, isi_int, isi_bool, isi_tup, ix_fr0, ix_fr1, mul_l, cat_l, cat_t, sl_l, sl_t, sl_s, line, L2.ixN, List.length_cons, List.length_nil, List.replicate, List.append_nil, List.cons_append, List.nil_append, Nat.reduceAdd, Nat.reduceSub, List.getElem?_cons_succ, List.getElem?_cons_zero]
  simp [kSeq_1, kSeq_2, kSeq_3, kSeq_4, kSet_1, kNx_1, kPar_1, kd2_1, kd1_1, kIf_1, kIf_2, kRt_1, kEx_1, kVar_1, kVar_2, kMov_1, kMov_2, kfz_1, kfz_2, kc_1, k1_1, k2b_1, k2a_1, kt_1, kn_1, kAnd_1, kAnd_2, kOr_1, kOr_2, kmA_1, kmA_2, kmO_1, kmO_2, kmI_1, kmI_2, kh4_1, kh3_1, kh3_2, kh2_1, kh1_1, kcb_1, kca_1, kL5_1, kL4_1, kL3_1, kL2_1, kL1_1, kl2_1, kl1_1, kl3_1, kr_1, krs_1, krs_2, kput_1, kput_2, kpk_1, klst_1, klst_2, kbor_1, ka2_1, ka1_1, ktup_1, kls_1, kB_1, kx3_1, kx2_1, kx1_1, kx4_1, kis2_1, kis_1, kp_1, ks3_1, ks2_1, ks1_1, kF_1, kF2_1, kF2_2, kF2_3, kF2_4, kF1_1, kW2_1, kW2_2, kW2_3, kW2_4, kW_1, kW_2, kg_1, ksa_1, ki_1, ki_2, ki_3, kap2_1, kap_1, ksx4_1, ksx3_1, ksx2_1, ksx1_1, kat_1, ko_1, kfin_1, kfin_2, klc2_1, klc_1, kC4_1, kC3_1, kC2_1, kC2_2, kC1_1, ksum_1, kst2_1, kst_1, kst_2, kRev_1, kRev_2, krg_1, krg2_1, krg1_1, kav_1, kav_2, krc_1, runFn_a, out_n, out_s, ini_a, iniL_n, iniL_0, iniL_e, sSeq_a, sSet_a, sPar_a, dNil_a, dCons_a, setAll_n, setAll_c, sIf_a, sRet_a, sExpr_a, sNext_a, sBreak_a, sCont_a, mC_a, mVar_a, mMove_a, fz_a, m1_a, m2_a, tst_a, tNot_a, tAnd_a, tOr_a, tYes_a, mAnd_a, mOr_a, mIf_a, mChain_a, mCall_a, mCallL_a, lNil_a, lCons_a, lLend_a, res_e, res_v, res_s, slot_0, slot_s, put_a, peek_a, lstAt_a, get_v, get_o, get_b, aNil_a, aCons_a, aStar_a, mTup_a, mLst_a, mB_a, mIxS_a, mLenS_a, mIsi_a, pNone_a, pSome_a, mSl_a, sFor_a, forL_n, forL_c, whN_s, gN_a, gT_a, gsC_a, gsN_a, sAsg_a, iSeq_a, sApp_a, sSetIx_a, mLc_a, lcL_n, lcL_c, wipe_n, wipe_c, rest_n, rest_c, allVal_n, allVal_c, mRev_a, mLRg_a, mLRg2_a, lt_int, le_int, gt_int, ge_int, sub_int, add_int, mod_int, fdiv_int, pow_int', mul_ok, eq_int, ne_int, neg_int, not_bl, abs_int, int_int, int_bl, max_2, min_2, max_3, min_3, len_l, len_t, len_s, lenB_l, lenB_t, lenB_s, ix_l, ix_t, ix_s, ixV_a, at_a, tuple_l, tuple_t, list_l, list_t, sum_l, all_l, any_l, isi_int, isi_bool, isi_tup, ix_fr0, ix_fr1, mul_l, cat_l, cat_t, sl_l, sl_t, sl_s, line, L2.ixN, e] at hx ⊢
  simp [kSeq_1, kSeq_2, kSeq_3, kSeq_4, kSet_1, kNx_1, kPar_1, kd2_1, kd1_1, kIf_1, kIf_2, kRt_1, kEx_1, kVar_1, kVar_2, kMov_1, kMov_2, kfz_1, kfz_2, kc_1, k1_1, k2b_1, k2a_1, kt_1, kn_1, kAnd_1, kAnd_2, kOr_1, kOr_2, kmA_1, kmA_2, kmO_1, kmO_2, kmI_1, kmI_2, kh4_1, kh3_1, kh3_2, kh2_1, kh1_1, kcb_1, kca_1, kL5_1, kL4_1, kL3_1, kL2_1, kL1_1, kl2_1, kl1_1, kl3_1, kr_1, krs_1, krs_2, kput_1, kput_2, kpk_1, klst_1, klst_2, kbor_1, ka2_1, ka1_1, ktup_1, kls_1, kB_1, kx3_1, kx2_1, kx1_1, kx4_1, kis2_1, kis_1, kp_1, ks3_1, ks2_1, ks1_1, kF_1, kF2_1, kF2_2, kF2_3, kF2_4, kF1_1, kW2_1, kW2_2, kW2_3, kW2_4, kW_1, kW_2, kg_1, ksa_1, ki_1, ki_2, ki_3, kap2_1, kap_1, ksx4_1, ksx3_1, ksx2_1, ksx1_1, kat_1, ko_1, kfin_1, kfin_2, klc2_1, klc_1, kC4_1, kC3_1, kC2_1, kC2_2, kC1_1, ksum_1, kst2_1, kst_1, kst_2, kRev_1, kRev_2, krg_1, krg2_1, krg1_1, kav_1, kav_2, krc_1, runFn_a, out_n, out_s, ini_a, iniL_n, iniL_0, iniL_e, sSeq_a, sSet_a, sPar_a, dNil_a, dCons_a, setAll_n, setAll_c, sIf_a, sRet_a, sExpr_a, sNext_a, sBreak_a, sCont_a, mC_a, mVar_a, mMove_a, fz_a, m1_a, m2_a, tst_a, tNot_a, tAnd_a, tOr_a, tYes_a, mAnd_a, mOr_a, mIf_a, mChain_a, mCall_a, mCallL_a, lNil_a, lCons_a, lLend_a, res_e, res_v, res_s, slot_0, slot_s, put_a, peek_a, lstAt_a, get_v, get_o, get_b, aNil_a, aCons_a, aStar_a, mTup_a, mLst_a, mB_a, mIxS_a, mLenS_a, mIsi_a, pNone_a, pSome_a, mSl_a, sFor_a, forL_n, forL_c, whN_s, gN_a, gT_a, gsC_a, gsN_a, sAsg_a, iSeq_a, sApp_a, sSetIx_a, mLc_a, lcL_n, lcL_c, wipe_n, wipe_c, rest_n, rest_c, allVal_n, allVal_c, mRev_a, mLRg_a, mLRg2_a, lt_int, le_int, gt_int, ge_int, sub_int, add_int, mod_int, fdiv_int, pow_int', mul_ok, eq_int, ne_int, neg_int, not_bl, abs_int, int_int, int_bl, max_2, min_2, max_3, min_3, len_l, len_t, len_s, lenB_l, lenB_t, lenB_s, ix_l, ix_t, ix_s, ixV_a, at_a, tuple_l, tuple_t, list_l, list_t, sum_l, all_l, any_l, isi_int, isi_bool, isi_tup, ix_fr0, ix_fr1, mul_l, cat_l, cat_t, sl_l, sl_t, sl_s, line, L2.ixN, hx]
end
end Cb

set_option Elab.async false
set_option linter.all false
set_option maxRecDepth 100000
/-! The pots of the laws, cells, loops over cells. -/
namespace Cb
open PySem L2
noncomputable section
@[irreducible] def p60 : Int := 10 ^ 60
@[irreducible] def m300 : Int := (10 ^ 60) ^ 5
theorem pw1 : dPow (.int 10) (.int 60) = some (.val (.int p60)) := by
  rw [pow_int' (by decide +kernel)]; unfold p60; rfl
theorem pw2 : dPow (.int p60) (.int 5) = some (.val (.int m300)) := by
  rw [pow_int' (by unfold p60; decide +kernel)]; unfold p60 m300; rfl
theorem pw3 : dPow (.int 10) (.int 18) = some (.val (.int 1000000000000000000)) := by
  rw [pow_int' (by decide +kernel)]; rfl
theorem m300_pos : 0 < m300 := by unfold m300; decide +kernel
theorem m300_sz : Sz 1000 m300 := by unfold m300; decide +kernel
theorem sum1 (ns : List Int) : ∃ i : Int, dSum [.lst ((cutL ns none (some 1)).map D.int)] = some (.val (.int i)) := ⟨(cutL ns none (some 1)).sum, by rw [sum_l, intsOf_map]; rfl⟩
theorem law_pot_ok {A B C F G : Int} (ns : List Int) (pl : Nat) (h : pl < ns.length ∨ ns.length = 0 ∧ pl = 0) (hl : ns.length < 100) (hA : Sz 20 A := by decide) (hB : Sz 20 B := by decide) (hC : Sz 20 C := by decide) (hF : Sz 20 F := by decide) (hG : Sz 20 G := by decide) :
    ∃ d, c__law_pot A B C F G [.scr ns, .int pl] = some (.own d, .non) ∧ Pot 1 d := by
  have sp : Sz 7 (pl : Int) := by unfold Sz; omega
  have m3 : MulOk A pl := hA.mulOk sp
  have m4 : MulOk F pl := hF.mulOk sp
  have m5 : MulOk (F * pl) pl := (hF.mul sp).mulOk sp
  have hM0 : m300 ≠ 0 := by have := m300_pos; omega
  have key : ∀ cell : Int, Pot 1 (D.lst [.int ((cell.natAbs : Int).fmod m300 * (if (1000000000000000000 : Int) ≤ cell.natAbs then 1 else 0)), .int ((cell.fmod 2305843009213693951 * C + F * pl * pl + G).fmod 2305843009213693921), .int 0]) ∧
      MulOk ((cell.natAbs : Int).fmod m300) (if (1000000000000000000 : Int) ≤ cell.natAbs then 1 else 0) ∧ MulOk (cell.fmod 2305843009213693951) C := by
    intro cell
    have e1 : (cell.fmod 2305843009213693951 * C + F * pl * pl + G).fmod 2305843009213693921 < 2305843009213693921 := Int.fmod_lt_of_pos _ (by decide)
    have e0 : 0 ≤ (cell.fmod 2305843009213693951 * C + F * pl * pl + G).fmod 2305843009213693921 := Int.fmod_nonneg_of_pos _ (by decide)
    have e2 : cell.fmod 2305843009213693951 < 2305843009213693951 := Int.fmod_lt_of_pos _ (by decide)
    have e3 : 0 ≤ cell.fmod 2305843009213693951 := Int.fmod_nonneg_of_pos _ (by decide)
    have s1 : Sz 61 (2305843009213693921 : Int) := by decide
    have s2 : Sz 61 (2305843009213693951 : Int) := by decide
    have f1 : (cell.natAbs : Int).fmod m300 < m300 := Int.fmod_lt_of_pos _ m300_pos
    have f0 : (0 : Int) ≤ (cell.natAbs : Int).fmod m300 := Int.fmod_nonneg_of_pos _ m300_pos
    have f2 := m300_sz.of_le (y := (cell.natAbs : Int).fmod m300) (by omega)
    refine ⟨⟨_, _, _, rfl, ?_, ⟨e0, s1.of_le (by omega)⟩, by decide, by decide⟩, f2.mulOk (m := 2) ?_, (s2.of_le (by omega)).mulOk hC⟩
    · split
      · rw [Int.mul_one]; exact ⟨f0, f2⟩
      · rw [Int.mul_zero]; exact ⟨by decide, by decide⟩
    · split <;> decide
  rcases h with h | ⟨h, h1⟩
  · obtain ⟨hd, k1, k2⟩ := key ns[pl]
    refine ⟨_, ?_, hd⟩
    have hx : dIx (.scr ns) (.int pl) = some (.int ns[pl]) := by
      show (atI ns pl).map D.int = _
      unfold atI ixN
      rw [if_pos (by omega), if_pos (by omega)]
      simp [h]
    have hc : (pl : Int) < ns.length := by omega
    simp -implicitDefEqProofs only [ix_s] at hx
    simp [c__law_pot, cb__law_pot, kSeq_1, kSeq_2, kSeq_3, kSeq_4, kSet_1, kNx_1, kPar_1, kd2_1, kd1_1, kIf_1, kIf_2, kRt_1, kEx_1, kVar_1, kVar_2, kMov_1, kMov_2, kfz_1, kfz_2, kc_1, k1_1, k2b_1, k2a_1, kt_1, kn_1, kAnd_1, kAnd_2, kOr_1, kOr_2, kmA_1, kmA_2, kmO_1, kmO_2, kmI_1, kmI_2, kh4_1, kh3_1, kh3_2, kh2_1, kh1_1, kcb_1, kca_1, kL5_1, kL4_1, kL3_1, kL2_1, kL1_1, kl2_1, kl1_1, kl3_1, kr_1, krs_1, krs_2, kput_1, kput_2, kpk_1, klst_1, klst_2, kbor_1, ka2_1, ka1_1, ktup_1, kls_1, kB_1, kx3_1, kx2_1, kx1_1, kx4_1, kis2_1, kis_1, kp_1, ks3_1, ks2_1, ks1_1, kF_1, kF2_1, kF2_2, kF2_3, kF2_4, kF1_1, kW2_1, kW2_2, kW2_3, kW2_4, kW_1, kW_2, kg_1, ksa_1, ki_1, ki_2, ki_3, kap2_1, kap_1, ksx4_1, ksx3_1, ksx2_1, ksx1_1, kat_1, ko_1, kfin_1, kfin_2, klc2_1, klc_1, kC4_1, kC3_1, kC2_1, kC2_2, kC1_1, ksum_1, kst2_1, kst_1, kst_2, kRev_1, kRev_2, krg_1, krg2_1, krg1_1, kav_1, kav_2, krc_1, runFn_a, out_n, out_s, ini_a, iniL_n, iniL_0, iniL_e, sSeq_a, sSet_a, sPar_a, dNil_a, dCons_a, setAll_n, setAll_c, sIf_a, sRet_a, sExpr_a, sNext_a, sBreak_a, sCont_a, mC_a, mVar_a, mMove_a, fz_a, m1_a, m2_a, tst_a, tNot_a, tAnd_a, tOr_a, tYes_a, mAnd_a, mOr_a, mIf_a, mChain_a, mCall_a, mCallL_a, lNil_a, lCons_a, lLend_a, res_e, res_v, res_s, slot_0, slot_s, put_a, peek_a, lstAt_a, get_v, get_o, get_b, aNil_a, aCons_a, aStar_a, mTup_a, mLst_a, mB_a, mIxS_a, mLenS_a, mIsi_a, pNone_a, pSome_a, mSl_a, sFor_a, forL_n, forL_c, whN_s, gN_a, gT_a, gsC_a, gsN_a, sAsg_a, iSeq_a, sApp_a, sSetIx_a, mLc_a, lcL_n, lcL_c, wipe_n, wipe_c, rest_n, rest_c, allVal_n, allVal_c, mRev_a, mLRg_a, mLRg2_a, lt_int, le_int, gt_int, ge_int, sub_int, add_int, mod_int, fdiv_int, pow_int', mul_ok, eq_int, ne_int, neg_int, not_bl, abs_int, int_int, int_bl, max_2, min_2, max_3, min_3, len_l, len_t, len_s, lenB_l, lenB_t, lenB_s, ix_l, ix_t, ix_s, ixV_a, at_a, tuple_l, tuple_t, list_l, list_t, sum_l, all_l, any_l, isi_int, isi_bool, isi_tup, ix_fr0, ix_fr1, mul_l, cat_l, cat_t, sl_l, sl_t, sl_s, line, L2.ixN, hc, hx, h, pw1, pw2, pw3, m4, m5, k1, k2, hM0]
  · have h2 : ns = [] := List.eq_nil_of_length_eq_zero h
    subst h1 h2
    obtain ⟨hd, k1, k2⟩ := key ((0 : Int).fmod 1000003 + A * (0 : Nat) + B)
    refine ⟨_, ?_, hd⟩
    have hs : intsOf [] = some [] := rfl
    simp [c__law_pot, cb__law_pot, kSeq_1, kSeq_2, kSeq_3, kSeq_4, kSet_1, kNx_1, kPar_1, kd2_1, kd1_1, kIf_1, kIf_2, kRt_1, kEx_1, kVar_1, kVar_2, kMov_1, kMov_2, kfz_1, kfz_2, kc_1, k1_1, k2b_1, k2a_1, kt_1, kn_1, kAnd_1, kAnd_2, kOr_1, kOr_2, kmA_1, kmA_2, kmO_1, kmO_2, kmI_1, kmI_2, kh4_1, kh3_1, kh3_2, kh2_1, kh1_1, kcb_1, kca_1, kL5_1, kL4_1, kL3_1, kL2_1, kL1_1, kl2_1, kl1_1, kl3_1, kr_1, krs_1, krs_2, kput_1, kput_2, kpk_1, klst_1, klst_2, kbor_1, ka2_1, ka1_1, ktup_1, kls_1, kB_1, kx3_1, kx2_1, kx1_1, kx4_1, kis2_1, kis_1, kp_1, ks3_1, ks2_1, ks1_1, kF_1, kF2_1, kF2_2, kF2_3, kF2_4, kF1_1, kW2_1, kW2_2, kW2_3, kW2_4, kW_1, kW_2, kg_1, ksa_1, ki_1, ki_2, ki_3, kap2_1, kap_1, ksx4_1, ksx3_1, ksx2_1, ksx1_1, kat_1, ko_1, kfin_1, kfin_2, klc2_1, klc_1, kC4_1, kC3_1, kC2_1, kC2_2, kC1_1, ksum_1, kst2_1, kst_1, kst_2, kRev_1, kRev_2, krg_1, krg2_1, krg1_1, kav_1, kav_2, krc_1, runFn_a, out_n, out_s, ini_a, iniL_n, iniL_0, iniL_e, sSeq_a, sSet_a, sPar_a, dNil_a, dCons_a, setAll_n, setAll_c, sIf_a, sRet_a, sExpr_a, sNext_a, sBreak_a, sCont_a, mC_a, mVar_a, mMove_a, fz_a, m1_a, m2_a, tst_a, tNot_a, tAnd_a, tOr_a, tYes_a, mAnd_a, mOr_a, mIf_a, mChain_a, mCall_a, mCallL_a, lNil_a, lCons_a, lLend_a, res_e, res_v, res_s, slot_0, slot_s, put_a, peek_a, lstAt_a, get_v, get_o, get_b, aNil_a, aCons_a, aStar_a, mTup_a, mLst_a, mB_a, mIxS_a, mLenS_a, mIsi_a, pNone_a, pSome_a, mSl_a, sFor_a, forL_n, forL_c, whN_s, gN_a, gT_a, gsC_a, gsN_a, sAsg_a, iSeq_a, sApp_a, sSetIx_a, mLc_a, lcL_n, lcL_c, wipe_n, wipe_c, rest_n, rest_c, allVal_n, allVal_c, mRev_a, mLRg_a, mLRg2_a, lt_int, le_int, gt_int, ge_int, sub_int, add_int, mod_int, fdiv_int, pow_int', mul_ok, eq_int, ne_int, neg_int, not_bl, abs_int, int_int, int_bl, max_2, min_2, max_3, min_3, len_l, len_t, len_s, lenB_l, lenB_t, lenB_s, ix_l, ix_t, ix_s, ixV_a, at_a, tuple_l, tuple_t, list_l, list_t, sum_l, all_l, any_l, isi_int, isi_bool, isi_tup, ix_fr0, ix_fr1, mul_l, cat_l, cat_t, sl_l, sl_t, sl_s, line, L2.ixN, cutL, intsOf, pw1, pw2, pw3, m3, m4, m5, k1, k2, hM0, sl_s, HT.sIx] at k1 k2 m3 m4 m5 ⊢
    simp [k1, k2, m3, m4, m5, kSeq_1, kSeq_2, kSeq_3, kSeq_4, kSet_1, kNx_1, kPar_1, kd2_1, kd1_1, kIf_1, kIf_2, kRt_1, kEx_1, kVar_1, kVar_2, kMov_1, kMov_2, kfz_1, kfz_2, kc_1, k1_1, k2b_1, k2a_1, kt_1, kn_1, kAnd_1, kAnd_2, kOr_1, kOr_2, kmA_1, kmA_2, kmO_1, kmO_2, kmI_1, kmI_2, kh4_1, kh3_1, kh3_2, kh2_1, kh1_1, kcb_1, kca_1, kL5_1, kL4_1, kL3_1, kL2_1, kL1_1, kl2_1, kl1_1, kl3_1, kr_1, krs_1, krs_2, kput_1, kput_2, kpk_1, klst_1, klst_2, kbor_1, ka2_1, ka1_1, ktup_1, kls_1, kB_1, kx3_1, kx2_1, kx1_1, kx4_1, kis2_1, kis_1, kp_1, ks3_1, ks2_1, ks1_1, kF_1, kF2_1, kF2_2, kF2_3, kF2_4, kF1_1, kW2_1, kW2_2, kW2_3, kW2_4, kW_1, kW_2, kg_1, ksa_1, ki_1, ki_2, ki_3, kap2_1, kap_1, ksx4_1, ksx3_1, ksx2_1, ksx1_1, kat_1, ko_1, kfin_1, kfin_2, klc2_1, klc_1, kC4_1, kC3_1, kC2_1, kC2_2, kC1_1, ksum_1, kst2_1, kst_1, kst_2, kRev_1, kRev_2, krg_1, krg2_1, krg1_1, kav_1, kav_2, krc_1, runFn_a, out_n, out_s, ini_a, iniL_n, iniL_0, iniL_e, sSeq_a, sSet_a, sPar_a, dNil_a, dCons_a, setAll_n, setAll_c, sIf_a, sRet_a, sExpr_a, sNext_a, sBreak_a, sCont_a, mC_a, mVar_a, mMove_a, fz_a, m1_a, m2_a, tst_a, tNot_a, tAnd_a, tOr_a, tYes_a, mAnd_a, mOr_a, mIf_a, mChain_a, mCall_a, mCallL_a, lNil_a, lCons_a, lLend_a, res_e, res_v, res_s, slot_0, slot_s, put_a, peek_a, lstAt_a, get_v, get_o, get_b, aNil_a, aCons_a, aStar_a, mTup_a, mLst_a, mB_a, mIxS_a, mLenS_a, mIsi_a, pNone_a, pSome_a, mSl_a, sFor_a, forL_n, forL_c, whN_s, gN_a, gT_a, gsC_a, gsN_a, sAsg_a, iSeq_a, sApp_a, sSetIx_a, mLc_a, lcL_n, lcL_c, wipe_n, wipe_c, rest_n, rest_c, allVal_n, allVal_c, mRev_a, mLRg_a, mLRg2_a, lt_int, le_int, gt_int, ge_int, sub_int, add_int, mod_int, fdiv_int, pow_int', mul_ok, eq_int, ne_int, neg_int, not_bl, abs_int, int_int, int_bl, max_2, min_2, max_3, min_3, len_l, len_t, len_s, lenB_l, lenB_t, lenB_s, ix_l, ix_t, ix_s, ixV_a, at_a, tuple_l, tuple_t, list_l, list_t, sum_l, all_l, any_l, isi_int, isi_bool, isi_tup, ix_fr0, ix_fr1, mul_l, cat_l, cat_t, sl_l, sl_t, sl_s, line, L2.ixN, hM0, pw1, pw2, pw3]
theorem law_cells_ok (ns : List Int) (k : Nat) (hk : 0 < k) (hl : ns.length < 100) : c__law_cells [.scr ns, .int k] = some (.own (.lst (rangeD 0 (max 1 (min k ns.length)))), .non) := by
  have e : max (1 : Int) (min (k : Int) ns.length) = ((max 1 (min k ns.length) : Nat) : Int) := by omega
  have h1 : max (1 : Int) (min (k : Int) ns.length) ≤ 16777216 := by omega
  have h2 : 0 ≤ max (1 : Int) (min (k : Int) ns.length) := by omega
  simp only [c__law_cells, cb__law_cells, kSeq_1, kSeq_2, kSeq_3, kSeq_4, kSet_1, kNx_1, kPar_1, kd2_1, kd1_1, kIf_1, kIf_2, kRt_1, kEx_1, kVar_1, kVar_2, kMov_1, kMov_2, kfz_1, kfz_2, kc_1, k1_1, k2b_1, k2a_1, kt_1, kn_1, kAnd_1, kAnd_2, kOr_1, kOr_2, kmA_1, kmA_2, kmO_1, kmO_2, kmI_1, kmI_2, kh4_1, kh3_1, kh3_2, kh2_1, kh1_1, kcb_1, kca_1, kL5_1, kL4_1, kL3_1, kL2_1, kL1_1, kl2_1, kl1_1, kl3_1, kr_1, krs_1, krs_2, kput_1, kput_2, kpk_1, klst_1, klst_2, kbor_1, ka2_1, ka1_1, ktup_1, kls_1, kB_1, kx3_1, kx2_1, kx1_1, kx4_1, kis2_1, kis_1, kp_1, ks3_1, ks2_1, ks1_1, kF_1, kF2_1, kF2_2, kF2_3, kF2_4, kF1_1, kW2_1, kW2_2, kW2_3, kW2_4, kW_1, kW_2, kg_1, ksa_1, ki_1, ki_2, ki_3, kap2_1, kap_1, ksx4_1, ksx3_1, ksx2_1, ksx1_1, kat_1, ko_1, kfin_1, kfin_2, klc2_1, klc_1, kC4_1, kC3_1, kC2_1, kC2_2, kC1_1, ksum_1, kst2_1, kst_1, kst_2, kRev_1, kRev_2, krg_1, krg2_1, krg1_1, kav_1, kav_2, krc_1, runFn_a, out_n, out_s, ini_a, iniL_n, iniL_0, iniL_e, sSeq_a, sSet_a, sPar_a, dNil_a, dCons_a, setAll_n, setAll_c, sIf_a, sRet_a, sExpr_a, sNext_a, sBreak_a, sCont_a, mC_a, mVar_a, mMove_a, fz_a, m1_a, m2_a, tst_a, tNot_a, tAnd_a, tOr_a, tYes_a, mAnd_a, mOr_a, mIf_a, mChain_a, mCall_a, mCallL_a, lNil_a, lCons_a, lLend_a, res_e, res_v, res_s, slot_0, slot_s, put_a, peek_a, lstAt_a, get_v, get_o, get_b, aNil_a, aCons_a, aStar_a, mTup_a, mLst_a, mB_a, mIxS_a, mLenS_a, mIsi_a, pNone_a, pSome_a, mSl_a, sFor_a, forL_n, forL_c, whN_s, gN_a, gT_a, gsC_a, gsN_a, sAsg_a, iSeq_a, sApp_a, sSetIx_a, mLc_a, lcL_n, lcL_c, wipe_n, wipe_c, rest_n, rest_c, allVal_n, allVal_c, mRev_a, mLRg_a, mLRg2_a, lt_int, le_int, gt_int, ge_int, sub_int, add_int, mod_int, fdiv_int, pow_int', mul_ok, eq_int, ne_int, neg_int, not_bl, abs_int, int_int, int_bl, max_2, min_2, max_3, min_3, len_l, len_t, len_s, lenB_l, lenB_t, lenB_s, ix_l, ix_t, ix_s, ixV_a, at_a, tuple_l, tuple_t, list_l, list_t, sum_l, all_l, any_l, isi_int, isi_bool, isi_tup, ix_fr0, ix_fr1, mul_l, cat_l, cat_t, sl_l, sl_t, sl_s, line, L2.ixN, List.length_cons, List.length_nil, List.replicate, List.append_nil, List.cons_append, List.nil_append, Nat.reduceAdd, Nat.reduceSub, List.getElem?_cons_succ, List.getElem?_cons_zero, Nat.sub_self]
  rw [if_pos ⟨h1, h2⟩]
  simp only [kSeq_1, kSeq_2, kSeq_3, kSeq_4, kSet_1, kNx_1, kPar_1, kd2_1, kd1_1, kIf_1, kIf_2, kRt_1, kEx_1, kVar_1, kVar_2, kMov_1, kMov_2, kfz_1, kfz_2, kc_1, k1_1, k2b_1, k2a_1, kt_1, kn_1, kAnd_1, kAnd_2, kOr_1, kOr_2, kmA_1, kmA_2, kmO_1, kmO_2, kmI_1, kmI_2, kh4_1, kh3_1, kh3_2, kh2_1, kh1_1, kcb_1, kca_1, kL5_1, kL4_1, kL3_1, kL2_1, kL1_1, kl2_1, kl1_1, kl3_1, kr_1, krs_1, krs_2, kput_1, kput_2, kpk_1, klst_1, klst_2, kbor_1, ka2_1, ka1_1, ktup_1, kls_1, kB_1, kx3_1, kx2_1, kx1_1, kx4_1, kis2_1, kis_1, kp_1, ks3_1, ks2_1, ks1_1, kF_1, kF2_1, kF2_2, kF2_3, kF2_4, kF1_1, kW2_1, kW2_2, kW2_3, kW2_4, kW_1, kW_2, kg_1, ksa_1, ki_1, ki_2, ki_3, kap2_1, kap_1, ksx4_1, ksx3_1, ksx2_1, ksx1_1, kat_1, ko_1, kfin_1, kfin_2, klc2_1, klc_1, kC4_1, kC3_1, kC2_1, kC2_2, kC1_1, ksum_1, kst2_1, kst_1, kst_2, kRev_1, kRev_2, krg_1, krg2_1, krg1_1, kav_1, kav_2, krc_1, runFn_a, out_n, out_s, ini_a, iniL_n, iniL_0, iniL_e, sSeq_a, sSet_a, sPar_a, dNil_a, dCons_a, setAll_n, setAll_c, sIf_a, sRet_a, sExpr_a, sNext_a, sBreak_a, sCont_a, mC_a, mVar_a, mMove_a, fz_a, m1_a, m2_a, tst_a, tNot_a, tAnd_a, tOr_a, tYes_a, mAnd_a, mOr_a, mIf_a, mChain_a, mCall_a, mCallL_a, lNil_a, lCons_a, lLend_a, res_e, res_v, res_s, slot_0, slot_s, put_a, peek_a, lstAt_a, get_v, get_o, get_b, aNil_a, aCons_a, aStar_a, mTup_a, mLst_a, mB_a, mIxS_a, mLenS_a, mIsi_a, pNone_a, pSome_a, mSl_a, sFor_a, forL_n, forL_c, whN_s, gN_a, gT_a, gsC_a, gsN_a, sAsg_a, iSeq_a, sApp_a, sSetIx_a, mLc_a, lcL_n, lcL_c, wipe_n, wipe_c, rest_n, rest_c, allVal_n, allVal_c, mRev_a, mLRg_a, mLRg2_a, lt_int, le_int, gt_int, ge_int, sub_int, add_int, mod_int, fdiv_int, pow_int', mul_ok, eq_int, ne_int, neg_int, not_bl, abs_int, int_int, int_bl, max_2, min_2, max_3, min_3, len_l, len_t, len_s, lenB_l, lenB_t, lenB_s, ix_l, ix_t, ix_s, ixV_a, at_a, tuple_l, tuple_t, list_l, list_t, sum_l, all_l, any_l, isi_int, isi_bool, isi_tup, ix_fr0, ix_fr1, mul_l, cat_l, cat_t, sl_l, sl_t, sl_s, line, L2.ixN, e]
  unfold intsFT rangeD
  congr 5
end
end Cb

set_option Elab.async false
set_option linter.all false
set_option maxRecDepth 100000
/-! Sums of fractions. -/
namespace Cb
open PySem L2
noncomputable section
def cb_plus_of : MS :=
  (sRet (mCall c_ratio_of (aCons (m2 dAdd (m2 dMul (mIxS 0 (mC (.int 0))) (mIxS 1 (mC (.int 1)))) (m2 dMul (mIxS 1 (mC (.int 0))) (mIxS 0 (mC (.int 1))))) (aCons (m2 dMul (mIxS 0 (mC (.int 1))) (mIxS 1 (mC (.int 1)))) aNil))))
def c_plus_of : List D → Option (DV × D) := runFn none 2 cb_plus_of
def cb_minus_of : MS :=
  (sRet (mCall c_ratio_of (aCons (m2 dSub (m2 dMul (mIxS 0 (mC (.int 0))) (mIxS 1 (mC (.int 1)))) (m2 dMul (mIxS 1 (mC (.int 0))) (mIxS 0 (mC (.int 1))))) (aCons (m2 dMul (mIxS 0 (mC (.int 1))) (mIxS 1 (mC (.int 1)))) aNil))))
def c_minus_of : List D → Option (DV × D) := runFn none 2 cb_minus_of
def cb_times_of : MS :=
  (sRet (mCall c_ratio_of (aCons (m2 dMul (mIxS 0 (mC (.int 0))) (mIxS 1 (mC (.int 0)))) (aCons (m2 dMul (mIxS 0 (mC (.int 1))) (mIxS 1 (mC (.int 1)))) aNil))))
def c_times_of : List D → Option (DV × D) := runFn none 2 cb_times_of
def cb_total_of : MS :=
  (sSeq (sSet 1 (mLst (aStar (mVar 0) (aCons (mC (.tup [(.int 0), (.int 1)])) aNil))))
    (sSeq (sWhile (tst (m2 dGt (mLenS 1) (mC (.int 1)))) (sSeq (sSet 2 (mIf (tst (m2 dEq (m2 dMod (mLenS 1) (mC (.int 2))) (mC (.int 1)))) (mSl (mVar 1) (pSome (m1 dNeg (mC (.int 1)))) pNone) (mLst aNil)))
    (sSet 1 (m2 dAdd (mLc (iZipM (aCons (mSl3 (mVar 1) pNone pNone (pSome (mC (.int 2)))) (aCons (mSl3 (mVar 1) (pSome (mC (.int 1))) pNone (pSome (mC (.int 2)))) aNil))) (gTM (gsCons (gN 3) (gsCons (gN 4) gsNil))) tYesM (mCall c_plus_of (aCons (mVar 3) (aCons (mVar 4) aNil))) [3, 4]) (mVar 2)))))
    (sRet (mIxS 1 (mC (.int 0))))))
def c_total_of : List D → Option (DV × D) := runFn none 5 cb_total_of
def cb_summed : MS :=
  (sRet (mCall c_total_of (aCons (mLc (iZipM (aCons (mVar 0) (aCons (mVar 1) aNil))) (gTM (gsCons (gN 2) (gsCons (gN 3) gsNil))) tYesM (mCall c_times_of (aCons (mVar 2) (aCons (mVar 3) aNil))) [2, 3]) aNil)))
def c_summed : List D → Option (DV × D) := runFn none 4 cb_summed
def cb_power_of : MS :=
  (sRet (mCall c_ratio_of (aCons (mCall c_whole_power (aCons (mIxS 0 (mC (.int 0))) (aCons (mVar 1) aNil))) (aCons (mCall c_whole_power (aCons (mIxS 0 (mC (.int 1))) (aCons (mVar 1) aNil))) aNil))))
def c_power_of : List D → Option (DV × D) := runFn none 2 cb_power_of
def cb__law_times : MS :=
  (sRet (mCall c__law_ratio (aCons (m2 dMul (mIxS 0 (mC (.int 0))) (mIxS 1 (mC (.int 0)))) (aCons (m2 dMul (mIxS 0 (mC (.int 1))) (mIxS 1 (mC (.int 1)))) aNil))))
def c__law_times : List D → Option (DV × D) := runFn none 2 cb__law_times
def cb__law_less : MS :=
  (sRet (mCall c__law_plus (aCons (mVar 0) (aCons (mTup (aCons (m1 dNeg (mIxS 1 (mC (.int 0)))) (aCons (mIxS 1 (mC (.int 1))) aNil))) aNil))))
def c__law_less : List D → Option (DV × D) := runFn none 2 cb__law_less
def cb__law_some (F G H : Int) : MS :=
  (sSeq (sPar [3, 4] (dCons (mB dList (aCons (mVar 1) aNil)) (dCons (mLst aNil) dNil)))
    (sSeq (sFor (iRng (aCons (mVar 2) aNil)) (gN 5) (sApp 4 (mPopAt 3 (mCallL 0 (c__law_take F G H) (lLend 0 (lCons (mLenS 3) lNil))))))
    (sRet (mMove 4))))
def c__law_some (F G H : Int) : List D → Option (DV × D) := runFn (some 0) 6 (cb__law_some F G H)
def cb_check_draws : MS :=
  (sIf (tNotm (tst (mCall c_is_integer (aCons (mVar 0) (aCons (mC (.int 0)) (aCons (mVar 1) aNil)))))) sNever sNext)
def c_check_draws : List D → Option (DV × D) := runFn none 2 cb_check_draws
def cb_falling_of : MS :=
  (sSeq (sSet 2 (mC (.int 1)))
    (sSeq (sFor (iRng (aCons (mVar 1) aNil)) (gN 3) (sSet 2 (m2 dMul (mVar 2) (m2 dSub (mVar 0) (mVar 3)))))
    (sRet (mMove 2))))
def c_falling_of : List D → Option (DV × D) := runFn none 4 cb_falling_of
/-! ### every other item -/
def evens {α : Type} : List α → List α
  | [] => []
  | [a] => [a]
  | a :: _ :: r => a :: evens r
def odds {α : Type} : List α → List α
  | [] => []
  | [_] => []
  | _ :: b :: r => b :: odds r
theorem ev_pick {α : Type} : ∀ xs : List α, ((List.range ((xs.length + 1) / 2)).filterMap fun k => xs[2 * k]?) = evens xs
  | [] => by simp [evens]
  | [a] => by simp [evens, List.range, List.range.loop]
  | a :: b :: r => by
    have ih := ev_pick r
    have e : ((a :: b :: r).length + 1) / 2 = (r.length + 1) / 2 + 1 := by simp only [List.length_cons]; omega
    rw [e, List.range_succ_eq_map, List.filterMap_cons]
    simp only [Nat.mul_zero, List.getElem?_cons_zero, List.filterMap_map]
    show a :: _ = a :: evens r
    rw [← ih]
    congr 1
theorem od_pick {α : Type} : ∀ xs : List α, ((List.range (xs.length / 2)).filterMap fun k => xs[1 + 2 * k]?) = odds xs
  | [] => by simp [odds]
  | [a] => by simp [odds, List.range, List.range.loop]
  | a :: b :: r => by
    have ih := od_pick r
    have e : (a :: b :: r).length / 2 = r.length / 2 + 1 := by simp only [List.length_cons]; omega
    rw [e, List.range_succ_eq_map, List.filterMap_cons]
    simp only [Nat.mul_zero, Nat.add_zero, List.getElem?_cons_zero, List.getElem?_cons_succ, List.filterMap_map]
    show b :: _ = b :: odds r
    rw [← ih]
    congr 1
theorem pick_ev {α : Type} (xs : List α) : pickG xs none none (some 2) = evens xs := by
  rw [← ev_pick]
  unfold pickG sliceBounds sliceRange
  simp only [Option.getD_some]
  rw [List.filterMap_map]
  have e : (if (0 : Int) < (xs.length : Int) then ((xs.length : Int) - 0 + 2 - 1) / 2 else 0).toNat = (xs.length + 1) / 2 := by split <;> omega
  simp only [show ((2 : Int) > 0) = True from by simp, if_true, e]
  congr 1
  funext k
  show xs[((0 : Int) + 2 * (k : Int)).toNat]? = xs[2 * k]?
  congr 1; omega
theorem pick_od {α : Type} (xs : List α) : pickG xs (some 1) none (some 2) = odds xs := by
  rw [← od_pick]
  unfold pickG sliceBounds sliceRange
  simp only [Option.getD_some]
  rw [List.filterMap_map]
  have e : (if max (0 : Int) (min 1 (xs.length : Int)) < (xs.length : Int) then ((xs.length : Int) - max 0 (min 1 (xs.length : Int)) + 2 - 1) / 2 else 0).toNat = xs.length / 2 := by split <;> omega
  simp only [show ((2 : Int) > 0) = True from by simp, show ((1 : Int) < 0) = False from by simp, if_true, if_false, e]
  cases xs with
  | nil => rfl
  | cons x xs =>
    congr 1
    funext k
    show (x :: xs)[(max (0 : Int) (min 1 ((x :: xs).length : Int)) + 2 * (k : Int)).toNat]? = (x :: xs)[1 + 2 * k]?
    congr 1
    simp only [List.length_cons]; omega
/-! ### sums by pairs -/
def pairs : List Rat → List Rat
  | [] => []
  | [a] => [a]
  | a :: b :: r => (a + b) :: pairs r
theorem pairs_sum : ∀ xs : List Rat, (pairs xs).sum = xs.sum
  | [] => rfl
  | [a] => rfl
  | a :: b :: r => by
    show (a + b) + (pairs r).sum = a + (b + r.sum)
    rw [pairs_sum r]; grind
theorem pairs_len : ∀ xs : List Rat, (pairs xs).length = (xs.length + 1) / 2
  | [] => rfl
  | [a] => by simp [pairs]
  | a :: b :: r => by
    show (pairs r).length + 1 = (r.length + 1 + 1 + 1) / 2
    rw [pairs_len r]; omega
/-! ### a common denominator bounds all sizes -/
def Dv (W : Nat) (q : Rat) : Prop := q.den ∣ W
theorem Dv.add {W : Nat} {p q : Rat} (hp : Dv W p) (hq : Dv W q) : Dv W (p + q) := by
  obtain ⟨a, ha⟩ := hp
  obtain ⟨b, hb⟩ := hq
  unfold Dv
  by_cases hW : W = 0
  · rw [hW]; exact Nat.dvd_zero _
  have e : p + q = mkRat (p.num * a + q.num * b) W := by
    have h1 : p = mkRat (p.num * a) W := by
      rw [ha]; exact ((Rat.mkRat_mul_right (by intro z; rw [z] at ha; simp at ha; exact hW ha)).trans (Rat.mkRat_self p)).symm
    have h2 : q = mkRat (q.num * b) W := by
      rw [hb]; exact ((Rat.mkRat_mul_right (by intro z; rw [z] at hb; simp at hb; exact hW hb)).trans (Rat.mkRat_self q)).symm
    have h3 : mkRat (p.num * a + q.num * b) W = mkRat (p.num * a) W + mkRat (q.num * b) W := by
      rw [Rat.mkRat_eq_div, Rat.mkRat_eq_div, Rat.mkRat_eq_div, Rat.intCast_add]
      grind
    rw [h3, ← h1, ← h2]
  rw [e, Rat.den_mkRat, if_neg hW]
  exact Nat.div_dvd_of_dvd (Nat.gcd_dvd_left _ _)
theorem Dv.neg {W : Nat} {p : Rat} (hp : Dv W p) : Dv W (-p) := by unfold Dv; rw [Rat.neg_den]; exact hp
theorem Dv.sub {W : Nat} {p q : Rat} (hp : Dv W p) (hq : Dv W q) : Dv W (p - q) := by
  rw [Rat.sub_eq_add_neg]; exact hp.add hq.neg
theorem Dv.mul {W V : Nat} {p q : Rat} (hp : Dv W p) (hq : Dv V q) : Dv (W * V) (p * q) := by
  unfold Dv
  rw [Rat.mul_def', Rat.den_mkRat, if_neg (Nat.mul_ne_zero p.den_nz q.den_nz)]
  exact Nat.dvd_trans (Nat.div_dvd_of_dvd (Nat.gcd_dvd_left _ _)) (Nat.mul_dvd_mul hp hq)
theorem Dv.int {W : Nat} (a : Int) : Dv W (a : Rat) := by unfold Dv; simp
theorem Dv.mono {W V : Nat} {p : Rat} (hp : Dv W p) (h : W ∣ V) : Dv V p := Nat.dvd_trans hp h
theorem Dv.pow {W : Nat} {p : Rat} (hp : Dv W p) (k : Nat) : Dv (W ^ k) (p ^ k) := by
  obtain ⟨c, hc⟩ := hp
  unfold Dv
  rw [Rat.den_pow, hc, Nat.mul_pow]
  exact Nat.dvd_mul_right _ _
theorem Dv.fs {W : Nat} {p : Rat} (hp : Dv W p) {n m : Nat} (hW : 0 < W) (hn : W < 2 ^ n) (h1 : p ≤ (2 : Rat) ^ m) (h2 : -(2 : Rat) ^ m ≤ p) : Fs (n + m) p := by
  have hd : p.den ≤ W := Nat.le_of_dvd hW hp
  have dp := p.den_pos
  have e2 : (0 : Nat) < 2 ^ m := Nat.two_pow_pos m
  have q : ((2 : Rat) ^ m) = ((2 ^ m : Nat) : Rat) := by rw [Rat.natCast_pow]; rfl
  rw [q] at h1 h2
  have g1 : p.num ≤ (2 ^ m : Nat) * p.den := by
    have := (Rat.le_iff _ _).mp h1
    simpa using this
  have g2 : -((2 ^ m : Nat) : Int) * p.den ≤ p.num := by
    have := (Rat.le_iff _ _).mp h2
    simpa using this
  have g3 : (2 ^ m) * p.den ≤ (2 ^ m) * W := Nat.mul_le_mul_left _ hd
  have g4 : (2 ^ m) * W < 2 ^ m * 2 ^ n := Nat.mul_lt_mul_of_pos_left hn e2
  have g5 : ((2 ^ m : Nat) : Int) * (p.den : Int) = (((2 ^ m) * p.den : Nat) : Int) := by rw [Int.natCast_mul]
  constructor
  · unfold Sz
    rw [Nat.pow_add, Nat.mul_comm]
    rw [Int.neg_mul, g5] at g2
    rw [g5] at g1
    omega
  · unfold Sz
    rw [Nat.pow_add, Nat.mul_comm]
    have : W ≤ 2 ^ m * W := Nat.le_mul_of_pos_left _ e2
    simp; omega
/-! ### the program's fractions -/
theorem plus_of_ok {p q : Rat} {n m : Nat} (hp : Fs n p) (hq : Fs m q) (hn : n + m < 9000 := by decide) : c_plus_of [fr p, fr q] = ok (fr (p + q)) := by
  have m1 : MulOk p.num q.den := hp.1.mulOk hq.2 (by omega)
  have m2 : MulOk q.num p.den := hq.1.mulOk hp.2 (by omega)
  have m3 : MulOk p.den q.den := hp.2.mulOk hq.2 (by omega)
  have hr := ratio_of_ok (a := p.num * q.den + q.num * p.den) (den_ne2 p q) (hp.2.mul hq.2) hn
  rw [rat_add] at hr
  simp only [c_plus_of, cb_plus_of, kSeq_1, kSeq_2, kSeq_3, kSeq_4, kSet_1, kNx_1, kPar_1, kd2_1, kd1_1, kIf_1, kIf_2, kRt_1, kEx_1, kVar_1, kVar_2, kMov_1, kMov_2, kfz_1, kfz_2, kc_1, k1_1, k2b_1, k2a_1, kt_1, kn_1, kAnd_1, kAnd_2, kOr_1, kOr_2, kmA_1, kmA_2, kmO_1, kmO_2, kmI_1, kmI_2, kh4_1, kh3_1, kh3_2, kh2_1, kh1_1, kcb_1, kca_1, kL5_1, kL4_1, kL3_1, kL2_1, kL1_1, kl2_1, kl1_1, kl3_1, kr_1, krs_1, krs_2, kput_1, kput_2, kpk_1, klst_1, klst_2, kbor_1, ka2_1, ka1_1, ktup_1, kls_1, kB_1, kx3_1, kx2_1, kx1_1, kx4_1, kis2_1, kis_1, kp_1, ks3_1, ks2_1, ks1_1, kF_1, kF2_1, kF2_2, kF2_3, kF2_4, kF1_1, kW2_1, kW2_2, kW2_3, kW2_4, kW_1, kW_2, kg_1, ksa_1, ki_1, ki_2, ki_3, kap2_1, kap_1, ksx4_1, ksx3_1, ksx2_1, ksx1_1, kat_1, ko_1, kfin_1, kfin_2, klc2_1, klc_1, kC4_1, kC3_1, kC2_1, kC2_2, kC1_1, ksum_1, kst2_1, kst_1, kst_2, kRev_1, kRev_2, krg_1, krg2_1, krg1_1, kav_1, kav_2, krc_1, runFn_a, out_n, out_s, ini_a, iniL_n, iniL_0, iniL_e, sSeq_a, sSet_a, sPar_a, dNil_a, dCons_a, setAll_n, setAll_c, sIf_a, sRet_a, sExpr_a, sNext_a, sBreak_a, sCont_a, mC_a, mVar_a, mMove_a, fz_a, m1_a, m2_a, tst_a, tNot_a, tAnd_a, tOr_a, tYes_a, mAnd_a, mOr_a, mIf_a, mChain_a, mCall_a, mCallL_a, lNil_a, lCons_a, lLend_a, res_e, res_v, res_s, slot_0, slot_s, put_a, peek_a, lstAt_a, get_v, get_o, get_b, aNil_a, aCons_a, aStar_a, mTup_a, mLst_a, mB_a, mIxS_a, mLenS_a, mIsi_a, pNone_a, pSome_a, mSl_a, sFor_a, forL_n, forL_c, whN_s, gN_a, gT_a, gsC_a, gsN_a, sAsg_a, iSeq_a, sApp_a, sSetIx_a, mLc_a, lcL_n, lcL_c, wipe_n, wipe_c, rest_n, rest_c, allVal_n, allVal_c, mRev_a, mLRg_a, mLRg2_a, lt_int, le_int, gt_int, ge_int, sub_int, add_int, mod_int, fdiv_int, pow_int', mul_ok, eq_int, ne_int, neg_int, not_bl, abs_int, int_int, int_bl, max_2, min_2, max_3, min_3, len_l, len_t, len_s, lenB_l, lenB_t, lenB_s, ix_s, ixV_a, tuple_l, tuple_t, list_l, list_t, sum_l, all_l, any_l, isi_int, isi_bool, isi_tup, ix_fr0, ix_fr1, mul_l, cat_l, cat_t, sl_l, sl_t, sl_s, line, Nat.one_ne_zero, Nat.reduceEqDiff, reduceCtorEq, Bool.not_true, Bool.not_false, decide_true, decide_false, Bool.and_self, Bool.and_true, Bool.true_and, List.length_cons, List.length_nil, List.replicate, List.append_nil, List.cons_append, List.nil_append, Nat.reduceAdd, Nat.reduceSub, List.getElem?_cons_succ, List.getElem?_cons_zero, Nat.sub_self, List.set_cons_succ, List.set_cons_zero, ↓reduceIte, Nat.reduceLeDiff, Nat.reduceLT, m1, m2, m3, hr]
theorem minus_of_ok {p q : Rat} {n m : Nat} (hp : Fs n p) (hq : Fs m q) (hn : n + m < 9000 := by decide) : c_minus_of [fr p, fr q] = ok (fr (p - q)) := by
  have m1 : MulOk p.num q.den := hp.1.mulOk hq.2 (by omega)
  have m2 : MulOk q.num p.den := hq.1.mulOk hp.2 (by omega)
  have m3 : MulOk p.den q.den := hp.2.mulOk hq.2 (by omega)
  have hr := ratio_of_ok (a := p.num * q.den - q.num * p.den) (den_ne2 p q) (hp.2.mul hq.2) hn
  rw [rat_sub] at hr
  simp only [c_minus_of, cb_minus_of, kSeq_1, kSeq_2, kSeq_3, kSeq_4, kSet_1, kNx_1, kPar_1, kd2_1, kd1_1, kIf_1, kIf_2, kRt_1, kEx_1, kVar_1, kVar_2, kMov_1, kMov_2, kfz_1, kfz_2, kc_1, k1_1, k2b_1, k2a_1, kt_1, kn_1, kAnd_1, kAnd_2, kOr_1, kOr_2, kmA_1, kmA_2, kmO_1, kmO_2, kmI_1, kmI_2, kh4_1, kh3_1, kh3_2, kh2_1, kh1_1, kcb_1, kca_1, kL5_1, kL4_1, kL3_1, kL2_1, kL1_1, kl2_1, kl1_1, kl3_1, kr_1, krs_1, krs_2, kput_1, kput_2, kpk_1, klst_1, klst_2, kbor_1, ka2_1, ka1_1, ktup_1, kls_1, kB_1, kx3_1, kx2_1, kx1_1, kx4_1, kis2_1, kis_1, kp_1, ks3_1, ks2_1, ks1_1, kF_1, kF2_1, kF2_2, kF2_3, kF2_4, kF1_1, kW2_1, kW2_2, kW2_3, kW2_4, kW_1, kW_2, kg_1, ksa_1, ki_1, ki_2, ki_3, kap2_1, kap_1, ksx4_1, ksx3_1, ksx2_1, ksx1_1, kat_1, ko_1, kfin_1, kfin_2, klc2_1, klc_1, kC4_1, kC3_1, kC2_1, kC2_2, kC1_1, ksum_1, kst2_1, kst_1, kst_2, kRev_1, kRev_2, krg_1, krg2_1, krg1_1, kav_1, kav_2, krc_1, runFn_a, out_n, out_s, ini_a, iniL_n, iniL_0, iniL_e, sSeq_a, sSet_a, sPar_a, dNil_a, dCons_a, setAll_n, setAll_c, sIf_a, sRet_a, sExpr_a, sNext_a, sBreak_a, sCont_a, mC_a, mVar_a, mMove_a, fz_a, m1_a, m2_a, tst_a, tNot_a, tAnd_a, tOr_a, tYes_a, mAnd_a, mOr_a, mIf_a, mChain_a, mCall_a, mCallL_a, lNil_a, lCons_a, lLend_a, res_e, res_v, res_s, slot_0, slot_s, put_a, peek_a, lstAt_a, get_v, get_o, get_b, aNil_a, aCons_a, aStar_a, mTup_a, mLst_a, mB_a, mIxS_a, mLenS_a, mIsi_a, pNone_a, pSome_a, mSl_a, sFor_a, forL_n, forL_c, whN_s, gN_a, gT_a, gsC_a, gsN_a, sAsg_a, iSeq_a, sApp_a, sSetIx_a, mLc_a, lcL_n, lcL_c, wipe_n, wipe_c, rest_n, rest_c, allVal_n, allVal_c, mRev_a, mLRg_a, mLRg2_a, lt_int, le_int, gt_int, ge_int, sub_int, add_int, mod_int, fdiv_int, pow_int', mul_ok, eq_int, ne_int, neg_int, not_bl, abs_int, int_int, int_bl, max_2, min_2, max_3, min_3, len_l, len_t, len_s, lenB_l, lenB_t, lenB_s, ix_s, ixV_a, tuple_l, tuple_t, list_l, list_t, sum_l, all_l, any_l, isi_int, isi_bool, isi_tup, ix_fr0, ix_fr1, mul_l, cat_l, cat_t, sl_l, sl_t, sl_s, line, Nat.one_ne_zero, Nat.reduceEqDiff, reduceCtorEq, Bool.not_true, Bool.not_false, decide_true, decide_false, Bool.and_self, Bool.and_true, Bool.true_and, List.length_cons, List.length_nil, List.replicate, List.append_nil, List.cons_append, List.nil_append, Nat.reduceAdd, Nat.reduceSub, List.getElem?_cons_succ, List.getElem?_cons_zero, Nat.sub_self, List.set_cons_succ, List.set_cons_zero, ↓reduceIte, Nat.reduceLeDiff, Nat.reduceLT, m1, m2, m3, hr]
theorem times_of_ok {p q : Rat} {n m : Nat} (hp : Fs n p) (hq : Fs m q) (hn : n + m < 9000 := by decide) : c_times_of [fr p, fr q] = ok (fr (p * q)) := by
  have m1 : MulOk p.num q.num := hp.1.mulOk hq.1 (by omega)
  have m3 : MulOk p.den q.den := hp.2.mulOk hq.2 (by omega)
  have hr := ratio_of_ok (a := p.num * q.num) (den_ne2 p q) (hp.2.mul hq.2) hn
  rw [rat_mul] at hr
  simp only [c_times_of, cb_times_of, kSeq_1, kSeq_2, kSeq_3, kSeq_4, kSet_1, kNx_1, kPar_1, kd2_1, kd1_1, kIf_1, kIf_2, kRt_1, kEx_1, kVar_1, kVar_2, kMov_1, kMov_2, kfz_1, kfz_2, kc_1, k1_1, k2b_1, k2a_1, kt_1, kn_1, kAnd_1, kAnd_2, kOr_1, kOr_2, kmA_1, kmA_2, kmO_1, kmO_2, kmI_1, kmI_2, kh4_1, kh3_1, kh3_2, kh2_1, kh1_1, kcb_1, kca_1, kL5_1, kL4_1, kL3_1, kL2_1, kL1_1, kl2_1, kl1_1, kl3_1, kr_1, krs_1, krs_2, kput_1, kput_2, kpk_1, klst_1, klst_2, kbor_1, ka2_1, ka1_1, ktup_1, kls_1, kB_1, kx3_1, kx2_1, kx1_1, kx4_1, kis2_1, kis_1, kp_1, ks3_1, ks2_1, ks1_1, kF_1, kF2_1, kF2_2, kF2_3, kF2_4, kF1_1, kW2_1, kW2_2, kW2_3, kW2_4, kW_1, kW_2, kg_1, ksa_1, ki_1, ki_2, ki_3, kap2_1, kap_1, ksx4_1, ksx3_1, ksx2_1, ksx1_1, kat_1, ko_1, kfin_1, kfin_2, klc2_1, klc_1, kC4_1, kC3_1, kC2_1, kC2_2, kC1_1, ksum_1, kst2_1, kst_1, kst_2, kRev_1, kRev_2, krg_1, krg2_1, krg1_1, kav_1, kav_2, krc_1, runFn_a, out_n, out_s, ini_a, iniL_n, iniL_0, iniL_e, sSeq_a, sSet_a, sPar_a, dNil_a, dCons_a, setAll_n, setAll_c, sIf_a, sRet_a, sExpr_a, sNext_a, sBreak_a, sCont_a, mC_a, mVar_a, mMove_a, fz_a, m1_a, m2_a, tst_a, tNot_a, tAnd_a, tOr_a, tYes_a, mAnd_a, mOr_a, mIf_a, mChain_a, mCall_a, mCallL_a, lNil_a, lCons_a, lLend_a, res_e, res_v, res_s, slot_0, slot_s, put_a, peek_a, lstAt_a, get_v, get_o, get_b, aNil_a, aCons_a, aStar_a, mTup_a, mLst_a, mB_a, mIxS_a, mLenS_a, mIsi_a, pNone_a, pSome_a, mSl_a, sFor_a, forL_n, forL_c, whN_s, gN_a, gT_a, gsC_a, gsN_a, sAsg_a, iSeq_a, sApp_a, sSetIx_a, mLc_a, lcL_n, lcL_c, wipe_n, wipe_c, rest_n, rest_c, allVal_n, allVal_c, mRev_a, mLRg_a, mLRg2_a, lt_int, le_int, gt_int, ge_int, sub_int, add_int, mod_int, fdiv_int, pow_int', mul_ok, eq_int, ne_int, neg_int, not_bl, abs_int, int_int, int_bl, max_2, min_2, max_3, min_3, len_l, len_t, len_s, lenB_l, lenB_t, lenB_s, ix_s, ixV_a, tuple_l, tuple_t, list_l, list_t, sum_l, all_l, any_l, isi_int, isi_bool, isi_tup, ix_fr0, ix_fr1, mul_l, cat_l, cat_t, sl_l, sl_t, sl_s, line, Nat.one_ne_zero, Nat.reduceEqDiff, reduceCtorEq, Bool.not_true, Bool.not_false, decide_true, decide_false, Bool.and_self, Bool.and_true, Bool.true_and, List.length_cons, List.length_nil, List.replicate, List.append_nil, List.cons_append, List.nil_append, Nat.reduceAdd, Nat.reduceSub, List.getElem?_cons_succ, List.getElem?_cons_zero, Nat.sub_self, List.set_cons_succ, List.set_cons_zero, ↓reduceIte, Nat.reduceLeDiff, Nat.reduceLT, m1, m3, hr]
theorem law_times_ok {p q : Rat} {n m : Nat} (hp : Fs n p) (hq : Fs m q) (hn : n + m < 9000 := by decide) : c__law_times [fr p, fr q] = ok (fr (p * q)) := by
  have m1 : MulOk p.num q.num := hp.1.mulOk hq.1 (by omega)
  have m3 : MulOk p.den q.den := hp.2.mulOk hq.2 (by omega)
  have hr := law_ratio_ok (a := p.num * q.num) (den_ne2 p q) (hp.2.mul hq.2) hn
  rw [rat_mul] at hr
  simp only [c__law_times, cb__law_times, kSeq_1, kSeq_2, kSeq_3, kSeq_4, kSet_1, kNx_1, kPar_1, kd2_1, kd1_1, kIf_1, kIf_2, kRt_1, kEx_1, kVar_1, kVar_2, kMov_1, kMov_2, kfz_1, kfz_2, kc_1, k1_1, k2b_1, k2a_1, kt_1, kn_1, kAnd_1, kAnd_2, kOr_1, kOr_2, kmA_1, kmA_2, kmO_1, kmO_2, kmI_1, kmI_2, kh4_1, kh3_1, kh3_2, kh2_1, kh1_1, kcb_1, kca_1, kL5_1, kL4_1, kL3_1, kL2_1, kL1_1, kl2_1, kl1_1, kl3_1, kr_1, krs_1, krs_2, kput_1, kput_2, kpk_1, klst_1, klst_2, kbor_1, ka2_1, ka1_1, ktup_1, kls_1, kB_1, kx3_1, kx2_1, kx1_1, kx4_1, kis2_1, kis_1, kp_1, ks3_1, ks2_1, ks1_1, kF_1, kF2_1, kF2_2, kF2_3, kF2_4, kF1_1, kW2_1, kW2_2, kW2_3, kW2_4, kW_1, kW_2, kg_1, ksa_1, ki_1, ki_2, ki_3, kap2_1, kap_1, ksx4_1, ksx3_1, ksx2_1, ksx1_1, kat_1, ko_1, kfin_1, kfin_2, klc2_1, klc_1, kC4_1, kC3_1, kC2_1, kC2_2, kC1_1, ksum_1, kst2_1, kst_1, kst_2, kRev_1, kRev_2, krg_1, krg2_1, krg1_1, kav_1, kav_2, krc_1, runFn_a, out_n, out_s, ini_a, iniL_n, iniL_0, iniL_e, sSeq_a, sSet_a, sPar_a, dNil_a, dCons_a, setAll_n, setAll_c, sIf_a, sRet_a, sExpr_a, sNext_a, sBreak_a, sCont_a, mC_a, mVar_a, mMove_a, fz_a, m1_a, m2_a, tst_a, tNot_a, tAnd_a, tOr_a, tYes_a, mAnd_a, mOr_a, mIf_a, mChain_a, mCall_a, mCallL_a, lNil_a, lCons_a, lLend_a, res_e, res_v, res_s, slot_0, slot_s, put_a, peek_a, lstAt_a, get_v, get_o, get_b, aNil_a, aCons_a, aStar_a, mTup_a, mLst_a, mB_a, mIxS_a, mLenS_a, mIsi_a, pNone_a, pSome_a, mSl_a, sFor_a, forL_n, forL_c, whN_s, gN_a, gT_a, gsC_a, gsN_a, sAsg_a, iSeq_a, sApp_a, sSetIx_a, mLc_a, lcL_n, lcL_c, wipe_n, wipe_c, rest_n, rest_c, allVal_n, allVal_c, mRev_a, mLRg_a, mLRg2_a, lt_int, le_int, gt_int, ge_int, sub_int, add_int, mod_int, fdiv_int, pow_int', mul_ok, eq_int, ne_int, neg_int, not_bl, abs_int, int_int, int_bl, max_2, min_2, max_3, min_3, len_l, len_t, len_s, lenB_l, lenB_t, lenB_s, ix_s, ixV_a, tuple_l, tuple_t, list_l, list_t, sum_l, all_l, any_l, isi_int, isi_bool, isi_tup, ix_fr0, ix_fr1, mul_l, cat_l, cat_t, sl_l, sl_t, sl_s, line, Nat.one_ne_zero, Nat.reduceEqDiff, reduceCtorEq, Bool.not_true, Bool.not_false, decide_true, decide_false, Bool.and_self, Bool.and_true, Bool.true_and, List.length_cons, List.length_nil, List.replicate, List.append_nil, List.cons_append, List.nil_append, Nat.reduceAdd, Nat.reduceSub, List.getElem?_cons_succ, List.getElem?_cons_zero, Nat.sub_self, List.set_cons_succ, List.set_cons_zero, ↓reduceIte, Nat.reduceLeDiff, Nat.reduceLT, m1, m3, hr]
theorem Fs.neg {n : Nat} {q : Rat} (h : Fs n q) : Fs n (-q) := ⟨by rw [Rat.neg_num]; exact h.1.neg, by rw [Rat.neg_den]; exact h.2⟩
theorem law_less_ok {p q : Rat} {n m : Nat} (hp : Fs n p) (hq : Fs m q) (hn : n + m < 9000 := by decide) : c__law_less [fr p, fr q] = ok (fr (p - q)) := by
  have h := law_plus_ok hp hq.neg hn
  rw [← Rat.sub_eq_add_neg] at h
  have e : fr (-q) = .tup [.int (-q.num), .int q.den] := rfl
  rw [e] at h
  simp only [c__law_less, cb__law_less, kSeq_1, kSeq_2, kSeq_3, kSeq_4, kSet_1, kNx_1, kPar_1, kd2_1, kd1_1, kIf_1, kIf_2, kRt_1, kEx_1, kVar_1, kVar_2, kMov_1, kMov_2, kfz_1, kfz_2, kc_1, k1_1, k2b_1, k2a_1, kt_1, kn_1, kAnd_1, kAnd_2, kOr_1, kOr_2, kmA_1, kmA_2, kmO_1, kmO_2, kmI_1, kmI_2, kh4_1, kh3_1, kh3_2, kh2_1, kh1_1, kcb_1, kca_1, kL5_1, kL4_1, kL3_1, kL2_1, kL1_1, kl2_1, kl1_1, kl3_1, kr_1, krs_1, krs_2, kput_1, kput_2, kpk_1, klst_1, klst_2, kbor_1, ka2_1, ka1_1, ktup_1, kls_1, kB_1, kx3_1, kx2_1, kx1_1, kx4_1, kis2_1, kis_1, kp_1, ks3_1, ks2_1, ks1_1, kF_1, kF2_1, kF2_2, kF2_3, kF2_4, kF1_1, kW2_1, kW2_2, kW2_3, kW2_4, kW_1, kW_2, kg_1, ksa_1, ki_1, ki_2, ki_3, kap2_1, kap_1, ksx4_1, ksx3_1, ksx2_1, ksx1_1, kat_1, ko_1, kfin_1, kfin_2, klc2_1, klc_1, kC4_1, kC3_1, kC2_1, kC2_2, kC1_1, ksum_1, kst2_1, kst_1, kst_2, kRev_1, kRev_2, krg_1, krg2_1, krg1_1, kav_1, kav_2, krc_1, runFn_a, out_n, out_s, ini_a, iniL_n, iniL_0, iniL_e, sSeq_a, sSet_a, sPar_a, dNil_a, dCons_a, setAll_n, setAll_c, sIf_a, sRet_a, sExpr_a, sNext_a, sBreak_a, sCont_a, mC_a, mVar_a, mMove_a, fz_a, m1_a, m2_a, tst_a, tNot_a, tAnd_a, tOr_a, tYes_a, mAnd_a, mOr_a, mIf_a, mChain_a, mCall_a, mCallL_a, lNil_a, lCons_a, lLend_a, res_e, res_v, res_s, slot_0, slot_s, put_a, peek_a, lstAt_a, get_v, get_o, get_b, aNil_a, aCons_a, aStar_a, mTup_a, mLst_a, mB_a, mIxS_a, mLenS_a, mIsi_a, pNone_a, pSome_a, mSl_a, sFor_a, forL_n, forL_c, whN_s, gN_a, gT_a, gsC_a, gsN_a, sAsg_a, iSeq_a, sApp_a, sSetIx_a, mLc_a, lcL_n, lcL_c, wipe_n, wipe_c, rest_n, rest_c, allVal_n, allVal_c, mRev_a, mLRg_a, mLRg2_a, lt_int, le_int, gt_int, ge_int, sub_int, add_int, mod_int, fdiv_int, pow_int', mul_ok, eq_int, ne_int, neg_int, not_bl, abs_int, int_int, int_bl, max_2, min_2, max_3, min_3, len_l, len_t, len_s, lenB_l, lenB_t, lenB_s, ix_s, ixV_a, tuple_l, tuple_t, list_l, list_t, sum_l, all_l, any_l, isi_int, isi_bool, isi_tup, ix_fr0, ix_fr1, mul_l, cat_l, cat_t, sl_l, sl_t, sl_s, line, Nat.one_ne_zero, Nat.reduceEqDiff, reduceCtorEq, Bool.not_true, Bool.not_false, decide_true, decide_false, Bool.and_self, Bool.and_true, Bool.true_and, List.length_cons, List.length_nil, List.replicate, List.append_nil, List.cons_append, List.nil_append, Nat.reduceAdd, Nat.reduceSub, List.getElem?_cons_succ, List.getElem?_cons_zero, Nat.sub_self, List.set_cons_succ, List.set_cons_zero, ↓reduceIte, Nat.reduceLeDiff, Nat.reduceLT, h, Nat.reduceLeDiff]
theorem q_num' (q : Rat) : ((q.num : Int) : Rat) / ((q.den : Int) : Rat) = q := by
  rw [← Rat.divInt_eq_div, Rat.divInt_ofNat, Rat.mkRat_self]
theorem power_of_ok {q : Rat} {n k : Nat} (hq : Fs n q) (hk : n * k + 1 < 9000) (hk2 : k ≤ 100000) (hn : n < 9000) : c_power_of [fr q, .int k] = ok (fr (q ^ k)) := by
  have l : n * (k + 2) < 900000 := by rw [Nat.mul_add]; omega
  have h1 := whole_power_ok (k := k) hq.1 l (by omega)
  have h2 := whole_power_ok (k := k) hq.2 l (by omega)
  have hne : (q.den : Int) ^ k ≠ 0 := by
    have : (0 : Int) < (q.den : Int) ^ k := Int.pow_pos (by have := q.den_pos; omega)
    omega
  have hr := ratio_of_ok (a := q.num ^ k) hne (hq.2.pow k) hk
  have e : ((q.num ^ k : Int) : Rat) / (((q.den : Int) ^ k : Int) : Rat) = q ^ k := by
    have := q_num' (q ^ k)
    rw [Rat.num_pow, Rat.den_pow] at this
    rw [← this, Int.natCast_pow]
  rw [e] at hr
  simp only [c_power_of, cb_power_of, kSeq_1, kSeq_2, kSeq_3, kSeq_4, kSet_1, kNx_1, kPar_1, kd2_1, kd1_1, kIf_1, kIf_2, kRt_1, kEx_1, kVar_1, kVar_2, kMov_1, kMov_2, kfz_1, kfz_2, kc_1, k1_1, k2b_1, k2a_1, kt_1, kn_1, kAnd_1, kAnd_2, kOr_1, kOr_2, kmA_1, kmA_2, kmO_1, kmO_2, kmI_1, kmI_2, kh4_1, kh3_1, kh3_2, kh2_1, kh1_1, kcb_1, kca_1, kL5_1, kL4_1, kL3_1, kL2_1, kL1_1, kl2_1, kl1_1, kl3_1, kr_1, krs_1, krs_2, kput_1, kput_2, kpk_1, klst_1, klst_2, kbor_1, ka2_1, ka1_1, ktup_1, kls_1, kB_1, kx3_1, kx2_1, kx1_1, kx4_1, kis2_1, kis_1, kp_1, ks3_1, ks2_1, ks1_1, kF_1, kF2_1, kF2_2, kF2_3, kF2_4, kF1_1, kW2_1, kW2_2, kW2_3, kW2_4, kW_1, kW_2, kg_1, ksa_1, ki_1, ki_2, ki_3, kap2_1, kap_1, ksx4_1, ksx3_1, ksx2_1, ksx1_1, kat_1, ko_1, kfin_1, kfin_2, klc2_1, klc_1, kC4_1, kC3_1, kC2_1, kC2_2, kC1_1, ksum_1, kst2_1, kst_1, kst_2, kRev_1, kRev_2, krg_1, krg2_1, krg1_1, kav_1, kav_2, krc_1, runFn_a, out_n, out_s, ini_a, iniL_n, iniL_0, iniL_e, sSeq_a, sSet_a, sPar_a, dNil_a, dCons_a, setAll_n, setAll_c, sIf_a, sRet_a, sExpr_a, sNext_a, sBreak_a, sCont_a, mC_a, mVar_a, mMove_a, fz_a, m1_a, m2_a, tst_a, tNot_a, tAnd_a, tOr_a, tYes_a, mAnd_a, mOr_a, mIf_a, mChain_a, mCall_a, mCallL_a, lNil_a, lCons_a, lLend_a, res_e, res_v, res_s, slot_0, slot_s, put_a, peek_a, lstAt_a, get_v, get_o, get_b, aNil_a, aCons_a, aStar_a, mTup_a, mLst_a, mB_a, mIxS_a, mLenS_a, mIsi_a, pNone_a, pSome_a, mSl_a, sFor_a, forL_n, forL_c, whN_s, gN_a, gT_a, gsC_a, gsN_a, sAsg_a, iSeq_a, sApp_a, sSetIx_a, mLc_a, lcL_n, lcL_c, wipe_n, wipe_c, rest_n, rest_c, allVal_n, allVal_c, mRev_a, mLRg_a, mLRg2_a, lt_int, le_int, gt_int, ge_int, sub_int, add_int, mod_int, fdiv_int, pow_int', mul_ok, eq_int, ne_int, neg_int, not_bl, abs_int, int_int, int_bl, max_2, min_2, max_3, min_3, len_l, len_t, len_s, lenB_l, lenB_t, lenB_s, ix_s, ixV_a, tuple_l, tuple_t, list_l, list_t, sum_l, all_l, any_l, isi_int, isi_bool, isi_tup, ix_fr0, ix_fr1, mul_l, cat_l, cat_t, sl_l, sl_t, sl_s, line, Nat.one_ne_zero, Nat.reduceEqDiff, reduceCtorEq, Bool.not_true, Bool.not_false, decide_true, decide_false, Bool.and_self, Bool.and_true, Bool.true_and, List.length_cons, List.length_nil, List.replicate, List.append_nil, List.cons_append, List.nil_append, Nat.reduceAdd, Nat.reduceSub, List.getElem?_cons_succ, List.getElem?_cons_zero, Nat.sub_self, List.set_cons_succ, List.set_cons_zero, ↓reduceIte, Nat.reduceLeDiff, Nat.reduceLT, h1, h2, hr]
/-! ### sums of many -/
theorem pairs_eq : ∀ ls : List Rat, List.zipWith (· + ·) (evens ls) (odds ls) ++ (if ls.length % 2 = 1 then ls.drop (ls.length - 1) else []) = pairs ls
  | [] => rfl
  | [a] => rfl
  | a :: b :: r => by
    have ih := pairs_eq r
    show (a + b) :: (List.zipWith (· + ·) (evens r) (odds r) ++ _) = (a + b) :: pairs r
    rw [← ih]
    congr 2
    have e : (a :: b :: r).length % 2 = r.length % 2 := by simp only [List.length_cons]; omega
    rw [e]
    by_cases h : r.length % 2 = 1
    · rw [if_pos h, if_pos h]
      have e2 : (a :: b :: r).length - 1 = r.length - 1 + 1 + 1 := by simp only [List.length_cons]; omega
      rw [e2, List.drop_succ_cons, List.drop_succ_cons]
    · rw [if_neg h, if_neg h]
def Nice (W n m : Nat) (ls : List Rat) : Prop := (∀ q ∈ ls, Dv W q) ∧ (∀ q ∈ ls, 0 ≤ q) ∧ ls.sum ≤ (2 : Rat) ^ m ∧ 0 < W ∧ W < 2 ^ n
theorem sum_nonneg : ∀ {ls : List Rat}, (∀ q ∈ ls, 0 ≤ q) → 0 ≤ ls.sum
  | [], _ => Rat.le_refl
  | a :: r, h => by
    have h1 := h a (List.mem_cons_self ..)
    have h2 := sum_nonneg (ls := r) fun q hq => h q (List.mem_cons_of_mem _ hq)
    rw [List.sum_cons]; exact Rat.add_nonneg h1 h2
theorem le_sum : ∀ {ls : List Rat}, (∀ q ∈ ls, 0 ≤ q) → ∀ q ∈ ls, q ≤ ls.sum
  | a :: r, h, q, hq => by
    have h1 := h a (List.mem_cons_self ..)
    have hr := fun q hq => h q (List.mem_cons_of_mem a hq)
    have h2 := sum_nonneg hr
    rw [List.sum_cons]
    rcases List.mem_cons.mp hq with rfl | hq
    · grind
    · have := le_sum hr q hq
      grind
theorem Nice.fs {W n m : Nat} {ls : List Rat} (h : Nice W n m ls) : ∀ q ∈ ls, Fs (n + m) q := fun q hq => by
  obtain ⟨h1, h2, h3, h4, h5⟩ := h
  have := le_sum h2 q hq
  have p0 : (0 : Rat) ≤ (2 : Rat) ^ m := Rat.pow_nonneg (by decide)
  have := h2 q hq
  exact (h1 q hq).fs h4 h5 (by grind) (by grind)
theorem pairs_all {P : Rat → Prop} (ha : ∀ a b, P a → P b → P (a + b)) : ∀ {ls : List Rat}, (∀ q ∈ ls, P q) → ∀ q ∈ pairs ls, P q
  | [], h => h
  | [a], h => h
  | a :: b :: r, h => fun q hq => by
    rcases List.mem_cons.mp hq with rfl | hq
    · exact ha a b (h a (by simp)) (h b (by simp))
    · exact pairs_all ha (fun q hq => h q (by simp [hq])) q hq
theorem Nice.pairs {W n m : Nat} {ls : List Rat} (h : Nice W n m ls) : Nice W n m (pairs ls) := by
  obtain ⟨h1, h2, h3, h4, h5⟩ := h
  refine ⟨pairs_all (fun a b => Dv.add) h1, pairs_all (fun a b => Rat.add_nonneg) h2, ?_, h4, h5⟩
  rw [pairs_sum]; exact h3
end
end Cb

set_option Elab.async false
set_option linter.all false
set_option maxRecDepth 100000
/-! More equations for the evaluation; sums of fractions by total_of. -/
namespace Cb
open PySem L2
noncomputable section
def kq4 : D → Option Int → Option Int → Option (Option Int × En) → Option (DV × En)
  | .lst ds, l, h, some (s, ρ) => if s ≠ some 0 then some (.own (.lst (pickG ds l h s)), ρ) else none
  | _, _, _, _ => none
def kq3 : D → Option Int → Option (Option Int × En) → MP → Option (DV × En)
  | x, l, some (h, ρ), ps => kq4 x l h (ps ρ)
  | _, _, _, _ => none
def kq2 : D → Option (Option Int × En) → MP → MP → Option (DV × En)
  | x, some (l, ρ), ph, ps => kq3 x l (ph ρ) ps
  | _, _, _, _ => none
def kq1 : Option (D × En) → MP → MP → MP → Option (DV × En)
  | some (x, ρ), pl, ph, ps => kq2 x (pl ρ) ph ps
  | _, _, _, _ => none
def kz2 : Option (List D) → Option (List D) → En → Option (List D × En)
  | some ds, some es, ρ => some (zipD ds es, ρ)
  | _, _, _ => none
def kz : Option (List D × En) → Option (List D × En)
  | some ([x, y], ρ) => kz2 (seqOf x) (seqOf y) ρ
  | _ => none
def ken2 : Option (List D) → En → Option (List D × En)
  | some ds, ρ => some (enumD 0 ds, ρ)
  | _, _ => none
def ken : Option (List D × En) → Option (List D × En)
  | some ([x], ρ) => ken2 (seqOf x) ρ
  | _ => none
def kgt : Option (List D) → MGs → En → Option En
  | some ds, gs, ρ => gs ds ρ
  | _, _, _ => none
def ksrt : Option (List Int) → Option DV
  | some ns => some (.own (.lst ((sortI ns).map .int)))
  | _ => none
def kpo4 : Option D → Option En → Option (DV × En)
  | some d, some ρ => some (.val d, ρ)
  | _, _ => none
def kpo3 : Option Nat → List D → En → Nat → Option (DV × En)
  | some j, ds, ρ, i => kpo4 ds[j]? (put ρ i (.lst (ds.eraseIdx j)))
  | _, _, _, _ => none
def kpo2 : Option (List D) → Int → En → Nat → Option (DV × En)
  | some ds, a, ρ, i => if ds.length ≤ line then kpo3 (ixN ds.length a) ds ρ i else none
  | _, _, _, _ => none
def kpo1 : Option (List D) → Option (D × En) → Nat → Option (DV × En)
  | some _, some (.int a, ρ), i => kpo2 (lstAt ρ i) a ρ i
  | _, _, _ => none
section
variable {ρ ρ' : En} {x y d : D} {l h : Option Int} {a : Int} {pl ph ps : MP} {m ma : ME} {ms : MA} {ds es : List D} {gs : MGs} {i j : Nat} {ns : List Int}
theorem kq4_1 {s : Option Int} : kq4 (.lst ds) l h (some (s, ρ)) = (if s ≠ some 0 then some (.own (.lst (pickG ds l h s)), ρ) else none) := id rfl
theorem kq3_1 : kq3 x l (some (h, ρ)) ps = kq4 x l h (ps ρ) := id rfl
theorem kq2_1 : kq2 x (some (l, ρ)) ph ps = kq3 x l (ph ρ) ps := id rfl
theorem kq1_1 : kq1 (some (x, ρ)) pl ph ps = kq2 x (pl ρ) ph ps := id rfl
theorem mSl3_a : mSl3 ma pl ph ps ρ = kq1 (fz ma ρ) pl ph ps := by
  unfold mSl3 kq1; rcases fz ma ρ with _ | ⟨x, v⟩
  · rfl
  · show Option.bind (pl v) _ = kq2 x (pl v) ph ps
    unfold kq2; rcases pl v with _ | ⟨l, v⟩
    · rfl
    · show Option.bind (ph v) _ = kq3 x l (ph v) ps
      unfold kq3; rcases ph v with _ | ⟨h, v⟩
      · rfl
      · show Option.bind (ps v) _ = kq4 x l h (ps v)
        rcases ps v with _ | ⟨s, v⟩
        · cases x <;> rfl
        · cases x <;> rfl
theorem kz2_1 : kz2 (some ds) (some es) ρ = some (zipD ds es, ρ) := id rfl
theorem kz_1 : kz (some ([x, y], ρ)) = kz2 (seqOf x) (seqOf y) ρ := id rfl
theorem iZipM_a : iZipM ms ρ = kz (ms ρ) := by
  unfold iZipM kz; rcases ms ρ with _ | ⟨_ | ⟨x, _ | ⟨y, _ | ⟨z, r⟩⟩⟩, v⟩ <;> try rfl
  show Option.bind (seqOf x) _ = kz2 (seqOf x) (seqOf y) v
  unfold kz2; cases seqOf x with
  | none => rfl
  | some ds => show Option.map _ (seqOf y) = _; cases seqOf y <;> rfl
theorem ken2_1 : ken2 (some ds) ρ = some (enumD 0 ds, ρ) := id rfl
theorem ken_1 : ken (some ([x], ρ)) = ken2 (seqOf x) ρ := id rfl
theorem iEnM_a : iEnM ms ρ = ken (ms ρ) := by
  unfold iEnM ken; rcases ms ρ with _ | ⟨_ | ⟨x, _ | ⟨y, r⟩⟩, v⟩ <;> try rfl
  show Option.map _ (seqOf x) = ken2 (seqOf x) v
  cases seqOf x <;> rfl
theorem kgt_1 : kgt (some ds) gs ρ = gs ds ρ := id rfl
theorem gTM_a : gTM gs d ρ = kgt (seqOf d) gs ρ := by
  unfold gTM kgt; cases seqOf d <;> rfl
theorem seq_l : seqOf (.lst ds) = some ds := id rfl
theorem seq_t : seqOf (.tup ds) = some ds := id rfl
theorem ksrt_1 : ksrt (some ns) = some (.own (.lst ((sortI ns).map .int))) := id rfl
theorem sorted_a : dSorted [.lst ds] = ksrt (intsOf ds) := by
  show Option.map _ (intsOf ds) = _; cases intsOf ds <;> rfl
theorem kpo4_1 : kpo4 (some d) (some ρ) = some (.val d, ρ) := id rfl
theorem kpo3_1 : kpo3 (some j) ds ρ i = kpo4 ds[j]? (put ρ i (.lst (ds.eraseIdx j))) := id rfl
theorem kpo2_1 : kpo2 (some ds) a ρ i = (if ds.length ≤ line then kpo3 (ixN ds.length a) ds ρ i else none) := id rfl
theorem kpo1_1 : kpo1 (some ds) (some (.int a, ρ)) i = kpo2 (lstAt ρ i) a ρ i := id rfl
theorem mPopAt_a : mPopAt i m ρ = kpo1 (lstAt ρ i) (fz m ρ) i := by
  unfold mPopAt kpo1; cases lstAt ρ i with
  | none => rfl
  | some u =>
    show Option.bind (fz m ρ) _ = _
    rcases fz m ρ with _ | ⟨x, w⟩
    · rfl
    · show Option.bind (lstAt w i) _ = _
      cases x <;> try (cases lstAt w i <;> rfl)
      rename_i n
      show _ = kpo2 (lstAt w i) n w i
      unfold kpo2; cases lstAt w i with
      | none => rfl
      | some ds =>
        show (if ds.length ≤ line then Option.bind (ixN ds.length n) _ else none) = if ds.length ≤ line then kpo3 (ixN ds.length n) ds w i else none
        split
        · unfold kpo3; cases ixN ds.length n with
          | none => rfl
          | some j =>
            show Option.bind ds[j]? _ = kpo4 ds[j]? (put w i (.lst (ds.eraseIdx j)))
            unfold kpo4; cases ds[j]? with
            | none => rfl
            | some d => show Option.map _ (put w i (.lst (ds.eraseIdx j))) = _; cases put w i (.lst (ds.eraseIdx j)) <;> rfl
        · rfl
end
/-! ### total_of -/
theorem dl_last (ls : List Rat) : cutL (ls.map fr) (some (-1)) none = (ls.drop (ls.length - 1)).map fr := by
  unfold cutL
  have e : HT.sIx (ls.map fr).length 0 (some (-1)) = ls.length - 1 := by
    show (if (-1 : Int) < 0 then ((-1 : Int) + ((ls.map fr).length : Int)).toNat else min (-1 : Int).toNat (ls.map fr).length) = _
    rw [if_pos (by decide), List.length_map]; omega
  rw [e]
  have e2 : HT.sIx (ls.map fr).length (ls.map fr).length none = ls.length := by unfold HT.sIx; rw [List.length_map]
  rw [e2, ← List.map_drop]
  apply List.take_of_length_le
  rw [List.length_map, List.length_drop]; omega
theorem ev_map (ls : List Rat) : evens (ls.map fr) = (evens ls).map fr := by
  induction ls using evens.induct with
  | case1 => rfl
  | case2 a => rfl
  | case3 a b r ih => show fr a :: evens (r.map fr) = _; rw [ih]; rfl
theorem od_map (ls : List Rat) : odds (ls.map fr) = (odds ls).map fr := by
  induction ls using odds.induct with
  | case1 => rfl
  | case2 a => rfl
  | case3 a b r ih => show fr b :: odds (r.map fr) = _; rw [ih]; rfl
def ZG : MG := gTM (gsCons (gN 3) (gsCons (gN 4) gsNil))
theorem tot_lc (x0 x1 x2 : Option DV) : ∀ (ps qs : List Rat), (∀ p ∈ ps, Fs 4400 p) → (∀ p ∈ qs, Fs 4400 p) →
    lcL (gTM (gsCons (gN 3) (gsCons (gN 4) gsNil))) tYesM (mCall c_plus_of (aCons (mVar 3) (aCons (mVar 4) aNil))) [3, 4] (zipD (ps.map fr) (qs.map fr)) [x0, x1, x2, none, none] =
    some ((List.zipWith (· + ·) ps qs).map fr, [x0, x1, x2, none, none])
  | [], qs, _, _ => by simp [zipD, lcL_n]
  | p :: ps, [], _, _ => by simp [zipD, lcL_n]
  | p :: ps, q :: qs, h1, h2 => by
    have ih := tot_lc x0 x1 x2 ps qs (fun p hp => h1 p (List.mem_cons_of_mem _ hp)) (fun p hp => h2 p (List.mem_cons_of_mem _ hp))
    have e : zipD ((p :: ps).map fr) ((q :: qs).map fr) = .tup [fr p, fr q] :: zipD (ps.map fr) (qs.map fr) := rfl
    have pl := plus_of_ok (h1 p (List.mem_cons_self ..)) (h2 q (List.mem_cons_self ..)) (by decide)
    rw [e]
    simp only [kSeq_1, kSeq_2, kSeq_3, kSeq_4, kSet_1, kNx_1, kPar_1, kd2_1, kd1_1, kIf_1, kIf_2, kRt_1, kEx_1, kVar_1, kVar_2, kMov_1, kMov_2, kfz_1, kfz_2, kc_1, k1_1, k2b_1, k2a_1, kt_1, kn_1, kAnd_1, kAnd_2, kOr_1, kOr_2, kmA_1, kmA_2, kmO_1, kmO_2, kmI_1, kmI_2, kh4_1, kh3_1, kh3_2, kh2_1, kh1_1, kcb_1, kca_1, kL5_1, kL4_1, kL3_1, kL2_1, kL1_1, kl2_1, kl1_1, kl3_1, kr_1, krs_1, krs_2, kput_1, kput_2, kpk_1, klst_1, klst_2, kbor_1, ka2_1, ka1_1, ktup_1, kls_1, kB_1, kx3_1, kx2_1, kx1_1, kx4_1, kis2_1, kis_1, kp_1, ks3_1, ks2_1, ks1_1, kF_1, kF2_1, kF2_2, kF2_3, kF2_4, kF1_1, kW2_1, kW2_2, kW2_3, kW2_4, kW_1, kW_2, kg_1, ksa_1, ki_1, ki_2, ki_3, kap2_1, kap_1, ksx4_1, ksx3_1, ksx2_1, ksx1_1, kat_1, ko_1, kfin_1, kfin_2, klc2_1, klc_1, kC4_1, kC3_1, kC2_1, kC2_2, kC1_1, ksum_1, kst2_1, kst_1, kst_2, kRev_1, kRev_2, krg_1, krg2_1, krg1_1, kav_1, kav_2, krc_1, runFn_a, out_n, out_s, ini_a, iniL_n, iniL_0, iniL_e, sSeq_a, sSet_a, sPar_a, dNil_a, dCons_a, setAll_n, setAll_c, sIf_a, sRet_a, sExpr_a, sNext_a, sBreak_a, sCont_a, mC_a, mVar_a, mMove_a, fz_a, m1_a, m2_a, tst_a, tNot_a, tAnd_a, tOr_a, tYes_a, mAnd_a, mOr_a, mIf_a, mChain_a, mCall_a, mCallL_a, lNil_a, lCons_a, lLend_a, res_e, res_v, res_s, slot_0, slot_s, put_a, peek_a, lstAt_a, get_v, get_o, get_b, aNil_a, aCons_a, aStar_a, mTup_a, mLst_a, mB_a, mIxS_a, mLenS_a, mIsi_a, pNone_a, pSome_a, mSl_a, sFor_a, forL_n, forL_c, whN_s, gN_a, gT_a, gsC_a, gsN_a, sAsg_a, iSeq_a, sApp_a, sSetIx_a, mLc_a, lcL_n, lcL_c, wipe_n, wipe_c, rest_n, rest_c, allVal_n, allVal_c, mRev_a, mLRg_a, mLRg2_a, lt_int, le_int, gt_int, ge_int, sub_int, add_int, mod_int, fdiv_int, pow_int', mul_ok, eq_int, ne_int, neg_int, not_bl, abs_int, int_int, int_bl, max_2, min_2, max_3, min_3, len_l, len_t, len_s, lenB_l, lenB_t, lenB_s, ix_s, ixV_a, tuple_l, tuple_t, list_l, list_t, sum_l, all_l, any_l, isi_int, isi_bool, isi_tup, ix_fr0, ix_fr1, mul_l, cat_l, cat_t, sl_l, sl_t, sl_s, line, kq4_1, kq3_1, kq2_1, kq1_1, mSl3_a, kz2_1, kz_1, iZipM_a, ken2_1, ken_1, iEnM_a, kgt_1, gTM_a, seq_l, seq_t, ksrt_1, sorted_a, kpo4_1, kpo3_1, kpo2_1, kpo1_1, mPopAt_a, Nat.one_ne_zero, Nat.reduceEqDiff, reduceCtorEq, Bool.not_true, Bool.not_false, decide_true, decide_false, Bool.and_self, Bool.and_true, Bool.true_and, List.length_cons, List.length_nil, List.replicate, List.append_nil, List.cons_append, List.nil_append, Nat.reduceAdd, Nat.reduceSub, List.getElem?_cons_succ, List.getElem?_cons_zero, Nat.sub_self, List.set_cons_succ, List.set_cons_zero, ↓reduceIte, Nat.reduceLeDiff, Nat.reduceLT, pl, ih, List.zipWith_cons_cons, List.map_cons]
def TC : MT := tst (m2 dGt (mLenS 1) (mC (.int 1)))
def TB : MS := (sSeq (sSet 2 (mIf (tst (m2 dEq (m2 dMod (mLenS 1) (mC (.int 2))) (mC (.int 1)))) (mSl (mVar 1) (pSome (m1 dNeg (mC (.int 1)))) pNone) (mLst aNil)))
    (sSet 1 (m2 dAdd (mLc (iZipM (aCons (mSl3 (mVar 1) pNone pNone (pSome (mC (.int 2)))) (aCons (mSl3 (mVar 1) (pSome (mC (.int 1))) pNone (pSome (mC (.int 2)))) aNil))) (gTM (gsCons (gN 3) (gsCons (gN 4) gsNil))) tYesM (mCall c_plus_of (aCons (mVar 3) (aCons (mVar 4) aNil))) [3, 4]) (mVar 2))))
theorem sub_ev {α : Type} {x : α} : ∀ {xs : List α}, x ∈ evens xs → x ∈ xs
  | [a], h => h
  | a :: b :: r, h => by
    rcases List.mem_cons.mp h with rfl | h
    · simp
    · have := sub_ev h; simp [this]
theorem sub_od {α : Type} {x : α} : ∀ {xs : List α}, x ∈ odds xs → x ∈ xs
  | a :: b :: r, h => by
    rcases List.mem_cons.mp h with rfl | h
    · simp
    · have := sub_od h; simp [this]
theorem ev_len {α : Type} : ∀ xs : List α, (evens xs).length = (xs.length + 1) / 2
  | [] => by simp [evens]
  | [a] => by simp [evens]
  | a :: b :: r => by
    have := ev_len r
    show (evens r).length + 1 = (r.length + 1 + 1 + 1) / 2
    omega
theorem od_len {α : Type} : ∀ xs : List α, (odds xs).length = xs.length / 2
  | [] => by simp [odds]
  | [a] => by simp [odds]
  | a :: b :: r => by
    have := od_len r
    show (odds r).length + 1 = (r.length + 1 + 1) / 2
    omega
theorem tot_step {ls : List Rat} (hF : ∀ q ∈ ls, Fs 4400 q) (hl : ls.length ≤ 1000000) (x0 o2 : Option DV) : ∃ o,
    TB [x0, some (.own (.lst (ls.map fr))), o2, none, none] = some (.nx [x0, some (.own (.lst ((pairs ls).map fr))), o, none, none]) := by
  have hz := fun x1 x2 => tot_lc x0 x1 x2 (evens ls) (odds ls) (fun p hp => hF p (sub_ev hp)) (fun p hp => hF p (sub_od hp))
  have hp := pairs_eq ls
  have lz : (zipD ((evens ls).map fr) ((odds ls).map fr)).length ≤ 16777216 := by
    rw [zipD_length, List.length_map, ev_len]; omega
  have k2 : (2 : Int) ≠ 0 := by decide
  have km : ((ls.length : Int)).fmod 2 = ((ls.length % 2 : Nat) : Int) := by rw [fmod_pos _ (by decide)]; omega
  have l0 : (0 : Nat) ≤ 16777216 := by decide
  by_cases h : ls.length % 2 = 1
  · rw [if_pos h] at hp
    have ho : decide (((ls.length % 2 : Nat) : Int) = 1) = true := by simp [h]
    have lc : ((List.zipWith (· + ·) (evens ls) (odds ls)).map fr).length + ((ls.drop (ls.length - 1)).map fr).length ≤ line := by
      rw [List.length_map, List.length_map, List.length_zipWith, ev_len, List.length_drop]; unfold line; omega
    have hc := cat_l lc
    rw [← List.map_append, hp] at hc
    refine ⟨some (.val (.lst ((ls.drop (ls.length - 1)).map fr))), ?_⟩
    simp only [TB, kSeq_1, kSeq_2, kSeq_3, kSeq_4, kSet_1, kNx_1, kPar_1, kd2_1, kd1_1, kIf_1, kIf_2, kRt_1, kEx_1, kVar_1, kVar_2, kMov_1, kMov_2, kfz_1, kfz_2, kc_1, k1_1, k2b_1, k2a_1, kt_1, kn_1, kAnd_1, kAnd_2, kOr_1, kOr_2, kmA_1, kmA_2, kmO_1, kmO_2, kmI_1, kmI_2, kh4_1, kh3_1, kh3_2, kh2_1, kh1_1, kcb_1, kca_1, kL5_1, kL4_1, kL3_1, kL2_1, kL1_1, kl2_1, kl1_1, kl3_1, kr_1, krs_1, krs_2, kput_1, kput_2, kpk_1, klst_1, klst_2, kbor_1, ka2_1, ka1_1, ktup_1, kls_1, kB_1, kx3_1, kx2_1, kx1_1, kx4_1, kis2_1, kis_1, kp_1, ks3_1, ks2_1, ks1_1, kF_1, kF2_1, kF2_2, kF2_3, kF2_4, kF1_1, kW2_1, kW2_2, kW2_3, kW2_4, kW_1, kW_2, kg_1, ksa_1, ki_1, ki_2, ki_3, kap2_1, kap_1, ksx4_1, ksx3_1, ksx2_1, ksx1_1, kat_1, ko_1, kfin_1, kfin_2, klc2_1, klc_1, kC4_1, kC3_1, kC2_1, kC2_2, kC1_1, ksum_1, kst2_1, kst_1, kst_2, kRev_1, kRev_2, krg_1, krg2_1, krg1_1, kav_1, kav_2, krc_1, runFn_a, out_n, out_s, ini_a, iniL_n, iniL_0, iniL_e, sSeq_a, sSet_a, sPar_a, dNil_a, dCons_a, setAll_n, setAll_c, sIf_a, sRet_a, sExpr_a, sNext_a, sBreak_a, sCont_a, mC_a, mVar_a, mMove_a, fz_a, m1_a, m2_a, tst_a, tNot_a, tAnd_a, tOr_a, tYes_a, mAnd_a, mOr_a, mIf_a, mChain_a, mCall_a, mCallL_a, lNil_a, lCons_a, lLend_a, res_e, res_v, res_s, slot_0, slot_s, put_a, peek_a, lstAt_a, get_v, get_o, get_b, aNil_a, aCons_a, aStar_a, mTup_a, mLst_a, mB_a, mIxS_a, mLenS_a, mIsi_a, pNone_a, pSome_a, mSl_a, sFor_a, forL_n, forL_c, whN_s, gN_a, gT_a, gsC_a, gsN_a, sAsg_a, iSeq_a, sApp_a, sSetIx_a, mLc_a, lcL_n, lcL_c, wipe_n, wipe_c, rest_n, rest_c, allVal_n, allVal_c, mRev_a, mLRg_a, mLRg2_a, lt_int, le_int, gt_int, ge_int, sub_int, add_int, mod_int, fdiv_int, pow_int', mul_ok, eq_int, ne_int, neg_int, not_bl, abs_int, int_int, int_bl, max_2, min_2, max_3, min_3, len_l, len_t, len_s, lenB_l, lenB_t, lenB_s, ix_s, ixV_a, tuple_l, tuple_t, list_l, list_t, sum_l, all_l, any_l, isi_int, isi_bool, isi_tup, ix_fr0, ix_fr1, mul_l, cat_l, cat_t, sl_l, sl_t, sl_s, line, kq4_1, kq3_1, kq2_1, kq1_1, mSl3_a, kz2_1, kz_1, iZipM_a, ken2_1, ken_1, iEnM_a, kgt_1, gTM_a, seq_l, seq_t, ksrt_1, sorted_a, kpo4_1, kpo3_1, kpo2_1, kpo1_1, mPopAt_a, Nat.one_ne_zero, Nat.reduceEqDiff, reduceCtorEq, Bool.not_true, Bool.not_false, decide_true, decide_false, Bool.and_self, Bool.and_true, Bool.true_and, List.length_cons, List.length_nil, List.replicate, List.append_nil, List.cons_append, List.nil_append, Nat.reduceAdd, Nat.reduceSub, List.getElem?_cons_succ, List.getElem?_cons_zero, Nat.sub_self, List.set_cons_succ, List.set_cons_zero, ↓reduceIte, Nat.reduceLeDiff, Nat.reduceLT, List.length_map, km, ho, sl_l, dl_last, pick_ev, pick_od, ev_map, od_map, lz, hz, hc, k2, ne_eq, not_false_eq_true, Option.some.injEq, and_self]
  · rw [if_neg h] at hp
    have ho : decide (((ls.length % 2 : Nat) : Int) = 1) = false := by simp; omega
    have lc : ((List.zipWith (· + ·) (evens ls) (odds ls)).map fr).length + ([] : List D).length ≤ line := by
      rw [List.length_map, List.length_zipWith, ev_len, List.length_nil]; unfold line; omega
    have hc := cat_l lc
    rw [List.append_nil] at hp hc
    rw [hp] at hc
    refine ⟨some (.val (.lst [])), ?_⟩
    simp only [TB, kSeq_1, kSeq_2, kSeq_3, kSeq_4, kSet_1, kNx_1, kPar_1, kd2_1, kd1_1, kIf_1, kIf_2, kRt_1, kEx_1, kVar_1, kVar_2, kMov_1, kMov_2, kfz_1, kfz_2, kc_1, k1_1, k2b_1, k2a_1, kt_1, kn_1, kAnd_1, kAnd_2, kOr_1, kOr_2, kmA_1, kmA_2, kmO_1, kmO_2, kmI_1, kmI_2, kh4_1, kh3_1, kh3_2, kh2_1, kh1_1, kcb_1, kca_1, kL5_1, kL4_1, kL3_1, kL2_1, kL1_1, kl2_1, kl1_1, kl3_1, kr_1, krs_1, krs_2, kput_1, kput_2, kpk_1, klst_1, klst_2, kbor_1, ka2_1, ka1_1, ktup_1, kls_1, kB_1, kx3_1, kx2_1, kx1_1, kx4_1, kis2_1, kis_1, kp_1, ks3_1, ks2_1, ks1_1, kF_1, kF2_1, kF2_2, kF2_3, kF2_4, kF1_1, kW2_1, kW2_2, kW2_3, kW2_4, kW_1, kW_2, kg_1, ksa_1, ki_1, ki_2, ki_3, kap2_1, kap_1, ksx4_1, ksx3_1, ksx2_1, ksx1_1, kat_1, ko_1, kfin_1, kfin_2, klc2_1, klc_1, kC4_1, kC3_1, kC2_1, kC2_2, kC1_1, ksum_1, kst2_1, kst_1, kst_2, kRev_1, kRev_2, krg_1, krg2_1, krg1_1, kav_1, kav_2, krc_1, runFn_a, out_n, out_s, ini_a, iniL_n, iniL_0, iniL_e, sSeq_a, sSet_a, sPar_a, dNil_a, dCons_a, setAll_n, setAll_c, sIf_a, sRet_a, sExpr_a, sNext_a, sBreak_a, sCont_a, mC_a, mVar_a, mMove_a, fz_a, m1_a, m2_a, tst_a, tNot_a, tAnd_a, tOr_a, tYes_a, mAnd_a, mOr_a, mIf_a, mChain_a, mCall_a, mCallL_a, lNil_a, lCons_a, lLend_a, res_e, res_v, res_s, slot_0, slot_s, put_a, peek_a, lstAt_a, get_v, get_o, get_b, aNil_a, aCons_a, aStar_a, mTup_a, mLst_a, mB_a, mIxS_a, mLenS_a, mIsi_a, pNone_a, pSome_a, mSl_a, sFor_a, forL_n, forL_c, whN_s, gN_a, gT_a, gsC_a, gsN_a, sAsg_a, iSeq_a, sApp_a, sSetIx_a, mLc_a, lcL_n, lcL_c, wipe_n, wipe_c, rest_n, rest_c, allVal_n, allVal_c, mRev_a, mLRg_a, mLRg2_a, lt_int, le_int, gt_int, ge_int, sub_int, add_int, mod_int, fdiv_int, pow_int', mul_ok, eq_int, ne_int, neg_int, not_bl, abs_int, int_int, int_bl, max_2, min_2, max_3, min_3, len_l, len_t, len_s, lenB_l, lenB_t, lenB_s, ix_s, ixV_a, tuple_l, tuple_t, list_l, list_t, sum_l, all_l, any_l, isi_int, isi_bool, isi_tup, ix_fr0, ix_fr1, mul_l, cat_l, cat_t, sl_l, sl_t, sl_s, line, kq4_1, kq3_1, kq2_1, kq1_1, mSl3_a, kz2_1, kz_1, iZipM_a, ken2_1, ken_1, iEnM_a, kgt_1, gTM_a, seq_l, seq_t, ksrt_1, sorted_a, kpo4_1, kpo3_1, kpo2_1, kpo1_1, mPopAt_a, Nat.one_ne_zero, Nat.reduceEqDiff, reduceCtorEq, Bool.not_true, Bool.not_false, decide_true, decide_false, Bool.and_self, Bool.and_true, Bool.true_and, List.length_cons, List.length_nil, List.replicate, List.append_nil, List.cons_append, List.nil_append, Nat.reduceAdd, Nat.reduceSub, List.getElem?_cons_succ, List.getElem?_cons_zero, Nat.sub_self, List.set_cons_succ, List.set_cons_zero, ↓reduceIte, Nat.reduceLeDiff, Nat.reduceLT, List.length_map, km, ho, sl_l, dl_last, pick_ev, pick_od, ev_map, od_map, lz, hz, hc, k2, ne_eq, not_false_eq_true, Option.some.injEq, and_self, l0, hp]
theorem sum_snoc0 (ls : List Rat) : (ls ++ [0]).sum = ls.sum := by
  rw [List.sum_append]
  have : ([0] : List Rat).sum = 0 := by simp [Rat.add_zero]
  rw [this, Rat.add_zero]
theorem tot_loop {W n m : Nat} (hnm : n + m ≤ 4400) (x0 : Option DV) : ∀ (d : Nat) (ls : List Rat) (o : Option DV), ls.length ≤ d → ls ≠ [] → ls.length ≤ 1000000 → Nice W n m ls → ∃ N o',
    whN TC TB N [x0, some (.own (.lst (ls.map fr))), o, none, none] = some (.nx [x0, some (.own (.lst [fr ls.sum])), o', none, none])
  | d, [], o, hd, h0, hl, hn => absurd rfl h0
  | d, [a], o, hd, h0, hl, hn => by
    have e2 : [a].sum = a := by simp [Rat.add_zero]
    refine ⟨1, o, ?_⟩
    rw [e2]
    have ec : TC [x0, some (.own (.lst [fr a])), o, none, none] = some (false, [x0, some (.own (.lst [fr a])), o, none, none]) := by
      simp [TC, kSeq_1, kSeq_2, kSeq_3, kSeq_4, kSet_1, kNx_1, kPar_1, kd2_1, kd1_1, kIf_1, kIf_2, kRt_1, kEx_1, kVar_1, kVar_2, kMov_1, kMov_2, kfz_1, kfz_2, kc_1, k1_1, k2b_1, k2a_1, kt_1, kn_1, kAnd_1, kAnd_2, kOr_1, kOr_2, kmA_1, kmA_2, kmO_1, kmO_2, kmI_1, kmI_2, kh4_1, kh3_1, kh3_2, kh2_1, kh1_1, kcb_1, kca_1, kL5_1, kL4_1, kL3_1, kL2_1, kL1_1, kl2_1, kl1_1, kl3_1, kr_1, krs_1, krs_2, kput_1, kput_2, kpk_1, klst_1, klst_2, kbor_1, ka2_1, ka1_1, ktup_1, kls_1, kB_1, kx3_1, kx2_1, kx1_1, kx4_1, kis2_1, kis_1, kp_1, ks3_1, ks2_1, ks1_1, kF_1, kF2_1, kF2_2, kF2_3, kF2_4, kF1_1, kW2_1, kW2_2, kW2_3, kW2_4, kW_1, kW_2, kg_1, ksa_1, ki_1, ki_2, ki_3, kap2_1, kap_1, ksx4_1, ksx3_1, ksx2_1, ksx1_1, kat_1, ko_1, kfin_1, kfin_2, klc2_1, klc_1, kC4_1, kC3_1, kC2_1, kC2_2, kC1_1, ksum_1, kst2_1, kst_1, kst_2, kRev_1, kRev_2, krg_1, krg2_1, krg1_1, kav_1, kav_2, krc_1, runFn_a, out_n, out_s, ini_a, iniL_n, iniL_0, iniL_e, sSeq_a, sSet_a, sPar_a, dNil_a, dCons_a, setAll_n, setAll_c, sIf_a, sRet_a, sExpr_a, sNext_a, sBreak_a, sCont_a, mC_a, mVar_a, mMove_a, fz_a, m1_a, m2_a, tst_a, tNot_a, tAnd_a, tOr_a, tYes_a, mAnd_a, mOr_a, mIf_a, mChain_a, mCall_a, mCallL_a, lNil_a, lCons_a, lLend_a, res_e, res_v, res_s, slot_0, slot_s, put_a, peek_a, lstAt_a, get_v, get_o, get_b, aNil_a, aCons_a, aStar_a, mTup_a, mLst_a, mB_a, mIxS_a, mLenS_a, mIsi_a, pNone_a, pSome_a, mSl_a, sFor_a, forL_n, forL_c, whN_s, gN_a, gT_a, gsC_a, gsN_a, sAsg_a, iSeq_a, sApp_a, sSetIx_a, mLc_a, lcL_n, lcL_c, wipe_n, wipe_c, rest_n, rest_c, allVal_n, allVal_c, mRev_a, mLRg_a, mLRg2_a, lt_int, le_int, gt_int, ge_int, sub_int, add_int, mod_int, fdiv_int, pow_int', mul_ok, eq_int, ne_int, neg_int, not_bl, abs_int, int_int, int_bl, max_2, min_2, max_3, min_3, len_l, len_t, len_s, lenB_l, lenB_t, lenB_s, ix_s, ixV_a, tuple_l, tuple_t, list_l, list_t, sum_l, all_l, any_l, isi_int, isi_bool, isi_tup, ix_fr0, ix_fr1, mul_l, cat_l, cat_t, sl_l, sl_t, sl_s, line, kq4_1, kq3_1, kq2_1, kq1_1, mSl3_a, kz2_1, kz_1, iZipM_a, ken2_1, ken_1, iEnM_a, kgt_1, gTM_a, seq_l, seq_t, ksrt_1, sorted_a, kpo4_1, kpo3_1, kpo2_1, kpo1_1, mPopAt_a, Nat.one_ne_zero, Nat.reduceEqDiff, reduceCtorEq, Bool.not_true, Bool.not_false, decide_true, decide_false, Bool.and_self, Bool.and_true, Bool.true_and, List.length_cons, List.length_nil, List.replicate, List.append_nil, List.cons_append, List.nil_append, Nat.reduceAdd, Nat.reduceSub, List.getElem?_cons_succ, List.getElem?_cons_zero, Nat.sub_self, List.set_cons_succ, List.set_cons_zero, ↓reduceIte, Nat.reduceLeDiff, Nat.reduceLT]
    show whN TC TB (0 + 1) [x0, some (.own (.lst [fr a])), o, none, none] = _
    rw [whN_s, ec]
    simp only [kW_2]
  | 0, a :: b :: r, o, hd, h0, hl, hn => by simp at hd
  | d + 1, a :: b :: r, o, hd, h0, hl, hn => by
    have e1 : decide ((1 : Int) < (((a :: b :: r).map fr).length : Int)) = true := by simp; omega
    obtain ⟨o2, hs⟩ := tot_step (fun q hq => (hn.fs q hq).mono hnm) hl x0 o
    have pl := pairs_len (a :: b :: r)
    have pe : pairs (a :: b :: r) = (a + b) :: pairs r := rfl
    have ll : (a :: b :: r).length = r.length + 2 := rfl
    obtain ⟨N, o', ih⟩ := tot_loop hnm x0 d (pairs (a :: b :: r)) o2 (by omega) (by rw [pe]; simp) (by omega) hn.pairs
    rw [pairs_sum] at ih
    refine ⟨N + 1, o', ?_⟩
    rw [← ih]
    have ec : TC [x0, some (.own (.lst ((a :: b :: r).map fr))), o, none, none] = some (true, [x0, some (.own (.lst ((a :: b :: r).map fr))), o, none, none]) := by
      simp only [TC, kSeq_1, kSeq_2, kSeq_3, kSeq_4, kSet_1, kNx_1, kPar_1, kd2_1, kd1_1, kIf_1, kIf_2, kRt_1, kEx_1, kVar_1, kVar_2, kMov_1, kMov_2, kfz_1, kfz_2, kc_1, k1_1, k2b_1, k2a_1, kt_1, kn_1, kAnd_1, kAnd_2, kOr_1, kOr_2, kmA_1, kmA_2, kmO_1, kmO_2, kmI_1, kmI_2, kh4_1, kh3_1, kh3_2, kh2_1, kh1_1, kcb_1, kca_1, kL5_1, kL4_1, kL3_1, kL2_1, kL1_1, kl2_1, kl1_1, kl3_1, kr_1, krs_1, krs_2, kput_1, kput_2, kpk_1, klst_1, klst_2, kbor_1, ka2_1, ka1_1, ktup_1, kls_1, kB_1, kx3_1, kx2_1, kx1_1, kx4_1, kis2_1, kis_1, kp_1, ks3_1, ks2_1, ks1_1, kF_1, kF2_1, kF2_2, kF2_3, kF2_4, kF1_1, kW2_1, kW2_2, kW2_3, kW2_4, kW_1, kW_2, kg_1, ksa_1, ki_1, ki_2, ki_3, kap2_1, kap_1, ksx4_1, ksx3_1, ksx2_1, ksx1_1, kat_1, ko_1, kfin_1, kfin_2, klc2_1, klc_1, kC4_1, kC3_1, kC2_1, kC2_2, kC1_1, ksum_1, kst2_1, kst_1, kst_2, kRev_1, kRev_2, krg_1, krg2_1, krg1_1, kav_1, kav_2, krc_1, runFn_a, out_n, out_s, ini_a, iniL_n, iniL_0, iniL_e, sSeq_a, sSet_a, sPar_a, dNil_a, dCons_a, setAll_n, setAll_c, sIf_a, sRet_a, sExpr_a, sNext_a, sBreak_a, sCont_a, mC_a, mVar_a, mMove_a, fz_a, m1_a, m2_a, tst_a, tNot_a, tAnd_a, tOr_a, tYes_a, mAnd_a, mOr_a, mIf_a, mChain_a, mCall_a, mCallL_a, lNil_a, lCons_a, lLend_a, res_e, res_v, res_s, slot_0, slot_s, put_a, peek_a, lstAt_a, get_v, get_o, get_b, aNil_a, aCons_a, aStar_a, mTup_a, mLst_a, mB_a, mIxS_a, mLenS_a, mIsi_a, pNone_a, pSome_a, mSl_a, sFor_a, forL_n, forL_c, whN_s, gN_a, gT_a, gsC_a, gsN_a, sAsg_a, iSeq_a, sApp_a, sSetIx_a, mLc_a, lcL_n, lcL_c, wipe_n, wipe_c, rest_n, rest_c, allVal_n, allVal_c, mRev_a, mLRg_a, mLRg2_a, lt_int, le_int, gt_int, ge_int, sub_int, add_int, mod_int, fdiv_int, pow_int', mul_ok, eq_int, ne_int, neg_int, not_bl, abs_int, int_int, int_bl, max_2, min_2, max_3, min_3, len_l, len_t, len_s, lenB_l, lenB_t, lenB_s, ix_s, ixV_a, tuple_l, tuple_t, list_l, list_t, sum_l, all_l, any_l, isi_int, isi_bool, isi_tup, ix_fr0, ix_fr1, mul_l, cat_l, cat_t, sl_l, sl_t, sl_s, line, kq4_1, kq3_1, kq2_1, kq1_1, mSl3_a, kz2_1, kz_1, iZipM_a, ken2_1, ken_1, iEnM_a, kgt_1, gTM_a, seq_l, seq_t, ksrt_1, sorted_a, kpo4_1, kpo3_1, kpo2_1, kpo1_1, mPopAt_a, Nat.one_ne_zero, Nat.reduceEqDiff, reduceCtorEq, Bool.not_true, Bool.not_false, decide_true, decide_false, Bool.and_self, Bool.and_true, Bool.true_and, List.length_cons, List.length_nil, List.replicate, List.append_nil, List.cons_append, List.nil_append, Nat.reduceAdd, Nat.reduceSub, List.getElem?_cons_succ, List.getElem?_cons_zero, Nat.sub_self, List.set_cons_succ, List.set_cons_zero, ↓reduceIte, Nat.reduceLeDiff, Nat.reduceLT, e1]
    rw [whN_s, ec]
    simp only [kW_1, hs, kW2_1]
theorem total_of_ok {W n m : Nat} {ls : List Rat} (h : Nice W n m ls) (hnm : n + m ≤ 4400) (hl : ls.length < 1000000) : c_total_of [.lst (ls.map fr)] = ok (fr ls.sum) := by
  have hn : Nice W n m (ls ++ [0]) := by
    obtain ⟨h1, h2, h3, h4, h5⟩ := h
    refine ⟨fun q hq => ?_, fun q hq => ?_, by rw [sum_snoc0]; exact h3, h4, h5⟩
    · rcases List.mem_append.mp hq with hq | hq
      · exact h1 q hq
      · rw [List.mem_singleton.mp hq]; unfold Dv; simp
    · rcases List.mem_append.mp hq with hq | hq
      · exact h2 q hq
      · rw [List.mem_singleton.mp hq]; exact Rat.le_refl
  obtain ⟨N, o', hw⟩ := tot_loop hnm (some (.val (.lst (ls.map fr)))) (ls.length + 1) (ls ++ [0]) none (by simp) (by simp) (by simp; omega) hn
  have w := sWhile_of hw
  have es := sum_snoc0 ls
  rw [es, List.map_append] at w
  have e0 : List.map fr [(0 : Rat)] = [fr 0] := rfl
  rw [e0] at w
  have le : (ls.map fr ++ [fr 0]).length ≤ 16777216 := by simp; omega
  have e : cb_total_of = (sSeq (sSet 1 (mLst (aStar (mVar 0) (aCons (mC (.tup [(.int 0), (.int 1)])) aNil)))) (sSeq (sWhile TC TB) (sRet (mIxS 1 (mC (.int 0)))))) := rfl
  have ix : dIx (.lst [fr ls.sum]) (.int 0) = some (fr ls.sum) := rfl
  simp only [c_total_of, e, kSeq_1, kSeq_2, kSeq_3, kSeq_4, kSet_1, kNx_1, kPar_1, kd2_1, kd1_1, kIf_1, kIf_2, kRt_1, kEx_1, kVar_1, kVar_2, kMov_1, kMov_2, kfz_1, kfz_2, kc_1, k1_1, k2b_1, k2a_1, kt_1, kn_1, kAnd_1, kAnd_2, kOr_1, kOr_2, kmA_1, kmA_2, kmO_1, kmO_2, kmI_1, kmI_2, kh4_1, kh3_1, kh3_2, kh2_1, kh1_1, kcb_1, kca_1, kL5_1, kL4_1, kL3_1, kL2_1, kL1_1, kl2_1, kl1_1, kl3_1, kr_1, krs_1, krs_2, kput_1, kput_2, kpk_1, klst_1, klst_2, kbor_1, ka2_1, ka1_1, ktup_1, kls_1, kB_1, kx3_1, kx2_1, kx1_1, kx4_1, kis2_1, kis_1, kp_1, ks3_1, ks2_1, ks1_1, kF_1, kF2_1, kF2_2, kF2_3, kF2_4, kF1_1, kW2_1, kW2_2, kW2_3, kW2_4, kW_1, kW_2, kg_1, ksa_1, ki_1, ki_2, ki_3, kap2_1, kap_1, ksx4_1, ksx3_1, ksx2_1, ksx1_1, kat_1, ko_1, kfin_1, kfin_2, klc2_1, klc_1, kC4_1, kC3_1, kC2_1, kC2_2, kC1_1, ksum_1, kst2_1, kst_1, kst_2, kRev_1, kRev_2, krg_1, krg2_1, krg1_1, kav_1, kav_2, krc_1, runFn_a, out_n, out_s, ini_a, iniL_n, iniL_0, iniL_e, sSeq_a, sSet_a, sPar_a, dNil_a, dCons_a, setAll_n, setAll_c, sIf_a, sRet_a, sExpr_a, sNext_a, sBreak_a, sCont_a, mC_a, mVar_a, mMove_a, fz_a, m1_a, m2_a, tst_a, tNot_a, tAnd_a, tOr_a, tYes_a, mAnd_a, mOr_a, mIf_a, mChain_a, mCall_a, mCallL_a, lNil_a, lCons_a, lLend_a, res_e, res_v, res_s, slot_0, slot_s, put_a, peek_a, lstAt_a, get_v, get_o, get_b, aNil_a, aCons_a, aStar_a, mTup_a, mLst_a, mB_a, mIxS_a, mLenS_a, mIsi_a, pNone_a, pSome_a, mSl_a, sFor_a, forL_n, forL_c, whN_s, gN_a, gT_a, gsC_a, gsN_a, sAsg_a, iSeq_a, sApp_a, sSetIx_a, mLc_a, lcL_n, lcL_c, wipe_n, wipe_c, rest_n, rest_c, allVal_n, allVal_c, mRev_a, mLRg_a, mLRg2_a, lt_int, le_int, gt_int, ge_int, sub_int, add_int, mod_int, fdiv_int, pow_int', mul_ok, eq_int, ne_int, neg_int, not_bl, abs_int, int_int, int_bl, max_2, min_2, max_3, min_3, len_l, len_t, len_s, lenB_l, lenB_t, lenB_s, ix_s, ixV_a, tuple_l, tuple_t, list_l, list_t, sum_l, all_l, any_l, isi_int, isi_bool, isi_tup, ix_fr0, ix_fr1, mul_l, cat_l, cat_t, sl_l, sl_t, sl_s, line, kq4_1, kq3_1, kq2_1, kq1_1, mSl3_a, kz2_1, kz_1, iZipM_a, ken2_1, ken_1, iEnM_a, kgt_1, gTM_a, seq_l, seq_t, ksrt_1, sorted_a, kpo4_1, kpo3_1, kpo2_1, kpo1_1, mPopAt_a, Nat.one_ne_zero, Nat.reduceEqDiff, reduceCtorEq, Bool.not_true, Bool.not_false, decide_true, decide_false, Bool.and_self, Bool.and_true, Bool.true_and, List.length_cons, List.length_nil, List.replicate, List.append_nil, List.cons_append, List.nil_append, Nat.reduceAdd, Nat.reduceSub, List.getElem?_cons_succ, List.getElem?_cons_zero, Nat.sub_self, List.set_cons_succ, List.set_cons_zero, ↓reduceIte, Nat.reduceLeDiff, Nat.reduceLT, fr_zero, le, w, ix]
end
end Cb

set_option Elab.async false
set_option linter.all false
set_option maxRecDepth 100000
/-! summed, draws without putting back. -/
namespace Cb
open PySem L2
noncomputable section
theorem sum_lc (x0 x1 : Option DV) {n m : Nat} (hnm : n + m < 9000) : ∀ (ps qs : List Rat), (∀ p ∈ ps, Fs n p) → (∀ p ∈ qs, Fs m p) →
    lcL (gTM (gsCons (gN 2) (gsCons (gN 3) gsNil))) tYesM (mCall c_times_of (aCons (mVar 2) (aCons (mVar 3) aNil))) [2, 3] (zipD (ps.map fr) (qs.map fr)) [x0, x1, none, none] =
    some ((List.zipWith (· * ·) ps qs).map fr, [x0, x1, none, none])
  | [], qs, _, _ => by simp [zipD, lcL_n]
  | p :: ps, [], _, _ => by simp [zipD, lcL_n]
  | p :: ps, q :: qs, h1, h2 => by
    have ih := sum_lc x0 x1 hnm ps qs (fun p hp => h1 p (List.mem_cons_of_mem _ hp)) (fun p hp => h2 p (List.mem_cons_of_mem _ hp))
    have e : zipD ((p :: ps).map fr) ((q :: qs).map fr) = .tup [fr p, fr q] :: zipD (ps.map fr) (qs.map fr) := rfl
    have pl := times_of_ok (h1 p (List.mem_cons_self ..)) (h2 q (List.mem_cons_self ..)) hnm
    rw [e]
    simp only [kSeq_1, kSeq_2, kSeq_3, kSeq_4, kSet_1, kNx_1, kPar_1, kd2_1, kd1_1, kIf_1, kIf_2, kRt_1, kEx_1, kVar_1, kVar_2, kMov_1, kMov_2, kfz_1, kfz_2, kc_1, k1_1, k2b_1, k2a_1, kt_1, kn_1, kAnd_1, kAnd_2, kOr_1, kOr_2, kmA_1, kmA_2, kmO_1, kmO_2, kmI_1, kmI_2, kh4_1, kh3_1, kh3_2, kh2_1, kh1_1, kcb_1, kca_1, kL5_1, kL4_1, kL3_1, kL2_1, kL1_1, kl2_1, kl1_1, kl3_1, kr_1, krs_1, krs_2, kput_1, kput_2, kpk_1, klst_1, klst_2, kbor_1, ka2_1, ka1_1, ktup_1, kls_1, kB_1, kx3_1, kx2_1, kx1_1, kx4_1, kis2_1, kis_1, kp_1, ks3_1, ks2_1, ks1_1, kF_1, kF2_1, kF2_2, kF2_3, kF2_4, kF1_1, kW2_1, kW2_2, kW2_3, kW2_4, kW_1, kW_2, kg_1, ksa_1, ki_1, ki_2, ki_3, kap2_1, kap_1, ksx4_1, ksx3_1, ksx2_1, ksx1_1, kat_1, ko_1, kfin_1, kfin_2, klc2_1, klc_1, kC4_1, kC3_1, kC2_1, kC2_2, kC1_1, ksum_1, kst2_1, kst_1, kst_2, kRev_1, kRev_2, krg_1, krg2_1, krg1_1, kav_1, kav_2, krc_1, runFn_a, out_n, out_s, ini_a, iniL_n, iniL_0, iniL_e, sSeq_a, sSet_a, sPar_a, dNil_a, dCons_a, setAll_n, setAll_c, sIf_a, sRet_a, sExpr_a, sNext_a, sBreak_a, sCont_a, mC_a, mVar_a, mMove_a, fz_a, m1_a, m2_a, tst_a, tNot_a, tAnd_a, tOr_a, tYes_a, mAnd_a, mOr_a, mIf_a, mChain_a, mCall_a, mCallL_a, lNil_a, lCons_a, lLend_a, res_e, res_v, res_s, slot_0, slot_s, put_a, peek_a, lstAt_a, get_v, get_o, get_b, aNil_a, aCons_a, aStar_a, mTup_a, mLst_a, mB_a, mIxS_a, mLenS_a, mIsi_a, pNone_a, pSome_a, mSl_a, sFor_a, forL_n, forL_c, whN_s, gN_a, gT_a, gsC_a, gsN_a, sAsg_a, iSeq_a, sApp_a, sSetIx_a, mLc_a, lcL_n, lcL_c, wipe_n, wipe_c, rest_n, rest_c, allVal_n, allVal_c, mRev_a, mLRg_a, mLRg2_a, lt_int, le_int, gt_int, ge_int, sub_int, add_int, mod_int, fdiv_int, pow_int', mul_ok, eq_int, ne_int, neg_int, not_bl, abs_int, int_int, int_bl, max_2, min_2, max_3, min_3, len_l, len_t, len_s, lenB_l, lenB_t, lenB_s, ix_s, ixV_a, tuple_l, tuple_t, list_l, list_t, sum_l, all_l, any_l, isi_int, isi_bool, isi_tup, ix_fr0, ix_fr1, mul_l, cat_l, cat_t, sl_l, sl_t, sl_s, line, kq4_1, kq3_1, kq2_1, kq1_1, mSl3_a, kz2_1, kz_1, iZipM_a, ken2_1, ken_1, iEnM_a, kgt_1, gTM_a, seq_l, seq_t, ksrt_1, sorted_a, kpo4_1, kpo3_1, kpo2_1, kpo1_1, mPopAt_a, Nat.one_ne_zero, Nat.reduceEqDiff, reduceCtorEq, Bool.not_true, Bool.not_false, decide_true, decide_false, Bool.and_self, Bool.and_true, Bool.true_and, List.length_cons, List.length_nil, List.replicate, List.append_nil, List.cons_append, List.nil_append, Nat.reduceAdd, Nat.reduceSub, List.getElem?_cons_succ, List.getElem?_cons_zero, Nat.sub_self, List.set_cons_succ, List.set_cons_zero, ↓reduceIte, Nat.reduceLeDiff, Nat.reduceLT, pl, ih, List.zipWith_cons_cons, List.map_cons]
theorem summed_ok {W a b n m : Nat} {x y : D} {ps qs : List Rat} (hx : seqOf x = some (ps.map fr)) (hy : seqOf y = some (qs.map fr)) (h1 : ∀ p ∈ ps, Fs n p) (h2 : ∀ p ∈ qs, Fs m p) (hnm : n + m < 9000)
    (hN : Nice W a b (List.zipWith (· * ·) ps qs)) (hab : a + b ≤ 4400) (hl : ps.length < 1000000) : c_summed [x, y] = ok (fr (List.zipWith (· * ·) ps qs).sum) := by
  have ht := total_of_ok hN hab (by rw [List.length_zipWith]; omega)
  have lc := sum_lc (some (.val x)) (some (.val y)) hnm ps qs h1 h2
  have lz : (zipD (ps.map fr) (qs.map fr)).length ≤ 16777216 := by
    rw [zipD_length, List.length_map]; omega
  simp only [c_summed, cb_summed, kSeq_1, kSeq_2, kSeq_3, kSeq_4, kSet_1, kNx_1, kPar_1, kd2_1, kd1_1, kIf_1, kIf_2, kRt_1, kEx_1, kVar_1, kVar_2, kMov_1, kMov_2, kfz_1, kfz_2, kc_1, k1_1, k2b_1, k2a_1, kt_1, kn_1, kAnd_1, kAnd_2, kOr_1, kOr_2, kmA_1, kmA_2, kmO_1, kmO_2, kmI_1, kmI_2, kh4_1, kh3_1, kh3_2, kh2_1, kh1_1, kcb_1, kca_1, kL5_1, kL4_1, kL3_1, kL2_1, kL1_1, kl2_1, kl1_1, kl3_1, kr_1, krs_1, krs_2, kput_1, kput_2, kpk_1, klst_1, klst_2, kbor_1, ka2_1, ka1_1, ktup_1, kls_1, kB_1, kx3_1, kx2_1, kx1_1, kx4_1, kis2_1, kis_1, kp_1, ks3_1, ks2_1, ks1_1, kF_1, kF2_1, kF2_2, kF2_3, kF2_4, kF1_1, kW2_1, kW2_2, kW2_3, kW2_4, kW_1, kW_2, kg_1, ksa_1, ki_1, ki_2, ki_3, kap2_1, kap_1, ksx4_1, ksx3_1, ksx2_1, ksx1_1, kat_1, ko_1, kfin_1, kfin_2, klc2_1, klc_1, kC4_1, kC3_1, kC2_1, kC2_2, kC1_1, ksum_1, kst2_1, kst_1, kst_2, kRev_1, kRev_2, krg_1, krg2_1, krg1_1, kav_1, kav_2, krc_1, runFn_a, out_n, out_s, ini_a, iniL_n, iniL_0, iniL_e, sSeq_a, sSet_a, sPar_a, dNil_a, dCons_a, setAll_n, setAll_c, sIf_a, sRet_a, sExpr_a, sNext_a, sBreak_a, sCont_a, mC_a, mVar_a, mMove_a, fz_a, m1_a, m2_a, tst_a, tNot_a, tAnd_a, tOr_a, tYes_a, mAnd_a, mOr_a, mIf_a, mChain_a, mCall_a, mCallL_a, lNil_a, lCons_a, lLend_a, res_e, res_v, res_s, slot_0, slot_s, put_a, peek_a, lstAt_a, get_v, get_o, get_b, aNil_a, aCons_a, aStar_a, mTup_a, mLst_a, mB_a, mIxS_a, mLenS_a, mIsi_a, pNone_a, pSome_a, mSl_a, sFor_a, forL_n, forL_c, whN_s, gN_a, gT_a, gsC_a, gsN_a, sAsg_a, iSeq_a, sApp_a, sSetIx_a, mLc_a, lcL_n, lcL_c, wipe_n, wipe_c, rest_n, rest_c, allVal_n, allVal_c, mRev_a, mLRg_a, mLRg2_a, lt_int, le_int, gt_int, ge_int, sub_int, add_int, mod_int, fdiv_int, pow_int', mul_ok, eq_int, ne_int, neg_int, not_bl, abs_int, int_int, int_bl, max_2, min_2, max_3, min_3, len_l, len_t, len_s, lenB_l, lenB_t, lenB_s, ix_s, ixV_a, tuple_l, tuple_t, list_l, list_t, sum_l, all_l, any_l, isi_int, isi_bool, isi_tup, ix_fr0, ix_fr1, mul_l, cat_l, cat_t, sl_l, sl_t, sl_s, line, kq4_1, kq3_1, kq2_1, kq1_1, mSl3_a, kz2_1, kz_1, iZipM_a, ken2_1, ken_1, iEnM_a, kgt_1, gTM_a, seq_l, seq_t, ksrt_1, sorted_a, kpo4_1, kpo3_1, kpo2_1, kpo1_1, mPopAt_a, Nat.one_ne_zero, Nat.reduceEqDiff, reduceCtorEq, Bool.not_true, Bool.not_false, decide_true, decide_false, Bool.and_self, Bool.and_true, Bool.true_and, List.length_cons, List.length_nil, List.replicate, List.append_nil, List.cons_append, List.nil_append, Nat.reduceAdd, Nat.reduceSub, List.getElem?_cons_succ, List.getElem?_cons_zero, Nat.sub_self, List.set_cons_succ, List.set_cons_zero, ↓reduceIte, Nat.reduceLeDiff, Nat.reduceLT, hx, hy, lz, lc, ht, and_self, Nat.reduceLeDiff]
/-! ### draws without putting back -/
theorem ix_nat {α : Type} {xs : List α} {d : Int} (h0 : 0 ≤ d) (h1 : d < xs.length) : ixN xs.length d = some d.toNat := by
  unfold ixN; rw [if_pos h0, if_pos h1]
theorem map_erase : ∀ (xs : List Int) (i : Nat), (xs.map D.int).eraseIdx i = (xs.eraseIdx i).map D.int
  | [], i => by cases i <;> rfl
  | x :: xs, 0 => rfl
  | x :: xs, i + 1 => by
    show D.int x :: (xs.map D.int).eraseIdx i = D.int x :: (xs.eraseIdx i).map D.int
    rw [map_erase xs i]
theorem er_perm : ∀ (xs : List Int) (i : Nat) (h : i < xs.length), (xs[i] :: xs.eraseIdx i).Perm xs
  | x :: xs, 0, h => List.Perm.refl _
  | x :: xs, i + 1, h => by
    have ih := er_perm xs i (by simpa using h)
    show (xs[i]'(by simpa using h) :: x :: xs.eraseIdx i).Perm (x :: xs)
    exact (List.Perm.swap ..).trans (ih.cons x)
theorem some_loop {F G H : Int} (hF : Sz 18 F) (hG : Sz 14 G) (hH : Sz 13 H) (sm : D) (kk : Option DV) : ∀ (L : List D) (n : Nat) (p : D) (left found : List Int) (o : Option DV), Pot n p → n + L.length < 100000 → L.length ≤ left.length → left.length + found.length ≤ 1000 → ∃ (p' : D) (left' found' : List Int) (o' : Option DV),
    forL (gN 5) (sApp 4 (mPopAt 3 (mCallL 0 (c__law_take F G H) (lLend 0 (lCons (mLenS 3) lNil))))) L [some (.bor p), some (.val sm), kk, some (.own (.lst (left.map .int))), some (.own (.lst (found.map .int))), o] =
      some (.nx [some (.bor p'), some (.val sm), kk, some (.own (.lst (left'.map .int))), some (.own (.lst (found'.map .int))), o']) ∧ Pot (n + L.length) p' ∧ (left' ++ found').Perm (left ++ found) ∧ found'.length = found.length + L.length
  | [], n, p, left, found, o, hp, hn, hl, ht => ⟨p, left, found, o, by simp only [forL_n], hp, List.Perm.refl _, rfl⟩
  | d :: L, n, p, left, found, o, hp, hn, hl, ht => by
    simp only [List.length_cons] at hl hn
    obtain ⟨i, p1, e1, hp1, i0, i1⟩ := law_take_ok (F := F) (G := G) (H := H) (u := (left.length : Int)) (m := 10) hp (by omega) (by unfold Sz; omega) (by decide) (by omega) hF hG hH
    have hi : i.toNat < left.length := by omega
    have hix : ixN (left.map D.int).length i = some i.toNat := ix_nat i0 (by rw [List.length_map]; exact i1)
    have hg : (left.map D.int)[i.toNat]? = some (.int left[i.toNat]) := by simp [hi]
    have he : (left.map D.int).eraseIdx i.toNat = (left.eraseIdx i.toNat).map D.int := map_erase _ _
    have hf : found.map D.int ++ [.int left[i.toNat]] = (found ++ [left[i.toNat]]).map D.int := by simp
    have ll : left.length ≤ 16777216 := by omega
    have lf : found.length < 16777216 := by omega
    have le : (left.eraseIdx i.toNat).length = left.length - 1 := List.length_eraseIdx_of_lt hi
    obtain ⟨p', left', found', o', h, hP, hperm, hlen⟩ := some_loop hF hG hH sm kk L (n + 1) p1 (left.eraseIdx i.toNat) (found ++ [left[i.toNat]]) (some (.val d)) hp1 (by omega) (by omega) (by simp; omega)
    refine ⟨p', left', found', o', ?_, by rw [show n + (d :: L).length = n + 1 + L.length by simp; omega]; exact hP, hperm.trans ?_, by rw [hlen]; simp; omega⟩
    · rw [← h]
      simp only [kSeq_1, kSeq_2, kSeq_3, kSeq_4, kSet_1, kNx_1, kPar_1, kd2_1, kd1_1, kIf_1, kIf_2, kRt_1, kEx_1, kVar_1, kVar_2, kMov_1, kMov_2, kfz_1, kfz_2, kc_1, k1_1, k2b_1, k2a_1, kt_1, kn_1, kAnd_1, kAnd_2, kOr_1, kOr_2, kmA_1, kmA_2, kmO_1, kmO_2, kmI_1, kmI_2, kh4_1, kh3_1, kh3_2, kh2_1, kh1_1, kcb_1, kca_1, kL5_1, kL4_1, kL3_1, kL2_1, kL1_1, kl2_1, kl1_1, kl3_1, kr_1, krs_1, krs_2, kput_1, kput_2, kpk_1, klst_1, klst_2, kbor_1, ka2_1, ka1_1, ktup_1, kls_1, kB_1, kx3_1, kx2_1, kx1_1, kx4_1, kis2_1, kis_1, kp_1, ks3_1, ks2_1, ks1_1, kF_1, kF2_1, kF2_2, kF2_3, kF2_4, kF1_1, kW2_1, kW2_2, kW2_3, kW2_4, kW_1, kW_2, kg_1, ksa_1, ki_1, ki_2, ki_3, kap2_1, kap_1, ksx4_1, ksx3_1, ksx2_1, ksx1_1, kat_1, ko_1, kfin_1, kfin_2, klc2_1, klc_1, kC4_1, kC3_1, kC2_1, kC2_2, kC1_1, ksum_1, kst2_1, kst_1, kst_2, kRev_1, kRev_2, krg_1, krg2_1, krg1_1, kav_1, kav_2, krc_1, runFn_a, out_n, out_s, ini_a, iniL_n, iniL_0, iniL_e, sSeq_a, sSet_a, sPar_a, dNil_a, dCons_a, setAll_n, setAll_c, sIf_a, sRet_a, sExpr_a, sNext_a, sBreak_a, sCont_a, mC_a, mVar_a, mMove_a, fz_a, m1_a, m2_a, tst_a, tNot_a, tAnd_a, tOr_a, tYes_a, mAnd_a, mOr_a, mIf_a, mChain_a, mCall_a, mCallL_a, lNil_a, lCons_a, lLend_a, res_e, res_v, res_s, slot_0, slot_s, put_a, peek_a, lstAt_a, get_v, get_o, get_b, aNil_a, aCons_a, aStar_a, mTup_a, mLst_a, mB_a, mIxS_a, mLenS_a, mIsi_a, pNone_a, pSome_a, mSl_a, sFor_a, forL_n, forL_c, whN_s, gN_a, gT_a, gsC_a, gsN_a, sAsg_a, iSeq_a, sApp_a, sSetIx_a, mLc_a, lcL_n, lcL_c, wipe_n, wipe_c, rest_n, rest_c, allVal_n, allVal_c, mRev_a, mLRg_a, mLRg2_a, lt_int, le_int, gt_int, ge_int, sub_int, add_int, mod_int, fdiv_int, pow_int', mul_ok, eq_int, ne_int, neg_int, not_bl, abs_int, int_int, int_bl, max_2, min_2, max_3, min_3, len_l, len_t, len_s, lenB_l, lenB_t, lenB_s, ix_s, ixV_a, tuple_l, tuple_t, list_l, list_t, sum_l, all_l, any_l, isi_int, isi_bool, isi_tup, ix_fr0, ix_fr1, mul_l, cat_l, cat_t, sl_l, sl_t, sl_s, line, kq4_1, kq3_1, kq2_1, kq1_1, mSl3_a, kz2_1, kz_1, iZipM_a, ken2_1, ken_1, iEnM_a, kgt_1, gTM_a, seq_l, seq_t, ksrt_1, sorted_a, kpo4_1, kpo3_1, kpo2_1, kpo1_1, mPopAt_a, Nat.one_ne_zero, Nat.reduceEqDiff, reduceCtorEq, Bool.not_true, Bool.not_false, decide_true, decide_false, Bool.and_self, Bool.and_true, Bool.true_and, List.length_cons, List.length_nil, List.replicate, List.append_nil, List.cons_append, List.nil_append, Nat.reduceAdd, Nat.reduceSub, List.getElem?_cons_succ, List.getElem?_cons_zero, Nat.sub_self, List.set_cons_succ, List.set_cons_zero, ↓reduceIte, Nat.reduceLeDiff, Nat.reduceLT, e1, List.length_map] at hix ⊢
      simp only [kSeq_1, kSeq_2, kSeq_3, kSeq_4, kSet_1, kNx_1, kPar_1, kd2_1, kd1_1, kIf_1, kIf_2, kRt_1, kEx_1, kVar_1, kVar_2, kMov_1, kMov_2, kfz_1, kfz_2, kc_1, k1_1, k2b_1, k2a_1, kt_1, kn_1, kAnd_1, kAnd_2, kOr_1, kOr_2, kmA_1, kmA_2, kmO_1, kmO_2, kmI_1, kmI_2, kh4_1, kh3_1, kh3_2, kh2_1, kh1_1, kcb_1, kca_1, kL5_1, kL4_1, kL3_1, kL2_1, kL1_1, kl2_1, kl1_1, kl3_1, kr_1, krs_1, krs_2, kput_1, kput_2, kpk_1, klst_1, klst_2, kbor_1, ka2_1, ka1_1, ktup_1, kls_1, kB_1, kx3_1, kx2_1, kx1_1, kx4_1, kis2_1, kis_1, kp_1, ks3_1, ks2_1, ks1_1, kF_1, kF2_1, kF2_2, kF2_3, kF2_4, kF1_1, kW2_1, kW2_2, kW2_3, kW2_4, kW_1, kW_2, kg_1, ksa_1, ki_1, ki_2, ki_3, kap2_1, kap_1, ksx4_1, ksx3_1, ksx2_1, ksx1_1, kat_1, ko_1, kfin_1, kfin_2, klc2_1, klc_1, kC4_1, kC3_1, kC2_1, kC2_2, kC1_1, ksum_1, kst2_1, kst_1, kst_2, kRev_1, kRev_2, krg_1, krg2_1, krg1_1, kav_1, kav_2, krc_1, runFn_a, out_n, out_s, ini_a, iniL_n, iniL_0, iniL_e, sSeq_a, sSet_a, sPar_a, dNil_a, dCons_a, setAll_n, setAll_c, sIf_a, sRet_a, sExpr_a, sNext_a, sBreak_a, sCont_a, mC_a, mVar_a, mMove_a, fz_a, m1_a, m2_a, tst_a, tNot_a, tAnd_a, tOr_a, tYes_a, mAnd_a, mOr_a, mIf_a, mChain_a, mCall_a, mCallL_a, lNil_a, lCons_a, lLend_a, res_e, res_v, res_s, slot_0, slot_s, put_a, peek_a, lstAt_a, get_v, get_o, get_b, aNil_a, aCons_a, aStar_a, mTup_a, mLst_a, mB_a, mIxS_a, mLenS_a, mIsi_a, pNone_a, pSome_a, mSl_a, sFor_a, forL_n, forL_c, whN_s, gN_a, gT_a, gsC_a, gsN_a, sAsg_a, iSeq_a, sApp_a, sSetIx_a, mLc_a, lcL_n, lcL_c, wipe_n, wipe_c, rest_n, rest_c, allVal_n, allVal_c, mRev_a, mLRg_a, mLRg2_a, lt_int, le_int, gt_int, ge_int, sub_int, add_int, mod_int, fdiv_int, pow_int', mul_ok, eq_int, ne_int, neg_int, not_bl, abs_int, int_int, int_bl, max_2, min_2, max_3, min_3, len_l, len_t, len_s, lenB_l, lenB_t, lenB_s, ix_s, ixV_a, tuple_l, tuple_t, list_l, list_t, sum_l, all_l, any_l, isi_int, isi_bool, isi_tup, ix_fr0, ix_fr1, mul_l, cat_l, cat_t, sl_l, sl_t, sl_s, line, kq4_1, kq3_1, kq2_1, kq1_1, mSl3_a, kz2_1, kz_1, iZipM_a, ken2_1, ken_1, iEnM_a, kgt_1, gTM_a, seq_l, seq_t, ksrt_1, sorted_a, kpo4_1, kpo3_1, kpo2_1, kpo1_1, mPopAt_a, Nat.one_ne_zero, Nat.reduceEqDiff, reduceCtorEq, Bool.not_true, Bool.not_false, decide_true, decide_false, Bool.and_self, Bool.and_true, Bool.true_and, List.length_cons, List.length_nil, List.replicate, List.append_nil, List.cons_append, List.nil_append, Nat.reduceAdd, Nat.reduceSub, List.getElem?_cons_succ, List.getElem?_cons_zero, Nat.sub_self, List.set_cons_succ, List.set_cons_zero, ↓reduceIte, Nat.reduceLeDiff, Nat.reduceLT, hix, hg, he, ll, lf, hf, List.length_map]
    · have h1 : (left[i.toNat] :: left.eraseIdx i.toNat).Perm left := by
        exact er_perm left i.toNat hi
      have h2 : (left.eraseIdx i.toNat ++ (found ++ [left[i.toNat]])).Perm (left[i.toNat] :: (left.eraseIdx i.toNat ++ found)) := by
        rw [← List.append_assoc]
        exact List.perm_append_singleton _ _
      exact h2.trans (by rw [← List.cons_append]; exact h1.append_right found)
theorem law_some_ok {F G H : Int} {n k : Nat} {p : D} {xs : List Int} (hp : Pot n p) (hn : n + k < 100000) (hk : k ≤ xs.length) (hx : xs.length ≤ 1000) (hF : Sz 18 F := by decide) (hG : Sz 14 G := by decide) (hH : Sz 13 H := by decide) :
    ∃ (p' : D) (left found : List Int), c__law_some F G H [p, .lst (xs.map .int), .int k] = some (.own (.lst (found.map .int)), p') ∧ Pot (n + k) p' ∧ (left ++ found).Perm xs ∧ found.length = k := by
  obtain ⟨p', left, found, o', h, hP, hperm, hlen⟩ := some_loop hF hG hH (.lst (xs.map .int)) (some (.val (.int k))) (rangeD 0 k) n p xs [] none hp (by rw [rangeD_length]; exact hn) (by rw [rangeD_length]; exact hk) (by simpa using hx)
  rw [rangeD_length] at hP hlen
  rw [List.append_nil] at hperm
  refine ⟨p', left, found, ?_, hP, hperm, by simpa using hlen⟩
  have hr := fun (ρ : En) e => range_D k (by omega) ρ ρ (aCons (mVar 2) aNil) e
  have e0 : ([] : List Int).map D.int = [] := rfl
  rw [e0] at h
  simp only [c__law_some, cb__law_some, kSeq_1, kSeq_2, kSeq_3, kSeq_4, kSet_1, kNx_1, kPar_1, kd2_1, kd1_1, kIf_1, kIf_2, kRt_1, kEx_1, kVar_1, kVar_2, kMov_1, kMov_2, kfz_1, kfz_2, kc_1, k1_1, k2b_1, k2a_1, kt_1, kn_1, kAnd_1, kAnd_2, kOr_1, kOr_2, kmA_1, kmA_2, kmO_1, kmO_2, kmI_1, kmI_2, kh4_1, kh3_1, kh3_2, kh2_1, kh1_1, kcb_1, kca_1, kL5_1, kL4_1, kL3_1, kL2_1, kL1_1, kl2_1, kl1_1, kl3_1, kr_1, krs_1, krs_2, kput_1, kput_2, kpk_1, klst_1, klst_2, kbor_1, ka2_1, ka1_1, ktup_1, kls_1, kB_1, kx3_1, kx2_1, kx1_1, kx4_1, kis2_1, kis_1, kp_1, ks3_1, ks2_1, ks1_1, kF_1, kF2_1, kF2_2, kF2_3, kF2_4, kF1_1, kW2_1, kW2_2, kW2_3, kW2_4, kW_1, kW_2, kg_1, ksa_1, ki_1, ki_2, ki_3, kap2_1, kap_1, ksx4_1, ksx3_1, ksx2_1, ksx1_1, kat_1, ko_1, kfin_1, kfin_2, klc2_1, klc_1, kC4_1, kC3_1, kC2_1, kC2_2, kC1_1, ksum_1, kst2_1, kst_1, kst_2, kRev_1, kRev_2, krg_1, krg2_1, krg1_1, kav_1, kav_2, krc_1, runFn_a, out_n, out_s, ini_a, iniL_n, iniL_0, iniL_e, sSeq_a, sSet_a, sPar_a, dNil_a, dCons_a, setAll_n, setAll_c, sIf_a, sRet_a, sExpr_a, sNext_a, sBreak_a, sCont_a, mC_a, mVar_a, mMove_a, fz_a, m1_a, m2_a, tst_a, tNot_a, tAnd_a, tOr_a, tYes_a, mAnd_a, mOr_a, mIf_a, mChain_a, mCall_a, mCallL_a, lNil_a, lCons_a, lLend_a, res_e, res_v, res_s, slot_0, slot_s, put_a, peek_a, lstAt_a, get_v, get_o, get_b, aNil_a, aCons_a, aStar_a, mTup_a, mLst_a, mB_a, mIxS_a, mLenS_a, mIsi_a, pNone_a, pSome_a, mSl_a, sFor_a, forL_n, forL_c, whN_s, gN_a, gT_a, gsC_a, gsN_a, sAsg_a, iSeq_a, sApp_a, sSetIx_a, mLc_a, lcL_n, lcL_c, wipe_n, wipe_c, rest_n, rest_c, allVal_n, allVal_c, mRev_a, mLRg_a, mLRg2_a, lt_int, le_int, gt_int, ge_int, sub_int, add_int, mod_int, fdiv_int, pow_int', mul_ok, eq_int, ne_int, neg_int, not_bl, abs_int, int_int, int_bl, max_2, min_2, max_3, min_3, len_l, len_t, len_s, lenB_l, lenB_t, lenB_s, ix_s, ixV_a, tuple_l, tuple_t, list_l, list_t, sum_l, all_l, any_l, isi_int, isi_bool, isi_tup, ix_fr0, ix_fr1, mul_l, cat_l, cat_t, sl_l, sl_t, sl_s, line, kq4_1, kq3_1, kq2_1, kq1_1, mSl3_a, kz2_1, kz_1, iZipM_a, ken2_1, ken_1, iEnM_a, kgt_1, gTM_a, seq_l, seq_t, ksrt_1, sorted_a, kpo4_1, kpo3_1, kpo2_1, kpo1_1, mPopAt_a, Nat.one_ne_zero, Nat.reduceEqDiff, reduceCtorEq, Bool.not_true, Bool.not_false, decide_true, decide_false, Bool.and_self, Bool.and_true, Bool.true_and, List.length_cons, List.length_nil, List.replicate, List.append_nil, List.cons_append, List.nil_append, Nat.reduceAdd, Nat.reduceSub, List.getElem?_cons_succ, List.getElem?_cons_zero, Nat.sub_self, List.set_cons_succ, List.set_cons_zero, ↓reduceIte, Nat.reduceLeDiff, Nat.reduceLT, hr, h, Nat.reduceLeDiff, Nat.zero_le]
/-- sorted draws out of different numbers go up -/
theorem sorted_up {xs left found : List Int} (hn : xs.Nodup) (h : (left ++ found).Perm xs) : (sortI found).Pairwise (· < ·) ∧ (∀ w ∈ sortI found, w ∈ xs) ∧ (sortI found).length = found.length := by
  have h1 : (left ++ found).Nodup := h.nodup_iff.mpr hn
  have h2 : found.Nodup := (List.nodup_append.mp h1).2.1
  have h3 : (sortI found).Nodup := (sortI_perm found).nodup_iff.mpr h2
  have h4 := sortI_up found
  refine ⟨?_, fun w hw => ?_, (sortI_perm found).length_eq⟩
  · have := List.pairwise_and_iff.mpr ⟨h4, h3⟩
    exact this.imp fun ⟨a, b⟩ => by omega
  · have := (sortI_perm found).mem_iff.mp hw
    exact h.mem_iff.mp (List.mem_append_right _ this)
end
end Cb

set_option Elab.async false
set_option linter.all false
set_option maxRecDepth 100000
/-! Comprehensions over lists that are told by a map. -/
namespace Cb
open PySem L2
noncomputable section
theorem lc_map {α : Type} {g : MG} {c : MT} {el : ME} {vs : List Nat} {ρ : En} {a f : α → D} : ∀ {xs : List α}, (∀ x ∈ xs, ∀ ds, lcL g c el vs (a x :: ds) ρ = kC4 (f x) (lcL g c el vs ds ρ)) → lcL g c el vs (xs.map a) ρ = some (xs.map f, ρ)
  | [], _ => rfl
  | x :: xs, h => by
    have ih := lc_map (xs := xs) fun y hy => h y (List.mem_cons_of_mem _ hy)
    rw [List.map_cons, h x (List.mem_cons_self ..), ih]; rfl
theorem all_true : ∀ {α : Type} {xs : List α}, boolsOf (xs.map fun _ => D.bl true) = some (xs.map fun _ => true)
  | _, [] => rfl
  | _, x :: xs => by
    show (boolsOf (xs.map fun _ => D.bl true)).map (true :: ·) = _
    rw [all_true]; rfl
theorem all_l1 {α : Type} {xs : List α} : dAll [.lst (xs.map fun _ => D.bl true)] = some (.val (.bl true)) := by
  rw [all_l, all_true]
  show some (DV.val (.bl ((xs.map fun _ => true).all id))) = _
  congr 3
  rw [List.all_eq_true]; intro b hb
  obtain ⟨_, _, rfl⟩ := List.mem_map.mp hb
  rfl
theorem ints_map {α : Type} {f : α → Int} {xs : List α} : intsOf (xs.map fun x => D.int (f x)) = some (xs.map f) := by
  have := intsOf_map (xs.map f)
  rw [List.map_map] at this
  exact this
theorem zip_tail {α β : Type} (a : α → β) : ∀ xs : List α, List.zip (xs.map a) ((xs.map a).drop 1) = (List.zip xs (xs.drop 1)).map fun p => (a p.1, a p.2)
  | [] => rfl
  | [x] => rfl
  | x :: y :: r => by
    have := zip_tail a (y :: r)
    show (a x, a y) :: List.zip ((y :: r).map a) (((y :: r).map a).drop 1) = (a x, a y) :: _
    rw [this]; rfl
theorem zipD_map {α : Type} (a : α → D) (xs ys : List α) : zipD (xs.map a) (ys.map a) = (List.zip xs ys).map fun p => .tup [a p.1, a p.2] := by
  induction xs generalizing ys with
  | nil => rfl
  | cons x xs ih =>
    cases ys with
    | nil => rfl
    | cons y ys => show D.tup [a x, a y] :: zipD (xs.map a) (ys.map a) = _; rw [ih]; rfl
theorem cut_1 {α : Type} (xs : List α) : cutL xs (some 1) none = xs.drop 1 := by
  unfold cutL
  have e : HT.sIx xs.length 0 (some 1) = min 1 xs.length := HT.sIx_nat xs.length 0 1
  have e2 : HT.sIx xs.length xs.length none = xs.length := rfl
  rw [e, e2]
  cases xs with
  | nil => rfl
  | cons x xs =>
    have : min 1 (x :: xs).length = 1 := by simp
    rw [this]
    apply List.take_of_length_le
    simp
theorem adj_mem {α : Type} {R : α → α → Prop} : ∀ {xs : List α}, xs.Pairwise R → ∀ p ∈ List.zip xs (xs.drop 1), R p.1 p.2
  | [], _, p, hp => by simp at hp
  | [x], _, p, hp => by simp at hp
  | x :: y :: r, h, p, hp => by
    have hp' : p ∈ (x, y) :: List.zip (y :: r) ((y :: r).drop 1) := hp
    rcases List.mem_cons.mp hp' with rfl | hp'
    · exact (List.pairwise_cons.mp h).1 y (by simp)
    · exact adj_mem (List.pairwise_cons.mp h).2 p hp'
end
end Cb

set_option Elab.async false
set_option linter.all false
set_option maxRecDepth 100000
set_option maxHeartbeats 4000000
/-! The walk, printed by gen.py: each def's mirror, and that it does what the mirror says. -/
namespace Wk64
open PySem PySem.Spec PyProof.Rows L2 He Cb
abbrev prog : Program := PySem.Challenge.pw_caughtbefore_k64_whole_new_kinds_step_by
structure Txt (K : PySem.W.Frag) (mg : Str → Option Value) : Prop where
  b_abs : mg "abs" = none
  b_all : mg "all" = none
  b_bool : mg "bool" = none
  b_enumerate : mg "enumerate" = none
  b_int : mg "int" = none
  b_isinstance : mg "isinstance" = none
  b_len : mg "len" = none
  b_list : mg "list" = none
  b_max : mg "max" = none
  b_min : mg "min" = none
  b_range : mg "range" = none
  b_sorted : mg "sorted" = none
  b_sum : mg "sum" = none
  b_tuple : mg "tuple" = none
  b_zip : mg "zip" = none
  c_MOST_DRAWS : Glc K mg "MOST_DRAWS" (.int 400)
  c_MOST_KINDS : Glc K mg "MOST_KINDS" (.int 256)
  c_MOST_LOW : Glc K mg "MOST_LOW" (.int 1000)
  c_MOST_MORE : Glc K mg "MOST_MORE" (.int 400)
  c_MOST_ROWS : Glc K mg "MOST_ROWS" (.int 256)
  c_MOST_SHARES : Glc K mg "MOST_SHARES" (.int 12)
  c_MOST_SIZE : Glc K mg "MOST_SIZE" (.int 10000000000000000000000000000000000000000)
  c_MOST_WEIGHT : Glc K mg "MOST_WEIGHT" (.int 1000)
  c_NOUGHT : Glc K mg "NOUGHT" (.tup [(.int 0), (.int 1)])
  c_ONE_WHOLE : Glc K mg "ONE_WHOLE" (.tup [(.int 1), (.int 1)])
  c_PAIR_fractions : Glc K mg "PAIR_fractions" (.int 2)
  c_PAIR_kinds : Glc K mg "PAIR_kinds" (.int 2)

noncomputable section
variable {P : Program} {w : World} {K : PySem.W.Frag} {mg : Str → Option Value} {base : Heap}
/-! _law_cells -/
abbrev s__law_cells : Stmt := topAt prog 56
abbrev N__law_cells : List Str := ["script", "limit"]
def b__law_cells : MS :=
  (sRet (mLRg (mB dMax (aCons (mC (.int 1)) (aCons (mB dMin (aCons (mVar 1) (aCons (mLenS 0) aNil))) aNil)))))
def f__law_cells : List D → Option (DV × D) := runFn none N__law_cells.length b__law_cells
theorem sc__law_cells : FnScope N__law_cells ["script", "limit"] (defScope s__law_cells) := ⟨rfl, rfl, rfl, by decide +kernel, rfl, by decide +kernel, by decide +kernel⟩
theorem d__law_cells (T : Txt K mg) (S : Src K mg "_law_cells" s__law_cells)  : Def P w K mg base "_law_cells" 1 none 2 f__law_cells :=
  S.def_ (io := none) (N := N__law_cells) (m := b__law_cells) sc__law_cells rfl (fun _ _ _ _ _ _ us hl => match us, hl with | [_, _], _ => rfl) fun f cdv A outer s H E hr => by
    have nd := sc__law_cells.nd
    exact (ss_one (sm_ret (em_lrg rfl rfl T.b_list rfl T.b_range (em_callB (call_maxA rfl) cs_max rfl T.b_max bt_max (am_cons em_int (am_cons (em_callB (call_minA rfl) cs_min rfl T.b_min bt_min (am_cons (em_var (pv 1)) (am_cons (em_lenS rfl T.b_len bt_len (pv 0)) am_nil))) am_nil))))))

/-! _law_pot -/
abbrev s__law_pot : Stmt := topAt prog 53
abbrev N__law_pot : List Str := ["script", "place", "cell", "own", "small"]
def b__law_pot : MS :=
  (sSeq (sSet 2 (mIf (tst (m2 dLt (mVar 1) (mLenS 0))) (mIxS 0 (mVar 1)) (m2 dAdd (m2 dAdd (m2 dMod (mB dInt (aCons (mB dSum (aCons (mSl (mVar 0) pNone (pSome (mC (.int 1)))) aNil)) aNil)) (mC (.int 1000003))) (m2 dMul (mC (.int 9445)) (mVar 1))) (mC (.int 20957)))))
    (sSeq (sSet 3 (m2 dMul (m2 dMod (mB dInt (aCons (mB dAbs (aCons (mVar 2) aNil)) aNil)) (m2 dPow (m2 dPow (mC (.int 10)) (mC (.int 60))) (mC (.int 5)))) (mB dInt (aCons (m2 dGe (mB dAbs (aCons (mVar 2) aNil)) (m2 dPow (mC (.int 10)) (mC (.int 18)))) aNil))))
    (sSeq (sSet 4 (m2 dMod (mB dInt (aCons (mVar 2) aNil)) (mC (.int 2305843009213693951))))
    (sRet (mLst (aCons (mVar 3) (aCons (m2 dMod (mB dInt (aCons (m2 dAdd (m2 dAdd (m2 dMul (mVar 4) (mC (.int 164959))) (m2 dMul (m2 dMul (mC (.int 23689)) (mVar 1)) (mVar 1))) (mC (.int 7365))) aNil)) (mC (.int 2305843009213693921))) (aCons (mC (.int 0)) aNil))))))))
def f__law_pot : List D → Option (DV × D) := runFn none N__law_pot.length b__law_pot
theorem sc__law_pot : FnScope N__law_pot ["script", "place"] (defScope s__law_pot) := ⟨rfl, rfl, rfl, by decide +kernel, rfl, by decide +kernel, by decide +kernel⟩
theorem d__law_pot (T : Txt K mg) (S : Src K mg "_law_pot" s__law_pot)  : Def P w K mg base "_law_pot" 1 none 2 f__law_pot :=
  S.def_ (io := none) (N := N__law_pot) (m := b__law_pot) sc__law_pot rfl (fun _ _ _ _ _ _ us hl => match us, hl with | [_, _], _ => rfl) fun f cdv A outer s H E hr => by
    have nd := sc__law_pot.nd
    exact (ss_cons (sm_set (i := 2) nd rfl (Or.inl rfl) (em_if (et_cmp op_lt os_lt (em_var (pv 1)) (em_lenS rfl T.b_len bt_len (pv 0)) (nomark _)) (em_ixS (pv 0) (em_var (pv 1))) (em_op op_addA os_add (em_op op_addA os_add (em_op op_modN os_mod (em_callTy call_int1 cs_int rfl T.b_int bt_int (am_cons (em_callB (cr_sum rfl) cs_sum rfl T.b_sum bt_sum (am_cons (em_slice (em_var (pv 0)) pm_none (pm_some em_int)) am_nil)) am_nil)) em_int) (em_op op_mulA os_mul em_int (em_var (pv 1)))) em_int)))
    (ss_cons (sm_set (i := 3) nd rfl (Or.inl rfl) (em_op op_mulA os_mul (em_op op_modN os_mod (em_callTy call_int1 cs_int rfl T.b_int bt_int (am_cons (em_callB call_abs cs_abs rfl T.b_abs bt_abs (am_cons (em_var (pv 2)) am_nil)) am_nil)) (em_op op_powA os_pow (em_op op_powA os_pow em_int em_int) em_int)) (em_callTy call_int1 cs_int rfl T.b_int bt_int (am_cons (em_cmp op_ge os_ge (em_callB call_abs cs_abs rfl T.b_abs bt_abs (am_cons (em_var (pv 2)) am_nil)) (em_op op_powA os_pow em_int em_int) (nomark _)) am_nil))))
    (ss_cons (sm_set (i := 4) nd rfl (Or.inl rfl) (em_op op_modN os_mod (em_callTy call_int1 cs_int rfl T.b_int bt_int (am_cons (em_var (pv 2)) am_nil)) em_int))
    (ss_one (sm_ret (em_lst (am_cons (em_var (pv 3)) (am_cons (em_op op_modN os_mod (em_callTy call_int1 cs_int rfl T.b_int bt_int (am_cons (em_op op_addA os_add (em_op op_addA os_add (em_op op_mulA os_mul (em_var (pv 4)) em_int) (em_op op_mulA os_mul (em_op op_mulA os_mul em_int (em_var (pv 1))) (em_var (pv 1)))) em_int) am_nil)) em_int) (am_cons em_int am_nil)))))))))

/-! _law_take -/
abbrev s__law_take : Stmt := topAt prog 54
abbrev N__law_take : List Str := ["pot", "upto", "digit", "prime", "blend"]
def b__law_take : MS :=
  (sSeq (sIf (tst (m2 dGt (mIxS 0 (mC (.int 0))) (mC (.int 0)))) (sSeq (sSet 2 (m2 dMod (mB dInt (aCons (mIxS 0 (mC (.int 0))) aNil)) (mVar 1)))
    (sSeq (sSetIx 0 (mC (.int 0)) (m2 dFdiv (mIxS 0 (mC (.int 0))) (mVar 1)))
    (sRet (mMove 2)))) sNext)
    (sSeq (sSetIx 0 (mC (.int 2)) (m2 dAdd (mIxS 0 (mC (.int 2))) (mC (.int 1))))
    (sSeq (sSet 3 (m2 dIxV (mLst (aCons (mC (.int 2147483647)) (aCons (mC (.int 2147483629)) (aCons (mC (.int 2147483587)) (aCons (mC (.int 2147483579)) aNil))))) (m2 dMod (mB dInt (aCons (mIxS 0 (mC (.int 2))) aNil)) (mC (.int 4)))))
    (sSeq (sSet 4 (m2 dMod (mB dInt (aCons (m2 dPow (mB dInt (aCons (m2 dAdd (m2 dAdd (mIxS 0 (mC (.int 1))) (m2 dMul (m2 dMul (mC (.int 215987)) (mIxS 0 (mC (.int 2)))) (mIxS 0 (mC (.int 2))))) (mC (.int 7957))) aNil)) (mC (.int 3))) aNil)) (mVar 3)))
    (sRet (m2 dMod (mB dInt (aCons (m2 dFdiv (m2 dMul (mVar 4) (m2 dAdd (m2 dMod (mB dInt (aCons (mVar 4) aNil)) (mC (.int 10007))) (m2 dMul (mC (.int 6911)) (mIxS 0 (mC (.int 2)))))) (mC (.int 307))) aNil)) (mVar 1)))))))
def f__law_take : List D → Option (DV × D) := runFn (some 0) N__law_take.length b__law_take
theorem sc__law_take : FnScope N__law_take ["pot", "upto"] (defScope s__law_take) := ⟨rfl, rfl, rfl, by decide +kernel, rfl, by decide +kernel, by decide +kernel⟩
theorem d__law_take (T : Txt K mg) (S : Src K mg "_law_take" s__law_take)  : Def P w K mg base "_law_take" 1 (some 0) 2 f__law_take :=
  S.def_ (io := (some 0)) (N := N__law_take) (m := b__law_take) sc__law_take rfl (fun _ _ _ _ _ _ us hl => match us, hl with | [_, _], _ => rfl) fun f cdv A outer s H E hr => by
    have nd := sc__law_take.nd
    exact (ss_cons (sm_if (et_cmp op_gt os_gt (em_ixS (pv 0) em_int) em_int (nomark _)) (ss_cons (sm_set (i := 2) nd rfl (Or.inl rfl) (em_op op_modN os_mod (em_callTy call_int1 cs_int rfl T.b_int bt_int (am_cons (em_ixS (pv 0) em_int) am_nil)) (em_var (pv 1))))
    (ss_cons (sm_setIx (pv 0) em_int (em_op op_fdivA os_fdiv (em_ixS (pv 0) em_int) (em_var (pv 1))) (fun to ti ho hi => pg_sub ho hi set_list))
    (ss_one (sm_ret (em_move (pv 2)))))) ss_nil)
    (ss_cons (sm_setIx (pv 0) em_int (em_op op_addA os_add (em_ixS (pv 0) em_int) em_int) (fun to ti ho hi => pg_sub ho hi set_list))
    (ss_cons (sm_set (i := 3) nd rfl (Or.inl rfl) (em_ix (em_lst (am_cons em_int (am_cons em_int (am_cons em_int (am_cons em_int am_nil))))) (em_op op_modN os_mod (em_callTy call_int1 cs_int rfl T.b_int bt_int (am_cons (em_ixS (pv 0) em_int) am_nil)) em_int)))
    (ss_cons (sm_set (i := 4) nd rfl (Or.inl rfl) (em_op op_modN os_mod (em_callTy call_int1 cs_int rfl T.b_int bt_int (am_cons (em_op op_powA os_pow (em_callTy call_int1 cs_int rfl T.b_int bt_int (am_cons (em_op op_addA os_add (em_op op_addA os_add (em_ixS (pv 0) em_int) (em_op op_mulA os_mul (em_op op_mulA os_mul em_int (em_ixS (pv 0) em_int)) (em_ixS (pv 0) em_int))) em_int) am_nil)) em_int) am_nil)) (em_var (pv 3))))
    (ss_one (sm_ret (em_op op_modN os_mod (em_callTy call_int1 cs_int rfl T.b_int bt_int (am_cons (em_op op_fdivA os_fdiv (em_op op_mulA os_mul (em_var (pv 4)) (em_op op_addA os_add (em_op op_modN os_mod (em_callTy call_int1 cs_int rfl T.b_int bt_int (am_cons (em_var (pv 4)) am_nil)) em_int) (em_op op_mulA os_mul em_int (em_ixS (pv 0) em_int)))) em_int) am_nil)) (em_var (pv 1)))))))))

/-! _law_some -/
abbrev s__law_some : Stmt := topAt prog 57
abbrev N__law_some : List Str := ["pot", "some", "many", "left", "found", "lap"]
def b__law_some : MS :=
  (sSeq (sPar [3, 4] (dCons (mB dList (aCons (mVar 1) aNil)) (dCons (mLst aNil) dNil)))
    (sSeq (sFor (iRng (aCons (mVar 2) aNil)) (gN 5) (sApp 4 (mPopAt 3 (mCallL 0 f__law_take (lLend 0 (lCons (mLenS 3) lNil))))))
    (sRet (mMove 4))))
def f__law_some : List D → Option (DV × D) := runFn (some 0) N__law_some.length b__law_some
theorem sc__law_some : FnScope N__law_some ["pot", "some", "many"] (defScope s__law_some) := ⟨rfl, rfl, rfl, by decide +kernel, rfl, by decide +kernel, by decide +kernel⟩
theorem d__law_some (T : Txt K mg) (S : Src K mg "_law_some" s__law_some) (h__law_take : Def P w K mg base "_law_take" 1 (some 0) 2 f__law_take) : Def P w K mg base "_law_some" 2 (some 0) 3 f__law_some :=
  S.def_ (io := (some 0)) (N := N__law_some) (m := b__law_some) sc__law_some rfl (fun _ _ _ _ _ _ us hl => match us, hl with | [_, _, _], _ => rfl) fun f cdv A outer s H E hr => by
    have nd := sc__law_some.nd
    exact (ss_cons (sm_par (i := 3) (j := 4) rfl nd rfl rfl (by decide) rfl rfl (ad_cons (em_callTy call_list_of cs_list rfl T.b_list bt_list (am_cons (em_var (pv 1)) am_nil)) (ad_cons (em_lst am_nil) ad_nil)) (by rfl))
    (ss_cons (sm_for PassesOwn.never rfl (im_range1 rfl T.b_range (am_cons (em_var (pv 2)) am_nil) (aLen_cons aLen_nil)) (gm_name (i := 5) nd rfl (Or.inl rfl)) (ss_one (sm_append (pv 4) (em_popAt (pv 3) (em_callL (h__law_take.fk hr) rfl (al_lend (pv 0) (al_cons (em_lenS rfl T.b_len bt_len (pv 3)) al_nil)) (lLen_lend (lLen_cons lLen_nil))) (fun to te ho he => pe_bm PySem.F.plainAttrs_list PySem.F.slot_list_pop PySem.F.type_list_pop mt_popAt ho (pa_cons he pa_nil))) (fun to te ho he => pe_bm PySem.F.plainAttrs_list PySem.F.slot_list_append PySem.F.type_list_append mt_append ho (pa_cons he pa_nil)))))
    (ss_one (sm_ret (em_move (pv 4))))))

/-! _law_kinds -/
abbrev s__law_kinds : Stmt := topAt prog 63
abbrev N__law_kinds : List Str := ["pot", "rows", "most", "weights", "weight"]
def b__law_kinds : MS :=
  (sSeq (sSet 3 (mB dSorted (aCons (mCallL 0 f__law_some (lLend 0 (lCons (mLst (aCons (mC (.int 1)) (aCons (mC (.int 2)) (aCons (mC (.int 3)) (aCons (mC (.int 4)) (aCons (mC (.int 7)) (aCons (mC (.int 10)) (aCons (mC (.int 64)) (aCons (mC (.int 99)) (aCons (mC (.int 500)) (aCons (mC (.int 1000)) aNil))))))))))) (lCons (m2 dAdd (mC (.int 1)) (mCallL 0 f__law_take (lLend 0 (lCons (mVar 1) lNil)))) lNil)))) aNil)))
    (sRet (mB dTuple (aCons (mLc (iSeq (mVar 3)) (gN 4) tYesM (mTup (aCons (mVar 4) (aCons (m2 dAdd (mC (.int 1)) (mB dInt (aCons (mCallL 0 f__law_take (lLend 0 (lCons (mVar 2) lNil))) aNil))) aNil))) [4]) aNil))))
def f__law_kinds : List D → Option (DV × D) := runFn (some 0) N__law_kinds.length b__law_kinds
theorem sc__law_kinds : FnScope N__law_kinds ["pot", "rows", "most"] (defScope s__law_kinds) := ⟨rfl, rfl, rfl, by decide +kernel, rfl, by decide +kernel, by decide +kernel⟩
theorem d__law_kinds (T : Txt K mg) (S : Src K mg "_law_kinds" s__law_kinds) (h__law_take : Def P w K mg base "_law_take" 1 (some 0) 2 f__law_take) (h__law_some : Def P w K mg base "_law_some" 2 (some 0) 3 f__law_some) : Def P w K mg base "_law_kinds" 3 (some 0) 3 f__law_kinds :=
  S.def_ (io := (some 0)) (N := N__law_kinds) (m := b__law_kinds) sc__law_kinds rfl (fun _ _ _ _ _ _ us hl => match us, hl with | [_, _, _], _ => rfl) fun f cdv A outer s H E hr => by
    have nd := sc__law_kinds.nd
    exact (ss_cons (sm_set (i := 3) nd rfl (Or.inl rfl) (em_callB cr_sortedI cs_sorted rfl T.b_sorted bt_sorted (am_cons (em_callL (h__law_some.fk hr) rfl (al_lend (pv 0) (al_cons (em_lst (am_cons em_int (am_cons em_int (am_cons em_int (am_cons em_int (am_cons em_int (am_cons em_int (am_cons em_int (am_cons em_int (am_cons em_int (am_cons em_int am_nil))))))))))) (al_cons (em_op op_addA os_add em_int (em_callL (h__law_take.fk hr) rfl (al_lend (pv 0) (al_cons (em_var (pv 1)) al_nil)) (lLen_lend (lLen_cons lLen_nil)))) al_nil))) (lLen_lend (lLen_cons (lLen_cons lLen_nil)))) am_nil)))
    (ss_one (sm_ret (em_callTy call_tuple_of cs_tuple rfl T.b_tuple bt_tuple (am_cons (em_lc (own := [("weight", 4)]) (by decide) rfl nd (im_seq (em_var (pv 3))) (blkOk_by (N := N__law_kinds) (sc := defScope s__law_kinds) (own := [("weight", 4)]) (by decide +kernel)) (fun _ _ _ _ _ => (gm_name (i := 4) nd rfl (Or.inl rfl))) (fun _ _ _ _ _ => tm_nil) (fun _ _ _ _ _ => (em_tup (am_cons (em_var (pv 4)) (am_cons (em_op op_addA os_add em_int (em_callTy call_int1 cs_int rfl T.b_int bt_int (am_cons (em_callL (h__law_take.fk hr) rfl (al_lend (pv 0) (al_cons (em_var (pv 2)) al_nil)) (lLen_lend (lLen_cons lLen_nil))) am_nil))) am_nil))))) am_nil)))))

/-! is_whole -/
abbrev s_is_whole : Stmt := topAt prog 2
abbrev N_is_whole : List Str := ["value"]
def b_is_whole : MS :=
  (sRet (mAnd (mIsi "int" (mVar 0)) (m1 dNot (mIsi "bool" (mVar 0)))))
def f_is_whole : List D → Option (DV × D) := runFn none N_is_whole.length b_is_whole
theorem sc_is_whole : FnScope N_is_whole ["value"] (defScope s_is_whole) := ⟨rfl, rfl, rfl, by decide +kernel, rfl, by decide +kernel, by decide +kernel⟩
theorem d_is_whole (T : Txt K mg) (S : Src K mg "is_whole" s_is_whole)  : Def P w K mg base "is_whole" 1 none 1 f_is_whole :=
  S.def_ (io := none) (N := N_is_whole) (m := b_is_whole) sc_is_whole rfl (fun _ _ _ _ _ _ us hl => match us, hl with | [_], _ => rfl) fun f cdv A outer s H E hr => by
    have nd := sc_is_whole.nd
    exact (ss_one (sm_ret (em_and (em_isi (em_var (pv 0)) rfl T.b_isinstance bt_isinstance rfl T.b_int bt_int) (em_one (em_not (em_isi (em_var (pv 0)) rfl T.b_isinstance bt_isinstance rfl T.b_bool bt_bool))))))

/-! is_integer -/
abbrev s_is_integer : Stmt := topAt prog 3
abbrev N_is_integer : List Str := ["value", "low", "high"]
def b_is_integer : MS :=
  (sRet (mAnd (mCall f_is_whole (aCons (mVar 0) aNil)) (mChain dLe dLe (mVar 1) (mVar 0) (mVar 2))))
def f_is_integer : List D → Option (DV × D) := runFn none N_is_integer.length b_is_integer
theorem sc_is_integer : FnScope N_is_integer ["value", "low", "high"] (defScope s_is_integer) := ⟨rfl, rfl, rfl, by decide +kernel, rfl, by decide +kernel, by decide +kernel⟩
theorem d_is_integer (T : Txt K mg) (S : Src K mg "is_integer" s_is_integer) (h_is_whole : Def P w K mg base "is_whole" 1 none 1 f_is_whole) : Def P w K mg base "is_integer" 2 none 3 f_is_integer :=
  S.def_ (io := none) (N := N_is_integer) (m := b_is_integer) sc_is_integer rfl (fun _ _ _ _ _ _ us hl => match us, hl with | [_, _, _], _ => rfl) fun f cdv A outer s H E hr => by
    have nd := sc_is_integer.nd
    exact (ss_one (sm_ret (em_and (em_call (h_is_whole.fk hr) rfl (am_cons (em_var (pv 0)) am_nil) (aLen_cons aLen_nil)) (em_one (em_chain op_le op_le os_le os_le (em_var (pv 1)) (em_var (pv 0)) (em_var (pv 2)))))))

/-! check_draws -/
abbrev s_check_draws : Stmt := topAt prog 36
abbrev N_check_draws : List Str := ["value", "most"]
def b_check_draws : MS :=
  (sIf (tNotm (tst (mCall f_is_integer (aCons (mVar 0) (aCons (mC (.int 0)) (aCons (mVar 1) aNil)))))) sNever sNext)
def f_check_draws : List D → Option (DV × D) := runFn none N_check_draws.length b_check_draws
theorem sc_check_draws : FnScope N_check_draws ["value", "most"] (defScope s_check_draws) := ⟨rfl, rfl, rfl, by decide +kernel, rfl, by decide +kernel, by decide +kernel⟩
theorem d_check_draws (T : Txt K mg) (S : Src K mg "check_draws" s_check_draws) (h_is_integer : Def P w K mg base "is_integer" 2 none 3 f_is_integer) : Def P w K mg base "check_draws" 3 none 2 f_check_draws :=
  S.def_ (io := none) (N := N_check_draws) (m := b_check_draws) sc_check_draws rfl (fun _ _ _ _ _ _ us hl => match us, hl with | [_, _], _ => rfl) fun f cdv A outer s H E hr => by
    have nd := sc_check_draws.nd
    exact (ss_one (sm_if (et_not (et_val (em_call (h_is_integer.fk hr) rfl (am_cons (em_var (pv 0)) (am_cons em_int (am_cons (em_var (pv 1)) am_nil))) (aLen_cons (aLen_cons (aLen_cons aLen_nil)))))) ss_never ss_nil))

/-! common_of -/
abbrev s_common_of : Stmt := topAt prog 15
abbrev N_common_of : List Str := ["one", "other"]
def b_common_of : MS :=
  (sSeq (sWhile (tst (m2 dNe (mVar 1) (mC (.int 0)))) (sPar [0, 1] (dCons (mVar 1) (dCons (m2 dMod (mVar 0) (mVar 1)) dNil))))
    (sRet (mB dAbs (aCons (mVar 0) aNil))))
def f_common_of : List D → Option (DV × D) := runFn none N_common_of.length b_common_of
theorem sc_common_of : FnScope N_common_of ["one", "other"] (defScope s_common_of) := ⟨rfl, rfl, rfl, by decide +kernel, rfl, by decide +kernel, by decide +kernel⟩
theorem d_common_of (T : Txt K mg) (S : Src K mg "common_of" s_common_of)  : Def P w K mg base "common_of" 1 none 2 f_common_of :=
  S.def_ (io := none) (N := N_common_of) (m := b_common_of) sc_common_of rfl (fun _ _ _ _ _ _ us hl => match us, hl with | [_, _], _ => rfl) fun f cdv A outer s H E hr => by
    have nd := sc_common_of.nd
    exact (ss_cons (sm_while PassesOwn.never (et_cmp (op_neD hr.units) os_ne (em_var (pv 1)) em_int (nomark _)) (ss_one (sm_par (i := 0) (j := 1) rfl nd rfl rfl (by decide) rfl rfl (ad_cons (em_var (pv 1)) (ad_cons (em_op op_modN os_mod (em_var (pv 0)) (em_var (pv 1))) ad_nil)) (by rfl))))
    (ss_one (sm_ret (em_callB call_abs cs_abs rfl T.b_abs bt_abs (am_cons (em_var (pv 0)) am_nil)))))

/-! ratio_of -/
abbrev s_ratio_of : Stmt := topAt prog 20
abbrev N_ratio_of : List Str := ["top", "low", "share"]
def b_ratio_of : MS :=
  (sSeq (sSet 2 (mCall f_common_of (aCons (mVar 0) (aCons (mVar 1) aNil))))
    (sSeq (sIf (tst (m2 dLt (mVar 1) (mC (.int 0)))) (sSet 2 (m1 dNeg (mVar 2))) sNext)
    (sRet (mTup (aCons (m2 dFdiv (mVar 0) (mVar 2)) (aCons (m2 dFdiv (mVar 1) (mVar 2)) aNil))))))
def f_ratio_of : List D → Option (DV × D) := runFn none N_ratio_of.length b_ratio_of
theorem sc_ratio_of : FnScope N_ratio_of ["top", "low"] (defScope s_ratio_of) := ⟨rfl, rfl, rfl, by decide +kernel, rfl, by decide +kernel, by decide +kernel⟩
theorem d_ratio_of (T : Txt K mg) (S : Src K mg "ratio_of" s_ratio_of) (h_common_of : Def P w K mg base "common_of" 1 none 2 f_common_of) : Def P w K mg base "ratio_of" 2 none 2 f_ratio_of :=
  S.def_ (io := none) (N := N_ratio_of) (m := b_ratio_of) sc_ratio_of rfl (fun _ _ _ _ _ _ us hl => match us, hl with | [_, _], _ => rfl) fun f cdv A outer s H E hr => by
    have nd := sc_ratio_of.nd
    exact (ss_cons (sm_set (i := 2) nd rfl (Or.inl rfl) (em_call (h_common_of.fk hr) rfl (am_cons (em_var (pv 0)) (am_cons (em_var (pv 1)) am_nil)) (aLen_cons (aLen_cons aLen_nil))))
    (ss_cons (sm_if (et_cmp op_lt os_lt (em_var (pv 1)) em_int (nomark _)) (ss_one (sm_set (i := 2) nd rfl (Or.inl rfl) (em_neg (em_var (pv 2))))) ss_nil)
    (ss_one (sm_ret (em_tup (am_cons (em_op op_fdivA os_fdiv (em_var (pv 0)) (em_var (pv 2))) (am_cons (em_op op_fdivA os_fdiv (em_var (pv 1)) (em_var (pv 2))) am_nil)))))))

/-! plus_of -/
abbrev s_plus_of : Stmt := topAt prog 21
abbrev N_plus_of : List Str := ["one", "other"]
def b_plus_of : MS :=
  (sRet (mCall f_ratio_of (aCons (m2 dAdd (m2 dMul (mIxS 0 (mC (.int 0))) (mIxS 1 (mC (.int 1)))) (m2 dMul (mIxS 1 (mC (.int 0))) (mIxS 0 (mC (.int 1))))) (aCons (m2 dMul (mIxS 0 (mC (.int 1))) (mIxS 1 (mC (.int 1)))) aNil))))
def f_plus_of : List D → Option (DV × D) := runFn none N_plus_of.length b_plus_of
theorem sc_plus_of : FnScope N_plus_of ["one", "other"] (defScope s_plus_of) := ⟨rfl, rfl, rfl, by decide +kernel, rfl, by decide +kernel, by decide +kernel⟩
theorem d_plus_of (T : Txt K mg) (S : Src K mg "plus_of" s_plus_of) (h_ratio_of : Def P w K mg base "ratio_of" 2 none 2 f_ratio_of) : Def P w K mg base "plus_of" 3 none 2 f_plus_of :=
  S.def_ (io := none) (N := N_plus_of) (m := b_plus_of) sc_plus_of rfl (fun _ _ _ _ _ _ us hl => match us, hl with | [_, _], _ => rfl) fun f cdv A outer s H E hr => by
    have nd := sc_plus_of.nd
    exact (ss_one (sm_ret (em_call (h_ratio_of.fk hr) rfl (am_cons (em_op op_addA os_add (em_op op_mulA os_mul (em_ixS (pv 0) em_int) (em_ixS (pv 1) em_int)) (em_op op_mulA os_mul (em_ixS (pv 1) em_int) (em_ixS (pv 0) em_int))) (am_cons (em_op op_mulA os_mul (em_ixS (pv 0) em_int) (em_ixS (pv 1) em_int)) am_nil)) (aLen_cons (aLen_cons aLen_nil)))))

/-! total_of -/
abbrev s_total_of : Stmt := topAt prog 25
abbrev N_total_of : List Str := ["rows", "level", "odd", "one", "other"]
def b_total_of : MS :=
  (sSeq (sSet 1 (mLst (aStar (mVar 0) (aCons (mC (.tup [(.int 0), (.int 1)])) aNil))))
    (sSeq (sWhile (tst (m2 dGt (mLenS 1) (mC (.int 1)))) (sSeq (sSet 2 (mIf (tst (m2 dEq (m2 dMod (mLenS 1) (mC (.int 2))) (mC (.int 1)))) (mSl (mVar 1) (pSome (m1 dNeg (mC (.int 1)))) pNone) (mLst aNil)))
    (sSet 1 (m2 dAdd (mLc (iZipM (aCons (mSl3 (mVar 1) pNone pNone (pSome (mC (.int 2)))) (aCons (mSl3 (mVar 1) (pSome (mC (.int 1))) pNone (pSome (mC (.int 2)))) aNil))) (gTM (gsCons (gN 3) (gsCons (gN 4) gsNil))) tYesM (mCall f_plus_of (aCons (mVar 3) (aCons (mVar 4) aNil))) [3, 4]) (mVar 2)))))
    (sRet (mIxS 1 (mC (.int 0))))))
def f_total_of : List D → Option (DV × D) := runFn none N_total_of.length b_total_of
theorem sc_total_of : FnScope N_total_of ["rows"] (defScope s_total_of) := ⟨rfl, rfl, rfl, by decide +kernel, rfl, by decide +kernel, by decide +kernel⟩
theorem d_total_of (T : Txt K mg) (S : Src K mg "total_of" s_total_of) (h_plus_of : Def P w K mg base "plus_of" 3 none 2 f_plus_of) : Def P w K mg base "total_of" 4 none 1 f_total_of :=
  S.def_ (io := none) (N := N_total_of) (m := b_total_of) sc_total_of rfl (fun _ _ _ _ _ _ us hl => match us, hl with | [_], _ => rfl) fun f cdv A outer s H E hr => by
    have nd := sc_total_of.nd
    exact (ss_cons (sm_set (i := 1) nd rfl (Or.inl rfl) (em_lst (am_star (em_var (pv 0)) (am_cons (em_glob rfl T.c_NOUGHT) am_nil))))
    (ss_cons (sm_while PassesOwn.never (et_cmp op_gt os_gt (em_lenS rfl T.b_len bt_len (pv 1)) em_int (nomark _)) (ss_cons (sm_set (i := 2) nd rfl (Or.inl rfl) (em_if (et_cmp (op_eqD hr.units) os_eq (em_op op_modN os_mod (em_lenS rfl T.b_len bt_len (pv 1)) (em_glob rfl T.c_PAIR_fractions)) em_int (nomark _)) (em_slice (em_var (pv 1)) (pm_some (em_neg em_int)) pm_none) (em_lst am_nil)))
    (ss_one (sm_set (i := 1) nd rfl (Or.inl rfl) (em_op op_addA os_add (em_lc (own := [("one", 3), ("other", 4)]) (by decide) rfl nd (im_zipM rfl T.b_zip (am_cons (em_sl3 (em_var (pv 1)) pm_none pm_none (pm_some (em_glob rfl T.c_PAIR_fractions))) (am_cons (em_sl3 (em_var (pv 1)) (pm_some em_int) pm_none (pm_some (em_glob rfl T.c_PAIR_fractions))) am_nil))) (blkOk_by (N := N_total_of) (sc := defScope s_total_of) (own := [("one", 3), ("other", 4)]) (by decide +kernel)) (fun _ _ _ _ _ => (gm_tupM rfl (gs_cons (gm_name (i := 3) nd rfl (Or.inl rfl)) (gs_cons (gm_name (i := 4) nd rfl (Or.inl rfl)) gs_nil)) (gsLen_cons (gsLen_cons gsLen_nil)))) (fun _ _ _ _ _ => tm_nil) (fun _ _ _ _ _ => (em_call (h_plus_of.fk hr) rfl (am_cons (em_var (pv 3)) (am_cons (em_var (pv 4)) am_nil)) (aLen_cons (aLen_cons aLen_nil))))) (em_var (pv 2)))))))
    (ss_one (sm_ret (em_ixS (pv 1) em_int)))))

/-! times_of -/
abbrev s_times_of : Stmt := topAt prog 23
abbrev N_times_of : List Str := ["one", "other"]
def b_times_of : MS :=
  (sRet (mCall f_ratio_of (aCons (m2 dMul (mIxS 0 (mC (.int 0))) (mIxS 1 (mC (.int 0)))) (aCons (m2 dMul (mIxS 0 (mC (.int 1))) (mIxS 1 (mC (.int 1)))) aNil))))
def f_times_of : List D → Option (DV × D) := runFn none N_times_of.length b_times_of
theorem sc_times_of : FnScope N_times_of ["one", "other"] (defScope s_times_of) := ⟨rfl, rfl, rfl, by decide +kernel, rfl, by decide +kernel, by decide +kernel⟩
theorem d_times_of (T : Txt K mg) (S : Src K mg "times_of" s_times_of) (h_ratio_of : Def P w K mg base "ratio_of" 2 none 2 f_ratio_of) : Def P w K mg base "times_of" 3 none 2 f_times_of :=
  S.def_ (io := none) (N := N_times_of) (m := b_times_of) sc_times_of rfl (fun _ _ _ _ _ _ us hl => match us, hl with | [_, _], _ => rfl) fun f cdv A outer s H E hr => by
    have nd := sc_times_of.nd
    exact (ss_one (sm_ret (em_call (h_ratio_of.fk hr) rfl (am_cons (em_op op_mulA os_mul (em_ixS (pv 0) em_int) (em_ixS (pv 1) em_int)) (am_cons (em_op op_mulA os_mul (em_ixS (pv 0) em_int) (em_ixS (pv 1) em_int)) am_nil)) (aLen_cons (aLen_cons aLen_nil)))))

/-! summed -/
abbrev s_summed : Stmt := topAt prog 44
abbrev N_summed : List Str := ["row", "ways", "one", "other"]
def b_summed : MS :=
  (sRet (mCall f_total_of (aCons (mLc (iZipM (aCons (mVar 0) (aCons (mVar 1) aNil))) (gTM (gsCons (gN 2) (gsCons (gN 3) gsNil))) tYesM (mCall f_times_of (aCons (mVar 2) (aCons (mVar 3) aNil))) [2, 3]) aNil)))
def f_summed : List D → Option (DV × D) := runFn none N_summed.length b_summed
theorem sc_summed : FnScope N_summed ["row", "ways"] (defScope s_summed) := ⟨rfl, rfl, rfl, by decide +kernel, rfl, by decide +kernel, by decide +kernel⟩
theorem d_summed (T : Txt K mg) (S : Src K mg "summed" s_summed) (h_total_of : Def P w K mg base "total_of" 4 none 1 f_total_of) (h_times_of : Def P w K mg base "times_of" 3 none 2 f_times_of) : Def P w K mg base "summed" 5 none 2 f_summed :=
  S.def_ (io := none) (N := N_summed) (m := b_summed) sc_summed rfl (fun _ _ _ _ _ _ us hl => match us, hl with | [_, _], _ => rfl) fun f cdv A outer s H E hr => by
    have nd := sc_summed.nd
    exact (ss_one (sm_ret (em_call (h_total_of.fk hr) rfl (am_cons (em_lc (own := [("one", 2), ("other", 3)]) (by decide) rfl nd (im_zipM rfl T.b_zip (am_cons (em_var (pv 0)) (am_cons (em_var (pv 1)) am_nil))) (blkOk_by (N := N_summed) (sc := defScope s_summed) (own := [("one", 2), ("other", 3)]) (by decide +kernel)) (fun _ _ _ _ _ => (gm_tupM rfl (gs_cons (gm_name (i := 2) nd rfl (Or.inl rfl)) (gs_cons (gm_name (i := 3) nd rfl (Or.inl rfl)) gs_nil)) (gsLen_cons (gsLen_cons gsLen_nil)))) (fun _ _ _ _ _ => tm_nil) (fun _ _ _ _ _ => (em_call (h_times_of.fk hr) rfl (am_cons (em_var (pv 2)) (am_cons (em_var (pv 3)) am_nil)) (aLen_cons (aLen_cons aLen_nil))))) am_nil) (aLen_cons aLen_nil))))

/-! is_tuple -/
abbrev s_is_tuple : Stmt := topAt prog 1
abbrev N_is_tuple : List Str := ["value", "least", "most"]
def b_is_tuple : MS :=
  (sRet (mAnd (mIsi "tuple" (mVar 0)) (mChain dLe dLe (mVar 1) (mLenS 0) (mVar 2))))
def f_is_tuple : List D → Option (DV × D) := runFn none N_is_tuple.length b_is_tuple
theorem sc_is_tuple : FnScope N_is_tuple ["value", "least", "most"] (defScope s_is_tuple) := ⟨rfl, rfl, rfl, by decide +kernel, rfl, by decide +kernel, by decide +kernel⟩
theorem d_is_tuple (T : Txt K mg) (S : Src K mg "is_tuple" s_is_tuple)  : Def P w K mg base "is_tuple" 1 none 3 f_is_tuple :=
  S.def_ (io := none) (N := N_is_tuple) (m := b_is_tuple) sc_is_tuple rfl (fun _ _ _ _ _ _ us hl => match us, hl with | [_, _, _], _ => rfl) fun f cdv A outer s H E hr => by
    have nd := sc_is_tuple.nd
    exact (ss_one (sm_ret (em_and (em_isi (em_var (pv 0)) rfl T.b_isinstance bt_isinstance rfl T.b_tuple bt_tuple) (em_one (em_chain op_le op_le os_le os_le (em_var (pv 1)) (em_lenS rfl T.b_len bt_len (pv 0)) (em_var (pv 2)))))))

/-! is_below -/
abbrev s_is_below : Stmt := topAt prog 24
abbrev N_is_below : List Str := ["one", "other"]
def b_is_below : MS :=
  (sRet (m2 dLt (m2 dMul (mIxS 0 (mC (.int 0))) (mIxS 1 (mC (.int 1)))) (m2 dMul (mIxS 1 (mC (.int 0))) (mIxS 0 (mC (.int 1))))))
def f_is_below : List D → Option (DV × D) := runFn none N_is_below.length b_is_below
theorem sc_is_below : FnScope N_is_below ["one", "other"] (defScope s_is_below) := ⟨rfl, rfl, rfl, by decide +kernel, rfl, by decide +kernel, by decide +kernel⟩
theorem d_is_below (T : Txt K mg) (S : Src K mg "is_below" s_is_below)  : Def P w K mg base "is_below" 1 none 2 f_is_below :=
  S.def_ (io := none) (N := N_is_below) (m := b_is_below) sc_is_below rfl (fun _ _ _ _ _ _ us hl => match us, hl with | [_, _], _ => rfl) fun f cdv A outer s H E hr => by
    have nd := sc_is_below.nd
    exact (ss_one (sm_ret (em_cmp op_lt os_lt (em_op op_mulA os_mul (em_ixS (pv 0) em_int) (em_ixS (pv 1) em_int)) (em_op op_mulA os_mul (em_ixS (pv 1) em_int) (em_ixS (pv 0) em_int)) (nomark _))))

/-! is_size -/
abbrev s_is_size : Stmt := topAt prog 17
abbrev N_is_size : List Str := ["value"]
def b_is_size : MS :=
  (sRet (mAnd (mCall f_is_whole (aCons (mVar 0) aNil)) (mChain dLt dLt (m1 dNeg (mC (.int 10000000000000000000000000000000000000000))) (mVar 0) (mC (.int 10000000000000000000000000000000000000000)))))
def f_is_size : List D → Option (DV × D) := runFn none N_is_size.length b_is_size
theorem sc_is_size : FnScope N_is_size ["value"] (defScope s_is_size) := ⟨rfl, rfl, rfl, by decide +kernel, rfl, by decide +kernel, by decide +kernel⟩
theorem d_is_size (T : Txt K mg) (S : Src K mg "is_size" s_is_size) (h_is_whole : Def P w K mg base "is_whole" 1 none 1 f_is_whole) : Def P w K mg base "is_size" 2 none 1 f_is_size :=
  S.def_ (io := none) (N := N_is_size) (m := b_is_size) sc_is_size rfl (fun _ _ _ _ _ _ us hl => match us, hl with | [_], _ => rfl) fun f cdv A outer s H E hr => by
    have nd := sc_is_size.nd
    exact (ss_one (sm_ret (em_and (em_call (h_is_whole.fk hr) rfl (am_cons (em_var (pv 0)) am_nil) (aLen_cons aLen_nil)) (em_one (em_chain op_lt op_lt os_lt os_lt (em_neg (em_glob rfl T.c_MOST_SIZE)) (em_var (pv 0)) (em_glob rfl T.c_MOST_SIZE))))))

/-! is_fraction -/
abbrev s_is_fraction : Stmt := topAt prog 18
abbrev N_is_fraction : List Str := ["value", "one"]
def b_is_fraction : MS :=
  (sSeq (sIf (tOrm (tNotm (tst (mCall f_is_tuple (aCons (mVar 0) (aCons (mC (.int 2)) (aCons (mC (.int 2)) aNil)))))) (tNotm (tst (mB dAll (aCons (mLc (iSeq (mVar 0)) (gN 1) tYesM (mCall f_is_size (aCons (mVar 1) aNil)) [1]) aNil))))) (sRet (mC (.bl false))) sNext)
    (sRet (mAnd (m2 dGt (mIxS 0 (mC (.int 1))) (mC (.int 0))) (m2 dEq (mCall f_common_of (aCons (mIxS 0 (mC (.int 0))) (aCons (mIxS 0 (mC (.int 1))) aNil))) (mC (.int 1))))))
def f_is_fraction : List D → Option (DV × D) := runFn none N_is_fraction.length b_is_fraction
theorem sc_is_fraction : FnScope N_is_fraction ["value"] (defScope s_is_fraction) := ⟨rfl, rfl, rfl, by decide +kernel, rfl, by decide +kernel, by decide +kernel⟩
theorem d_is_fraction (T : Txt K mg) (S : Src K mg "is_fraction" s_is_fraction) (h_common_of : Def P w K mg base "common_of" 1 none 2 f_common_of) (h_is_tuple : Def P w K mg base "is_tuple" 1 none 3 f_is_tuple) (h_is_size : Def P w K mg base "is_size" 2 none 1 f_is_size) : Def P w K mg base "is_fraction" 3 none 1 f_is_fraction :=
  S.def_ (io := none) (N := N_is_fraction) (m := b_is_fraction) sc_is_fraction rfl (fun _ _ _ _ _ _ us hl => match us, hl with | [_], _ => rfl) fun f cdv A outer s H E hr => by
    have nd := sc_is_fraction.nd
    exact (ss_cons (sm_if (et_w (ew_or (et_not (et_val (em_call (h_is_tuple.fk hr) rfl (am_cons (em_var (pv 0)) (am_cons (em_glob rfl T.c_PAIR_fractions) (am_cons (em_glob rfl T.c_PAIR_fractions) am_nil))) (aLen_cons (aLen_cons (aLen_cons aLen_nil)))))) (ew_or1 (et_not (et_val (em_callB (cr_all rfl) cs_all rfl T.b_all bt_all (am_cons (em_lc (own := [("one", 1)]) (by decide) rfl nd (im_seq (em_var (pv 0))) (blkOk_by (N := N_is_fraction) (sc := defScope s_is_fraction) (own := [("one", 1)]) (by decide +kernel)) (fun _ _ _ _ _ => (gm_name (i := 1) nd rfl (Or.inl rfl))) (fun _ _ _ _ _ => tm_nil) (fun _ _ _ _ _ => (em_call (h_is_size.fk hr) rfl (am_cons (em_var (pv 1)) am_nil) (aLen_cons aLen_nil)))) am_nil))))))) (ss_one (sm_ret em_bl)) ss_nil)
    (ss_one (sm_ret (em_and (em_cmp op_gt os_gt (em_ixS (pv 0) em_int) em_int (nomark _)) (em_one (em_cmp (op_eqD hr.units) os_eq (em_call (h_common_of.fk hr) rfl (am_cons (em_ixS (pv 0) em_int) (am_cons (em_ixS (pv 0) em_int) am_nil)) (aLen_cons (aLen_cons aLen_nil))) em_int (nomark _)))))))

/-! is_share -/
abbrev s_is_share : Stmt := topAt prog 19
abbrev N_is_share : List Str := ["value"]
def b_is_share : MS :=
  (sRet (mAnd (mCall f_is_fraction (aCons (mVar 0) aNil)) (mChain dLe dLe (mC (.int 0)) (mIxS 0 (mC (.int 0))) (mIxS 0 (mC (.int 1))))))
def f_is_share : List D → Option (DV × D) := runFn none N_is_share.length b_is_share
theorem sc_is_share : FnScope N_is_share ["value"] (defScope s_is_share) := ⟨rfl, rfl, rfl, by decide +kernel, rfl, by decide +kernel, by decide +kernel⟩
theorem d_is_share (T : Txt K mg) (S : Src K mg "is_share" s_is_share) (h_is_fraction : Def P w K mg base "is_fraction" 3 none 1 f_is_fraction) : Def P w K mg base "is_share" 4 none 1 f_is_share :=
  S.def_ (io := none) (N := N_is_share) (m := b_is_share) sc_is_share rfl (fun _ _ _ _ _ _ us hl => match us, hl with | [_], _ => rfl) fun f cdv A outer s H E hr => by
    have nd := sc_is_share.nd
    exact (ss_one (sm_ret (em_and (em_call (h_is_fraction.fk hr) rfl (am_cons (em_var (pv 0)) am_nil) (aLen_cons aLen_nil)) (em_one (em_chain op_le op_le os_le os_le em_int (em_ixS (pv 0) em_int) (em_ixS (pv 0) em_int))))))

/-! are_shares -/
abbrev s_are_shares : Stmt := topAt prog 49
abbrev N_are_shares : List Str := ["value", "one", "other"]
def b_are_shares : MS :=
  (sSeq (sIf (tOrm (tNotm (tst (mCall f_is_tuple (aCons (mVar 0) (aCons (mC (.int 1)) (aCons (mC (.int 12)) aNil)))))) (tNotm (tst (mB dAll (aCons (mLc (iSeq (mVar 0)) (gN 1) tYesM (mAnd (mCall f_is_share (aCons (mVar 1) aNil)) (mChain dLt dLe (mC (.int 0)) (mIxS 1 (mC (.int 0))) (mIxS 1 (mC (.int 1))))) [1]) aNil))))) (sRet (mC (.bl false))) sNext)
    (sSeq (sIf (tNotm (tst (mB dAll (aCons (mLc (iSeq (mVar 0)) (gN 1) tYesM (m2 dLe (mIxS 1 (mC (.int 1))) (mC (.int 1000))) [1]) aNil)))) (sRet (mC (.bl false))) sNext)
    (sRet (mB dAll (aCons (mLc (iZipM (aCons (mVar 0) (aCons (mSl (mVar 0) (pSome (mC (.int 1))) pNone) aNil))) (gTM (gsCons (gN 1) (gsCons (gN 2) gsNil))) tYesM (mCall f_is_below (aCons (mVar 1) (aCons (mVar 2) aNil))) [1, 2]) aNil)))))
def f_are_shares : List D → Option (DV × D) := runFn none N_are_shares.length b_are_shares
theorem sc_are_shares : FnScope N_are_shares ["value"] (defScope s_are_shares) := ⟨rfl, rfl, rfl, by decide +kernel, rfl, by decide +kernel, by decide +kernel⟩
theorem d_are_shares (T : Txt K mg) (S : Src K mg "are_shares" s_are_shares) (h_is_tuple : Def P w K mg base "is_tuple" 1 none 3 f_is_tuple) (h_is_below : Def P w K mg base "is_below" 1 none 2 f_is_below) (h_is_share : Def P w K mg base "is_share" 4 none 1 f_is_share) : Def P w K mg base "are_shares" 5 none 1 f_are_shares :=
  S.def_ (io := none) (N := N_are_shares) (m := b_are_shares) sc_are_shares rfl (fun _ _ _ _ _ _ us hl => match us, hl with | [_], _ => rfl) fun f cdv A outer s H E hr => by
    have nd := sc_are_shares.nd
    exact (ss_cons (sm_if (et_w (ew_or (et_not (et_val (em_call (h_is_tuple.fk hr) rfl (am_cons (em_var (pv 0)) (am_cons em_int (am_cons (em_glob rfl T.c_MOST_SHARES) am_nil))) (aLen_cons (aLen_cons (aLen_cons aLen_nil)))))) (ew_or1 (et_not (et_val (em_callB (cr_all rfl) cs_all rfl T.b_all bt_all (am_cons (em_lc (own := [("one", 1)]) (by decide) rfl nd (im_seq (em_var (pv 0))) (blkOk_by (N := N_are_shares) (sc := defScope s_are_shares) (own := [("one", 1)]) (by decide +kernel)) (fun _ _ _ _ _ => (gm_name (i := 1) nd rfl (Or.inl rfl))) (fun _ _ _ _ _ => tm_nil) (fun _ _ _ _ _ => (em_and (em_call (h_is_share.fk hr) rfl (am_cons (em_var (pv 1)) am_nil) (aLen_cons aLen_nil)) (em_one (em_chain op_lt op_le os_lt os_le em_int (em_ixS (pv 1) em_int) (em_ixS (pv 1) em_int)))))) am_nil))))))) (ss_one (sm_ret em_bl)) ss_nil)
    (ss_cons (sm_if (et_not (et_val (em_callB (cr_all rfl) cs_all rfl T.b_all bt_all (am_cons (em_lc (own := [("one", 1)]) (by decide) rfl nd (im_seq (em_var (pv 0))) (blkOk_by (N := N_are_shares) (sc := defScope s_are_shares) (own := [("one", 1)]) (by decide +kernel)) (fun _ _ _ _ _ => (gm_name (i := 1) nd rfl (Or.inl rfl))) (fun _ _ _ _ _ => tm_nil) (fun _ _ _ _ _ => (em_cmp op_le os_le (em_ixS (pv 1) em_int) (em_glob rfl T.c_MOST_LOW) (nomark _)))) am_nil)))) (ss_one (sm_ret em_bl)) ss_nil)
    (ss_one (sm_ret (em_callB (cr_all rfl) cs_all rfl T.b_all bt_all (am_cons (em_lc (own := [("one", 1), ("other", 2)]) (by decide) rfl nd (im_zipM rfl T.b_zip (am_cons (em_var (pv 0)) (am_cons (em_slice (em_var (pv 0)) (pm_some em_int) pm_none) am_nil))) (blkOk_by (N := N_are_shares) (sc := defScope s_are_shares) (own := [("one", 1), ("other", 2)]) (by decide +kernel)) (fun _ _ _ _ _ => (gm_tupM rfl (gs_cons (gm_name (i := 1) nd rfl (Or.inl rfl)) (gs_cons (gm_name (i := 2) nd rfl (Or.inl rfl)) gs_nil)) (gsLen_cons (gsLen_cons gsLen_nil)))) (fun _ _ _ _ _ => tm_nil) (fun _ _ _ _ _ => (em_call (h_is_below.fk hr) rfl (am_cons (em_var (pv 1)) (am_cons (em_var (pv 2)) am_nil)) (aLen_cons (aLen_cons aLen_nil))))) am_nil))))))

/-! minus_of -/
abbrev s_minus_of : Stmt := topAt prog 22
abbrev N_minus_of : List Str := ["one", "other"]
def b_minus_of : MS :=
  (sRet (mCall f_ratio_of (aCons (m2 dSub (m2 dMul (mIxS 0 (mC (.int 0))) (mIxS 1 (mC (.int 1)))) (m2 dMul (mIxS 1 (mC (.int 0))) (mIxS 0 (mC (.int 1))))) (aCons (m2 dMul (mIxS 0 (mC (.int 1))) (mIxS 1 (mC (.int 1)))) aNil))))
def f_minus_of : List D → Option (DV × D) := runFn none N_minus_of.length b_minus_of
theorem sc_minus_of : FnScope N_minus_of ["one", "other"] (defScope s_minus_of) := ⟨rfl, rfl, rfl, by decide +kernel, rfl, by decide +kernel, by decide +kernel⟩
theorem d_minus_of (T : Txt K mg) (S : Src K mg "minus_of" s_minus_of) (h_ratio_of : Def P w K mg base "ratio_of" 2 none 2 f_ratio_of) : Def P w K mg base "minus_of" 3 none 2 f_minus_of :=
  S.def_ (io := none) (N := N_minus_of) (m := b_minus_of) sc_minus_of rfl (fun _ _ _ _ _ _ us hl => match us, hl with | [_, _], _ => rfl) fun f cdv A outer s H E hr => by
    have nd := sc_minus_of.nd
    exact (ss_one (sm_ret (em_call (h_ratio_of.fk hr) rfl (am_cons (em_op op_sub os_sub (em_op op_mulA os_mul (em_ixS (pv 0) em_int) (em_ixS (pv 1) em_int)) (em_op op_mulA os_mul (em_ixS (pv 1) em_int) (em_ixS (pv 0) em_int))) (am_cons (em_op op_mulA os_mul (em_ixS (pv 0) em_int) (em_ixS (pv 1) em_int)) am_nil)) (aLen_cons (aLen_cons aLen_nil)))))

/-! whole_power -/
abbrev s_whole_power : Stmt := topAt prog 16
abbrev N_whole_power : List Str := ["one", "many", "found", "lap"]
def b_whole_power : MS :=
  (sSeq (sSet 2 (mC (.int 1)))
    (sSeq (sFor (iRng (aCons (mVar 1) aNil)) (gN 3) (sSet 2 (m2 dMul (mVar 2) (mVar 0))))
    (sRet (mMove 2))))
def f_whole_power : List D → Option (DV × D) := runFn none N_whole_power.length b_whole_power
theorem sc_whole_power : FnScope N_whole_power ["one", "many"] (defScope s_whole_power) := ⟨rfl, rfl, rfl, by decide +kernel, rfl, by decide +kernel, by decide +kernel⟩
theorem d_whole_power (T : Txt K mg) (S : Src K mg "whole_power" s_whole_power)  : Def P w K mg base "whole_power" 1 none 2 f_whole_power :=
  S.def_ (io := none) (N := N_whole_power) (m := b_whole_power) sc_whole_power rfl (fun _ _ _ _ _ _ us hl => match us, hl with | [_, _], _ => rfl) fun f cdv A outer s H E hr => by
    have nd := sc_whole_power.nd
    exact (ss_cons (sm_set (i := 2) nd rfl (Or.inl rfl) em_int)
    (ss_cons (sm_for PassesOwn.never rfl (im_range1 rfl T.b_range (am_cons (em_var (pv 1)) am_nil) (aLen_cons aLen_nil)) (gm_name (i := 3) nd rfl (Or.inl rfl)) (ss_one (sm_set (i := 2) nd rfl (Or.inl rfl) (em_op op_mulA os_mul (em_var (pv 2)) (em_var (pv 0))))))
    (ss_one (sm_ret (em_move (pv 2))))))

/-! power_of -/
abbrev s_power_of : Stmt := topAt prog 39
abbrev N_power_of : List Str := ["one", "many"]
def b_power_of : MS :=
  (sRet (mCall f_ratio_of (aCons (mCall f_whole_power (aCons (mIxS 0 (mC (.int 0))) (aCons (mVar 1) aNil))) (aCons (mCall f_whole_power (aCons (mIxS 0 (mC (.int 1))) (aCons (mVar 1) aNil))) aNil))))
def f_power_of : List D → Option (DV × D) := runFn none N_power_of.length b_power_of
theorem sc_power_of : FnScope N_power_of ["one", "many"] (defScope s_power_of) := ⟨rfl, rfl, rfl, by decide +kernel, rfl, by decide +kernel, by decide +kernel⟩
theorem d_power_of (T : Txt K mg) (S : Src K mg "power_of" s_power_of) (h_ratio_of : Def P w K mg base "ratio_of" 2 none 2 f_ratio_of) (h_whole_power : Def P w K mg base "whole_power" 1 none 2 f_whole_power) : Def P w K mg base "power_of" 3 none 2 f_power_of :=
  S.def_ (io := none) (N := N_power_of) (m := b_power_of) sc_power_of rfl (fun _ _ _ _ _ _ us hl => match us, hl with | [_, _], _ => rfl) fun f cdv A outer s H E hr => by
    have nd := sc_power_of.nd
    exact (ss_one (sm_ret (em_call (h_ratio_of.fk hr) rfl (am_cons (em_call (h_whole_power.fk hr) rfl (am_cons (em_ixS (pv 0) em_int) (am_cons (em_var (pv 1)) am_nil)) (aLen_cons (aLen_cons aLen_nil))) (am_cons (em_call (h_whole_power.fk hr) rfl (am_cons (em_ixS (pv 0) em_int) (am_cons (em_var (pv 1)) am_nil)) (aLen_cons (aLen_cons aLen_nil))) am_nil)) (aLen_cons (aLen_cons aLen_nil)))))

/-! new_of_share -/
abbrev s_new_of_share : Stmt := topAt prog 50
abbrev N_new_of_share : List Str := ["share", "draws", "more", "rest"]
def b_new_of_share : MS :=
  (sSeq (sSet 3 (mCall f_minus_of (aCons (mC (.tup [(.int 1), (.int 1)])) (aCons (mVar 0) aNil))))
    (sRet (mCall f_minus_of (aCons (mCall f_power_of (aCons (mVar 3) (aCons (mVar 1) aNil))) (aCons (mCall f_power_of (aCons (mVar 3) (aCons (m2 dAdd (mVar 1) (mVar 2)) aNil))) aNil)))))
def f_new_of_share : List D → Option (DV × D) := runFn none N_new_of_share.length b_new_of_share
theorem sc_new_of_share : FnScope N_new_of_share ["share", "draws", "more"] (defScope s_new_of_share) := ⟨rfl, rfl, rfl, by decide +kernel, rfl, by decide +kernel, by decide +kernel⟩
theorem d_new_of_share (T : Txt K mg) (S : Src K mg "new_of_share" s_new_of_share) (h_minus_of : Def P w K mg base "minus_of" 3 none 2 f_minus_of) (h_power_of : Def P w K mg base "power_of" 3 none 2 f_power_of) : Def P w K mg base "new_of_share" 4 none 3 f_new_of_share :=
  S.def_ (io := none) (N := N_new_of_share) (m := b_new_of_share) sc_new_of_share rfl (fun _ _ _ _ _ _ us hl => match us, hl with | [_, _, _], _ => rfl) fun f cdv A outer s H E hr => by
    have nd := sc_new_of_share.nd
    exact (ss_cons (sm_set (i := 3) nd rfl (Or.inl rfl) (em_call (h_minus_of.fk hr) rfl (am_cons (em_glob rfl T.c_ONE_WHOLE) (am_cons (em_var (pv 0)) am_nil)) (aLen_cons (aLen_cons aLen_nil))))
    (ss_one (sm_ret (em_call (h_minus_of.fk hr) rfl (am_cons (em_call (h_power_of.fk hr) rfl (am_cons (em_var (pv 3)) (am_cons (em_var (pv 1)) am_nil)) (aLen_cons (aLen_cons aLen_nil))) (am_cons (em_call (h_power_of.fk hr) rfl (am_cons (em_var (pv 3)) (am_cons (em_op op_addA os_add (em_var (pv 1)) (em_var (pv 2))) am_nil)) (aLen_cons (aLen_cons aLen_nil))) am_nil)) (aLen_cons (aLen_cons aLen_nil))))))

/-! new_by_kinds -/
abbrev s_new_by_kinds : Stmt := topAt prog 51
abbrev N_new_by_kinds : List Str := ["shares", "many", "draws", "more", "one", "share"]
def b_new_by_kinds : MS :=
  (sSeq (sIf (tNotm (tst (mCall f_are_shares (aCons (mVar 0) aNil)))) sNever sNext)
    (sSeq (sIf (tOrm (tNotm (tst (mCall f_is_tuple (aCons (mVar 1) (aCons (mLenS 0) (aCons (mLenS 0) aNil)))))) (tNotm (tst (mB dAll (aCons (mLc (iSeq (mVar 1)) (gN 4) tYesM (mAnd (mCall f_is_fraction (aCons (mVar 4) aNil)) (m2 dGe (mIxS 4 (mC (.int 0))) (mC (.int 0)))) [4]) aNil))))) sNever sNext)
    (sSeq (sIf (tst (m2 dNe (mCall f_summed (aCons (mVar 0) (aCons (mVar 1) aNil))) (mC (.tup [(.int 1), (.int 1)])))) sNever sNext)
    (sSeq (sExpr (mCall f_check_draws (aCons (mVar 2) (aCons (mC (.int 400)) aNil))))
    (sSeq (sExpr (mCall f_check_draws (aCons (mVar 3) (aCons (mC (.int 400)) aNil))))
    (sRet (mCall f_summed (aCons (mLc (iSeq (mVar 0)) (gN 5) tYesM (mCall f_new_of_share (aCons (mVar 5) (aCons (mVar 2) (aCons (mVar 3) aNil)))) [5]) (aCons (mVar 1) aNil)))))))))
def f_new_by_kinds : List D → Option (DV × D) := runFn none N_new_by_kinds.length b_new_by_kinds
theorem sc_new_by_kinds : FnScope N_new_by_kinds ["shares", "many", "draws", "more"] (defScope s_new_by_kinds) := ⟨rfl, rfl, rfl, by decide +kernel, rfl, by decide +kernel, by decide +kernel⟩
theorem d_new_by_kinds (T : Txt K mg) (S : Src K mg "new_by_kinds" s_new_by_kinds) (h_check_draws : Def P w K mg base "check_draws" 3 none 2 f_check_draws) (h_summed : Def P w K mg base "summed" 5 none 2 f_summed) (h_is_tuple : Def P w K mg base "is_tuple" 1 none 3 f_is_tuple) (h_is_fraction : Def P w K mg base "is_fraction" 3 none 1 f_is_fraction) (h_are_shares : Def P w K mg base "are_shares" 5 none 1 f_are_shares) (h_new_of_share : Def P w K mg base "new_of_share" 4 none 3 f_new_of_share) : Def P w K mg base "new_by_kinds" 6 none 4 f_new_by_kinds :=
  S.def_ (io := none) (N := N_new_by_kinds) (m := b_new_by_kinds) sc_new_by_kinds rfl (fun _ _ _ _ _ _ us hl => match us, hl with | [_, _, _, _], _ => rfl) fun f cdv A outer s H E hr => by
    have nd := sc_new_by_kinds.nd
    exact (ss_cons (sm_if (et_not (et_val (em_call (h_are_shares.fk hr) rfl (am_cons (em_var (pv 0)) am_nil) (aLen_cons aLen_nil)))) ss_never ss_nil)
    (ss_cons (sm_if (et_w (ew_or (et_not (et_val (em_call (h_is_tuple.fk hr) rfl (am_cons (em_var (pv 1)) (am_cons (em_lenS rfl T.b_len bt_len (pv 0)) (am_cons (em_lenS rfl T.b_len bt_len (pv 0)) am_nil))) (aLen_cons (aLen_cons (aLen_cons aLen_nil)))))) (ew_or1 (et_not (et_val (em_callB (cr_all rfl) cs_all rfl T.b_all bt_all (am_cons (em_lc (own := [("one", 4)]) (by decide) rfl nd (im_seq (em_var (pv 1))) (blkOk_by (N := N_new_by_kinds) (sc := defScope s_new_by_kinds) (own := [("one", 4)]) (by decide +kernel)) (fun _ _ _ _ _ => (gm_name (i := 4) nd rfl (Or.inl rfl))) (fun _ _ _ _ _ => tm_nil) (fun _ _ _ _ _ => (em_and (em_call (h_is_fraction.fk hr) rfl (am_cons (em_var (pv 4)) am_nil) (aLen_cons aLen_nil)) (em_one (em_cmp op_ge os_ge (em_ixS (pv 4) em_int) em_int (nomark _)))))) am_nil))))))) ss_never ss_nil)
    (ss_cons (sm_if (et_cmp (op_neD hr.units) os_ne (em_call (h_summed.fk hr) rfl (am_cons (em_var (pv 0)) (am_cons (em_var (pv 1)) am_nil)) (aLen_cons (aLen_cons aLen_nil))) (em_glob rfl T.c_ONE_WHOLE) (nomark _)) ss_never ss_nil)
    (ss_cons (sm_expr (em_call (h_check_draws.fk hr) rfl (am_cons (em_var (pv 2)) (am_cons (em_glob rfl T.c_MOST_MORE) am_nil)) (aLen_cons (aLen_cons aLen_nil))))
    (ss_cons (sm_expr (em_call (h_check_draws.fk hr) rfl (am_cons (em_var (pv 3)) (am_cons (em_glob rfl T.c_MOST_MORE) am_nil)) (aLen_cons (aLen_cons aLen_nil))))
    (ss_one (sm_ret (em_call (h_summed.fk hr) rfl (am_cons (em_lc (own := [("share", 5)]) (by decide) rfl nd (im_seq (em_var (pv 0))) (blkOk_by (N := N_new_by_kinds) (sc := defScope s_new_by_kinds) (own := [("share", 5)]) (by decide +kernel)) (fun _ _ _ _ _ => (gm_name (i := 5) nd rfl (Or.inl rfl))) (fun _ _ _ _ _ => tm_nil) (fun _ _ _ _ _ => (em_call (h_new_of_share.fk hr) rfl (am_cons (em_var (pv 5)) (am_cons (em_var (pv 2)) (am_cons (em_var (pv 3)) am_nil))) (aLen_cons (aLen_cons (aLen_cons aLen_nil)))))) (am_cons (em_var (pv 1)) am_nil)) (aLen_cons (aLen_cons aLen_nil))))))))))

/-! _law_of -/
abbrev s__law_of : Stmt := topAt prog 55
abbrev N__law_of : List Str := ["pot", "some"]
def b__law_of : MS :=
  (sRet (mIxS 1 (mCallL 0 f__law_take (lLend 0 (lCons (mLenS 1) lNil)))))
def f__law_of : List D → Option (DV × D) := runFn (some 0) N__law_of.length b__law_of
theorem sc__law_of : FnScope N__law_of ["pot", "some"] (defScope s__law_of) := ⟨rfl, rfl, rfl, by decide +kernel, rfl, by decide +kernel, by decide +kernel⟩
theorem d__law_of (T : Txt K mg) (S : Src K mg "_law_of" s__law_of) (h__law_take : Def P w K mg base "_law_take" 1 (some 0) 2 f__law_take) : Def P w K mg base "_law_of" 2 (some 0) 2 f__law_of :=
  S.def_ (io := (some 0)) (N := N__law_of) (m := b__law_of) sc__law_of rfl (fun _ _ _ _ _ _ us hl => match us, hl with | [_, _], _ => rfl) fun f cdv A outer s H E hr => by
    have nd := sc__law_of.nd
    exact (ss_one (sm_ret (em_ixS (pv 1) (em_callL (h__law_take.fk hr) rfl (al_lend (pv 0) (al_cons (em_lenS rfl T.b_len bt_len (pv 1)) al_nil)) (lLen_lend (lLen_cons lLen_nil))))))

/-! _law_below -/
abbrev s__law_below : Stmt := topAt prog 62
abbrev N__law_below : List Str := ["one", "other"]
def b__law_below : MS :=
  (sRet (m2 dLt (m2 dMul (mIxS 0 (mC (.int 0))) (mIxS 1 (mC (.int 1)))) (m2 dMul (mIxS 1 (mC (.int 0))) (mIxS 0 (mC (.int 1))))))
def f__law_below : List D → Option (DV × D) := runFn none N__law_below.length b__law_below
theorem sc__law_below : FnScope N__law_below ["one", "other"] (defScope s__law_below) := ⟨rfl, rfl, rfl, by decide +kernel, rfl, by decide +kernel, by decide +kernel⟩
theorem d__law_below (T : Txt K mg) (S : Src K mg "_law_below" s__law_below)  : Def P w K mg base "_law_below" 1 none 2 f__law_below :=
  S.def_ (io := none) (N := N__law_below) (m := b__law_below) sc__law_below rfl (fun _ _ _ _ _ _ us hl => match us, hl with | [_, _], _ => rfl) fun f cdv A outer s H E hr => by
    have nd := sc__law_below.nd
    exact (ss_one (sm_ret (em_cmp op_lt os_lt (em_op op_mulA os_mul (em_ixS (pv 0) em_int) (em_ixS (pv 1) em_int)) (em_op op_mulA os_mul (em_ixS (pv 1) em_int) (em_ixS (pv 0) em_int)) (nomark _))))

/-! is_rising -/
abbrev s_is_rising : Stmt := topAt prog 4
abbrev N_is_rising : List Str := ["values", "one", "other"]
def b_is_rising : MS :=
  (sRet (mB dAll (aCons (mLc (iZipM (aCons (mVar 0) (aCons (mSl (mVar 0) (pSome (mC (.int 1))) pNone) aNil))) (gTM (gsCons (gN 1) (gsCons (gN 2) gsNil))) tYesM (m2 dLt (mVar 1) (mVar 2)) [1, 2]) aNil)))
def f_is_rising : List D → Option (DV × D) := runFn none N_is_rising.length b_is_rising
theorem sc_is_rising : FnScope N_is_rising ["values"] (defScope s_is_rising) := ⟨rfl, rfl, rfl, by decide +kernel, rfl, by decide +kernel, by decide +kernel⟩
theorem d_is_rising (T : Txt K mg) (S : Src K mg "is_rising" s_is_rising)  : Def P w K mg base "is_rising" 1 none 1 f_is_rising :=
  S.def_ (io := none) (N := N_is_rising) (m := b_is_rising) sc_is_rising rfl (fun _ _ _ _ _ _ us hl => match us, hl with | [_], _ => rfl) fun f cdv A outer s H E hr => by
    have nd := sc_is_rising.nd
    exact (ss_one (sm_ret (em_callB (cr_all rfl) cs_all rfl T.b_all bt_all (am_cons (em_lc (own := [("one", 1), ("other", 2)]) (by decide) rfl nd (im_zipM rfl T.b_zip (am_cons (em_var (pv 0)) (am_cons (em_slice (em_var (pv 0)) (pm_some em_int) pm_none) am_nil))) (blkOk_by (N := N_is_rising) (sc := defScope s_is_rising) (own := [("one", 1), ("other", 2)]) (by decide +kernel)) (fun _ _ _ _ _ => (gm_tupM rfl (gs_cons (gm_name (i := 1) nd rfl (Or.inl rfl)) (gs_cons (gm_name (i := 2) nd rfl (Or.inl rfl)) gs_nil)) (gsLen_cons (gsLen_cons gsLen_nil)))) (fun _ _ _ _ _ => tm_nil) (fun _ _ _ _ _ => (em_cmp op_lt os_lt (em_var (pv 1)) (em_var (pv 2)) (nomark _)))) am_nil))))

/-! is_kinds -/
abbrev s_is_kinds : Stmt := topAt prog 34
abbrev N_is_kinds : List Str := ["value", "row"]
def b_is_kinds : MS :=
  (sSeq (sIf (tOrm (tNotm (tst (mCall f_is_tuple (aCons (mVar 0) (aCons (mC (.int 1)) (aCons (mC (.int 256)) aNil)))))) (tNotm (tst (mB dAll (aCons (mLc (iSeq (mVar 0)) (gN 1) tYesM (mCall f_is_tuple (aCons (mVar 1) (aCons (mC (.int 2)) (aCons (mC (.int 2)) aNil)))) [1]) aNil))))) (sRet (mC (.bl false))) sNext)
    (sSeq (sIf (tNotm (tst (mB dAll (aCons (mLc (iSeq (mVar 0)) (gN 1) tYesM (mAnd (mCall f_is_integer (aCons (mIxS 1 (mC (.int 0))) (aCons (mC (.int 1)) (aCons (mC (.int 1000)) aNil)))) (mCall f_is_integer (aCons (mIxS 1 (mC (.int 1))) (aCons (mC (.int 1)) (aCons (mC (.int 256)) aNil))))) [1]) aNil)))) (sRet (mC (.bl false))) sNext)
    (sRet (mAnd (mCall f_is_rising (aCons (mLc (iSeq (mVar 0)) (gN 1) tYesM (mIxS 1 (mC (.int 0))) [1]) aNil)) (m2 dLe (mB dSum (aCons (mLc (iSeq (mVar 0)) (gN 1) tYesM (mIxS 1 (mC (.int 1))) [1]) aNil)) (mC (.int 256)))))))
def f_is_kinds : List D → Option (DV × D) := runFn none N_is_kinds.length b_is_kinds
theorem sc_is_kinds : FnScope N_is_kinds ["value"] (defScope s_is_kinds) := ⟨rfl, rfl, rfl, by decide +kernel, rfl, by decide +kernel, by decide +kernel⟩
theorem d_is_kinds (T : Txt K mg) (S : Src K mg "is_kinds" s_is_kinds) (h_is_integer : Def P w K mg base "is_integer" 2 none 3 f_is_integer) (h_is_tuple : Def P w K mg base "is_tuple" 1 none 3 f_is_tuple) (h_is_rising : Def P w K mg base "is_rising" 1 none 1 f_is_rising) : Def P w K mg base "is_kinds" 3 none 1 f_is_kinds :=
  S.def_ (io := none) (N := N_is_kinds) (m := b_is_kinds) sc_is_kinds rfl (fun _ _ _ _ _ _ us hl => match us, hl with | [_], _ => rfl) fun f cdv A outer s H E hr => by
    have nd := sc_is_kinds.nd
    exact (ss_cons (sm_if (et_w (ew_or (et_not (et_val (em_call (h_is_tuple.fk hr) rfl (am_cons (em_var (pv 0)) (am_cons em_int (am_cons (em_glob rfl T.c_MOST_ROWS) am_nil))) (aLen_cons (aLen_cons (aLen_cons aLen_nil)))))) (ew_or1 (et_not (et_val (em_callB (cr_all rfl) cs_all rfl T.b_all bt_all (am_cons (em_lc (own := [("row", 1)]) (by decide) rfl nd (im_seq (em_var (pv 0))) (blkOk_by (N := N_is_kinds) (sc := defScope s_is_kinds) (own := [("row", 1)]) (by decide +kernel)) (fun _ _ _ _ _ => (gm_name (i := 1) nd rfl (Or.inl rfl))) (fun _ _ _ _ _ => tm_nil) (fun _ _ _ _ _ => (em_call (h_is_tuple.fk hr) rfl (am_cons (em_var (pv 1)) (am_cons (em_glob rfl T.c_PAIR_kinds) (am_cons (em_glob rfl T.c_PAIR_kinds) am_nil))) (aLen_cons (aLen_cons (aLen_cons aLen_nil)))))) am_nil))))))) (ss_one (sm_ret em_bl)) ss_nil)
    (ss_cons (sm_if (et_not (et_val (em_callB (cr_all rfl) cs_all rfl T.b_all bt_all (am_cons (em_lc (own := [("row", 1)]) (by decide) rfl nd (im_seq (em_var (pv 0))) (blkOk_by (N := N_is_kinds) (sc := defScope s_is_kinds) (own := [("row", 1)]) (by decide +kernel)) (fun _ _ _ _ _ => (gm_name (i := 1) nd rfl (Or.inl rfl))) (fun _ _ _ _ _ => tm_nil) (fun _ _ _ _ _ => (em_and (em_call (h_is_integer.fk hr) rfl (am_cons (em_ixS (pv 1) em_int) (am_cons em_int (am_cons (em_glob rfl T.c_MOST_WEIGHT) am_nil))) (aLen_cons (aLen_cons (aLen_cons aLen_nil)))) (em_one (em_call (h_is_integer.fk hr) rfl (am_cons (em_ixS (pv 1) em_int) (am_cons em_int (am_cons (em_glob rfl T.c_MOST_KINDS) am_nil))) (aLen_cons (aLen_cons (aLen_cons aLen_nil)))))))) am_nil)))) (ss_one (sm_ret em_bl)) ss_nil)
    (ss_one (sm_ret (em_and (em_call (h_is_rising.fk hr) rfl (am_cons (em_lc (own := [("row", 1)]) (by decide) rfl nd (im_seq (em_var (pv 0))) (blkOk_by (N := N_is_kinds) (sc := defScope s_is_kinds) (own := [("row", 1)]) (by decide +kernel)) (fun _ _ _ _ _ => (gm_name (i := 1) nd rfl (Or.inl rfl))) (fun _ _ _ _ _ => tm_nil) (fun _ _ _ _ _ => (em_ixS (pv 1) em_int))) am_nil) (aLen_cons aLen_nil)) (em_one (em_cmp op_le os_le (em_callB (cr_sum rfl) cs_sum rfl T.b_sum bt_sum (am_cons (em_lc (own := [("row", 1)]) (by decide) rfl nd (im_seq (em_var (pv 0))) (blkOk_by (N := N_is_kinds) (sc := defScope s_is_kinds) (own := [("row", 1)]) (by decide +kernel)) (fun _ _ _ _ _ => (gm_name (i := 1) nd rfl (Or.inl rfl))) (fun _ _ _ _ _ => tm_nil) (fun _ _ _ _ _ => (em_ixS (pv 1) em_int))) am_nil)) (em_glob rfl T.c_MOST_KINDS) (nomark _))))))))

/-! check_kinds -/
abbrev s_check_kinds : Stmt := topAt prog 35
abbrev N_check_kinds : List Str := ["value"]
def b_check_kinds : MS :=
  (sIf (tNotm (tst (mCall f_is_kinds (aCons (mVar 0) aNil)))) sNever sNext)
def f_check_kinds : List D → Option (DV × D) := runFn none N_check_kinds.length b_check_kinds
theorem sc_check_kinds : FnScope N_check_kinds ["value"] (defScope s_check_kinds) := ⟨rfl, rfl, rfl, by decide +kernel, rfl, by decide +kernel, by decide +kernel⟩
theorem d_check_kinds (T : Txt K mg) (S : Src K mg "check_kinds" s_check_kinds) (h_is_kinds : Def P w K mg base "is_kinds" 3 none 1 f_is_kinds) : Def P w K mg base "check_kinds" 4 none 1 f_check_kinds :=
  S.def_ (io := none) (N := N_check_kinds) (m := b_check_kinds) sc_check_kinds rfl (fun _ _ _ _ _ _ us hl => match us, hl with | [_], _ => rfl) fun f cdv A outer s H E hr => by
    have nd := sc_check_kinds.nd
    exact (ss_one (sm_if (et_not (et_val (em_call (h_is_kinds.fk hr) rfl (am_cons (em_var (pv 0)) am_nil) (aLen_cons aLen_nil)))) ss_never ss_nil))

/-! whole_of -/
abbrev s_whole_of : Stmt := topAt prog 37
abbrev N_whole_of : List Str := ["kinds", "weight", "many"]
def b_whole_of : MS :=
  (sRet (mB dSum (aCons (mLc (iSeq (mVar 0)) (gTM (gsCons (gN 1) (gsCons (gN 2) gsNil))) tYesM (m2 dMul (mVar 1) (mVar 2)) [1, 2]) aNil)))
def f_whole_of : List D → Option (DV × D) := runFn none N_whole_of.length b_whole_of
theorem sc_whole_of : FnScope N_whole_of ["kinds"] (defScope s_whole_of) := ⟨rfl, rfl, rfl, by decide +kernel, rfl, by decide +kernel, by decide +kernel⟩
theorem d_whole_of (T : Txt K mg) (S : Src K mg "whole_of" s_whole_of)  : Def P w K mg base "whole_of" 1 none 1 f_whole_of :=
  S.def_ (io := none) (N := N_whole_of) (m := b_whole_of) sc_whole_of rfl (fun _ _ _ _ _ _ us hl => match us, hl with | [_], _ => rfl) fun f cdv A outer s H E hr => by
    have nd := sc_whole_of.nd
    exact (ss_one (sm_ret (em_callB (cr_sum rfl) cs_sum rfl T.b_sum bt_sum (am_cons (em_lc (own := [("weight", 1), ("many", 2)]) (by decide) rfl nd (im_seq (em_var (pv 0))) (blkOk_by (N := N_whole_of) (sc := defScope s_whole_of) (own := [("weight", 1), ("many", 2)]) (by decide +kernel)) (fun _ _ _ _ _ => (gm_tupM rfl (gs_cons (gm_name (i := 1) nd rfl (Or.inl rfl)) (gs_cons (gm_name (i := 2) nd rfl (Or.inl rfl)) gs_nil)) (gsLen_cons (gsLen_cons gsLen_nil)))) (fun _ _ _ _ _ => tm_nil) (fun _ _ _ _ _ => (em_op op_mulA os_mul (em_var (pv 1)) (em_var (pv 2))))) am_nil))))

/-! shares_of -/
abbrev s_shares_of : Stmt := topAt prog 38
abbrev N_shares_of : List Str := ["kinds", "whole", "weight", "many"]
def b_shares_of : MS :=
  (sSeq (sSet 1 (mCall f_whole_of (aCons (mVar 0) aNil)))
    (sRet (mLc (iSeq (mVar 0)) (gTM (gsCons (gN 2) (gsCons (gN 3) gsNil))) tYesM (mTup (aCons (mCall f_ratio_of (aCons (mVar 2) (aCons (mVar 1) aNil))) (aCons (mVar 3) aNil))) [2, 3])))
def f_shares_of : List D → Option (DV × D) := runFn none N_shares_of.length b_shares_of
theorem sc_shares_of : FnScope N_shares_of ["kinds"] (defScope s_shares_of) := ⟨rfl, rfl, rfl, by decide +kernel, rfl, by decide +kernel, by decide +kernel⟩
theorem d_shares_of (T : Txt K mg) (S : Src K mg "shares_of" s_shares_of) (h_ratio_of : Def P w K mg base "ratio_of" 2 none 2 f_ratio_of) (h_whole_of : Def P w K mg base "whole_of" 1 none 1 f_whole_of) : Def P w K mg base "shares_of" 3 none 1 f_shares_of :=
  S.def_ (io := none) (N := N_shares_of) (m := b_shares_of) sc_shares_of rfl (fun _ _ _ _ _ _ us hl => match us, hl with | [_], _ => rfl) fun f cdv A outer s H E hr => by
    have nd := sc_shares_of.nd
    exact (ss_cons (sm_set (i := 1) nd rfl (Or.inr rfl) (em_call (h_whole_of.fk hr) rfl (am_cons (em_var (pv 0)) am_nil) (aLen_cons aLen_nil)))
    (ss_one (sm_ret (em_lc (own := [("weight", 2), ("many", 3)]) (by decide) rfl nd (im_seq (em_var (pv 0))) (blkOk_by (N := N_shares_of) (sc := defScope s_shares_of) (own := [("weight", 2), ("many", 3)]) (by decide +kernel)) (fun _ _ _ _ _ => (gm_tupM rfl (gs_cons (gm_name (i := 2) nd rfl (Or.inl rfl)) (gs_cons (gm_name (i := 3) nd rfl (Or.inl rfl)) gs_nil)) (gsLen_cons (gsLen_cons gsLen_nil)))) (fun _ _ _ _ _ => tm_nil) (fun _ _ _ _ _ => (em_tup (am_cons (em_call (h_ratio_of.fk hr) rfl (am_cons (em_var (pv 2)) (am_cons (em_var (pv 1)) am_nil)) (aLen_cons (aLen_cons aLen_nil))) (am_cons (em_var (pv 3)) am_nil))))))))

/-! mean_unseen -/
abbrev s_mean_unseen : Stmt := topAt prog 42
abbrev N_mean_unseen : List Str := ["kinds", "draws", "rows", "share", "many"]
def b_mean_unseen : MS :=
  (sSeq (sExpr (mCall f_check_kinds (aCons (mVar 0) aNil)))
    (sSeq (sExpr (mCall f_check_draws (aCons (mVar 1) (aCons (mC (.int 400)) aNil))))
    (sSeq (sSet 2 (mLst aNil))
    (sSeq (sFor (iSeq (mCall f_shares_of (aCons (mVar 0) aNil))) (gTM (gsCons (gN 3) (gsCons (gN 4) gsNil))) (sApp 2 (mCall f_times_of (aCons (mCall f_times_of (aCons (mTup (aCons (mVar 4) (aCons (mC (.int 1)) aNil))) (aCons (mVar 3) aNil))) (aCons (mCall f_power_of (aCons (mCall f_minus_of (aCons (mTup (aCons (mC (.int 1)) (aCons (mC (.int 1)) aNil))) (aCons (mVar 3) aNil))) (aCons (mVar 1) aNil))) aNil)))))
    (sRet (mCall f_total_of (aCons (mVar 2) aNil)))))))
def f_mean_unseen : List D → Option (DV × D) := runFn none N_mean_unseen.length b_mean_unseen
theorem sc_mean_unseen : FnScope N_mean_unseen ["kinds", "draws"] (defScope s_mean_unseen) := ⟨rfl, rfl, rfl, by decide +kernel, rfl, by decide +kernel, by decide +kernel⟩
theorem d_mean_unseen (T : Txt K mg) (S : Src K mg "mean_unseen" s_mean_unseen) (h_check_draws : Def P w K mg base "check_draws" 3 none 2 f_check_draws) (h_total_of : Def P w K mg base "total_of" 4 none 1 f_total_of) (h_times_of : Def P w K mg base "times_of" 3 none 2 f_times_of) (h_minus_of : Def P w K mg base "minus_of" 3 none 2 f_minus_of) (h_power_of : Def P w K mg base "power_of" 3 none 2 f_power_of) (h_check_kinds : Def P w K mg base "check_kinds" 4 none 1 f_check_kinds) (h_shares_of : Def P w K mg base "shares_of" 3 none 1 f_shares_of) : Def P w K mg base "mean_unseen" 5 none 2 f_mean_unseen :=
  S.def_ (io := none) (N := N_mean_unseen) (m := b_mean_unseen) sc_mean_unseen rfl (fun _ _ _ _ _ _ us hl => match us, hl with | [_, _], _ => rfl) fun f cdv A outer s H E hr => by
    have nd := sc_mean_unseen.nd
    exact (ss_cons (sm_expr (em_call (h_check_kinds.fk hr) rfl (am_cons (em_var (pv 0)) am_nil) (aLen_cons aLen_nil)))
    (ss_cons (sm_expr (em_call (h_check_draws.fk hr) rfl (am_cons (em_var (pv 1)) (am_cons (em_glob rfl T.c_MOST_DRAWS) am_nil)) (aLen_cons (aLen_cons aLen_nil))))
    (ss_cons (sm_set (i := 2) nd rfl (Or.inl rfl) (em_lst am_nil))
    (ss_cons (sm_for PassesOwn.never rfl (im_seq (em_call (h_shares_of.fk hr) rfl (am_cons (em_var (pv 0)) am_nil) (aLen_cons aLen_nil))) (gm_tupM rfl (gs_cons (gm_name (i := 3) nd rfl (Or.inl rfl)) (gs_cons (gm_name (i := 4) nd rfl (Or.inl rfl)) gs_nil)) (gsLen_cons (gsLen_cons gsLen_nil))) (ss_one (sm_append (pv 2) (em_call (h_times_of.fk hr) rfl (am_cons (em_call (h_times_of.fk hr) rfl (am_cons (em_tup (am_cons (em_var (pv 4)) (am_cons em_int am_nil))) (am_cons (em_var (pv 3)) am_nil)) (aLen_cons (aLen_cons aLen_nil))) (am_cons (em_call (h_power_of.fk hr) rfl (am_cons (em_call (h_minus_of.fk hr) rfl (am_cons (em_tup (am_cons em_int (am_cons em_int am_nil))) (am_cons (em_var (pv 3)) am_nil)) (aLen_cons (aLen_cons aLen_nil))) (am_cons (em_var (pv 1)) am_nil)) (aLen_cons (aLen_cons aLen_nil))) am_nil)) (aLen_cons (aLen_cons aLen_nil))) (fun to te ho he => pe_bm PySem.F.plainAttrs_list PySem.F.slot_list_append PySem.F.type_list_append mt_append ho (pa_cons he pa_nil)))))
    (ss_one (sm_ret (em_call (h_total_of.fk hr) rfl (am_cons (em_var (pv 2)) am_nil) (aLen_cons aLen_nil))))))))

/-! falling_of -/
abbrev s_falling_of : Stmt := topAt prog 27
abbrev N_falling_of : List Str := ["many", "some", "found", "at"]
def b_falling_of : MS :=
  (sSeq (sSet 2 (mC (.int 1)))
    (sSeq (sFor (iRng (aCons (mVar 1) aNil)) (gN 3) (sSet 2 (m2 dMul (mVar 2) (m2 dSub (mVar 0) (mVar 3)))))
    (sRet (mMove 2))))
def f_falling_of : List D → Option (DV × D) := runFn none N_falling_of.length b_falling_of
theorem sc_falling_of : FnScope N_falling_of ["many", "some"] (defScope s_falling_of) := ⟨rfl, rfl, rfl, by decide +kernel, rfl, by decide +kernel, by decide +kernel⟩
theorem d_falling_of (T : Txt K mg) (S : Src K mg "falling_of" s_falling_of)  : Def P w K mg base "falling_of" 1 none 2 f_falling_of :=
  S.def_ (io := none) (N := N_falling_of) (m := b_falling_of) sc_falling_of rfl (fun _ _ _ _ _ _ us hl => match us, hl with | [_, _], _ => rfl) fun f cdv A outer s H E hr => by
    have nd := sc_falling_of.nd
    exact (ss_cons (sm_set (i := 2) nd rfl (Or.inl rfl) em_int)
    (ss_cons (sm_for PassesOwn.never rfl (im_range1 rfl T.b_range (am_cons (em_var (pv 1)) am_nil) (aLen_cons aLen_nil)) (gm_name (i := 3) nd rfl (Or.inl rfl)) (ss_one (sm_set (i := 2) nd rfl (Or.inl rfl) (em_op op_mulA os_mul (em_var (pv 2)) (em_op op_sub os_sub (em_var (pv 0)) (em_var (pv 3)))))))
    (ss_one (sm_ret (em_move (pv 2))))))

/-! mean_times -/
abbrev s_mean_times : Stmt := topAt prog 41
abbrev N_mean_times : List Str := ["kinds", "draws", "times", "rows", "ways", "share", "many", "both"]
def b_mean_times : MS :=
  (sSeq (sExpr (mCall f_check_kinds (aCons (mVar 0) aNil)))
    (sSeq (sExpr (mCall f_check_draws (aCons (mVar 1) (aCons (mC (.int 400)) aNil))))
    (sSeq (sExpr (mCall f_check_draws (aCons (mVar 2) (aCons (mVar 1) aNil))))
    (sSeq (sPar [3, 4] (dCons (mLst aNil) (dCons (m2 dFdiv (mCall f_falling_of (aCons (mVar 1) (aCons (mVar 2) aNil))) (mCall f_falling_of (aCons (mVar 2) (aCons (mVar 2) aNil)))) dNil)))
    (sSeq (sFor (iSeq (mCall f_shares_of (aCons (mVar 0) aNil))) (gTM (gsCons (gN 5) (gsCons (gN 6) gsNil))) (sSeq (sSet 7 (mCall f_times_of (aCons (mCall f_power_of (aCons (mVar 5) (aCons (mVar 2) aNil))) (aCons (mCall f_power_of (aCons (mCall f_minus_of (aCons (mTup (aCons (mC (.int 1)) (aCons (mC (.int 1)) aNil))) (aCons (mVar 5) aNil))) (aCons (m2 dSub (mVar 1) (mVar 2)) aNil))) aNil))))
    (sApp 3 (mCall f_times_of (aCons (mTup (aCons (m2 dMul (mVar 4) (mVar 6)) (aCons (mC (.int 1)) aNil))) (aCons (mVar 7) aNil))))))
    (sRet (mCall f_total_of (aCons (mVar 3) aNil))))))))
def f_mean_times : List D → Option (DV × D) := runFn none N_mean_times.length b_mean_times
theorem sc_mean_times : FnScope N_mean_times ["kinds", "draws", "times"] (defScope s_mean_times) := ⟨rfl, rfl, rfl, by decide +kernel, rfl, by decide +kernel, by decide +kernel⟩
theorem d_mean_times (T : Txt K mg) (S : Src K mg "mean_times" s_mean_times) (h_check_draws : Def P w K mg base "check_draws" 3 none 2 f_check_draws) (h_total_of : Def P w K mg base "total_of" 4 none 1 f_total_of) (h_times_of : Def P w K mg base "times_of" 3 none 2 f_times_of) (h_minus_of : Def P w K mg base "minus_of" 3 none 2 f_minus_of) (h_power_of : Def P w K mg base "power_of" 3 none 2 f_power_of) (h_check_kinds : Def P w K mg base "check_kinds" 4 none 1 f_check_kinds) (h_shares_of : Def P w K mg base "shares_of" 3 none 1 f_shares_of) (h_falling_of : Def P w K mg base "falling_of" 1 none 2 f_falling_of) : Def P w K mg base "mean_times" 5 none 3 f_mean_times :=
  S.def_ (io := none) (N := N_mean_times) (m := b_mean_times) sc_mean_times rfl (fun _ _ _ _ _ _ us hl => match us, hl with | [_, _, _], _ => rfl) fun f cdv A outer s H E hr => by
    have nd := sc_mean_times.nd
    exact (ss_cons (sm_expr (em_call (h_check_kinds.fk hr) rfl (am_cons (em_var (pv 0)) am_nil) (aLen_cons aLen_nil)))
    (ss_cons (sm_expr (em_call (h_check_draws.fk hr) rfl (am_cons (em_var (pv 1)) (am_cons (em_glob rfl T.c_MOST_DRAWS) am_nil)) (aLen_cons (aLen_cons aLen_nil))))
    (ss_cons (sm_expr (em_call (h_check_draws.fk hr) rfl (am_cons (em_var (pv 2)) (am_cons (em_var (pv 1)) am_nil)) (aLen_cons (aLen_cons aLen_nil))))
    (ss_cons (sm_par (i := 3) (j := 4) rfl nd rfl rfl (by decide) rfl rfl (ad_cons (em_lst am_nil) (ad_cons (em_op op_fdivA os_fdiv (em_call (h_falling_of.fk hr) rfl (am_cons (em_var (pv 1)) (am_cons (em_var (pv 2)) am_nil)) (aLen_cons (aLen_cons aLen_nil))) (em_call (h_falling_of.fk hr) rfl (am_cons (em_var (pv 2)) (am_cons (em_var (pv 2)) am_nil)) (aLen_cons (aLen_cons aLen_nil)))) ad_nil)) (by rfl))
    (ss_cons (sm_for PassesOwn.never rfl (im_seq (em_call (h_shares_of.fk hr) rfl (am_cons (em_var (pv 0)) am_nil) (aLen_cons aLen_nil))) (gm_tupM rfl (gs_cons (gm_name (i := 5) nd rfl (Or.inl rfl)) (gs_cons (gm_name (i := 6) nd rfl (Or.inl rfl)) gs_nil)) (gsLen_cons (gsLen_cons gsLen_nil))) (ss_cons (sm_set (i := 7) nd rfl (Or.inl rfl) (em_call (h_times_of.fk hr) rfl (am_cons (em_call (h_power_of.fk hr) rfl (am_cons (em_var (pv 5)) (am_cons (em_var (pv 2)) am_nil)) (aLen_cons (aLen_cons aLen_nil))) (am_cons (em_call (h_power_of.fk hr) rfl (am_cons (em_call (h_minus_of.fk hr) rfl (am_cons (em_tup (am_cons em_int (am_cons em_int am_nil))) (am_cons (em_var (pv 5)) am_nil)) (aLen_cons (aLen_cons aLen_nil))) (am_cons (em_op op_sub os_sub (em_var (pv 1)) (em_var (pv 2))) am_nil)) (aLen_cons (aLen_cons aLen_nil))) am_nil)) (aLen_cons (aLen_cons aLen_nil))))
    (ss_one (sm_append (pv 3) (em_call (h_times_of.fk hr) rfl (am_cons (em_tup (am_cons (em_op op_mulA os_mul (em_var (pv 4)) (em_var (pv 6))) (am_cons em_int am_nil))) (am_cons (em_var (pv 7)) am_nil)) (aLen_cons (aLen_cons aLen_nil))) (fun to te ho he => pe_bm PySem.F.plainAttrs_list PySem.F.slot_list_append PySem.F.type_list_append mt_append ho (pa_cons he pa_nil))))))
    (ss_one (sm_ret (em_call (h_total_of.fk hr) rfl (am_cons (em_var (pv 3)) am_nil) (aLen_cons aLen_nil)))))))))

/-! _law_gcd -/
abbrev s__law_gcd : Stmt := topAt prog 58
abbrev N__law_gcd : List Str := ["one", "other", "lap"]
def b__law_gcd : MS :=
  (sSeq (sFor (iRng (aCons (m2 dPow (mC (.int 10)) (mC (.int 6))) aNil)) (gN 2) (sSeq (sIf (tst (m2 dEq (mVar 1) (mC (.int 0)))) sBreak sNext)
    (sPar [0, 1] (dCons (mVar 1) (dCons (m2 dMod (mVar 0) (mVar 1)) dNil)))))
    (sRet (mB dAbs (aCons (mVar 0) aNil))))
def f__law_gcd : List D → Option (DV × D) := runFn none N__law_gcd.length b__law_gcd
theorem sc__law_gcd : FnScope N__law_gcd ["one", "other"] (defScope s__law_gcd) := ⟨rfl, rfl, rfl, by decide +kernel, rfl, by decide +kernel, by decide +kernel⟩
theorem d__law_gcd (T : Txt K mg) (S : Src K mg "_law_gcd" s__law_gcd)  : Def P w K mg base "_law_gcd" 1 none 2 f__law_gcd :=
  S.def_ (io := none) (N := N__law_gcd) (m := b__law_gcd) sc__law_gcd rfl (fun _ _ _ _ _ _ us hl => match us, hl with | [_, _], _ => rfl) fun f cdv A outer s H E hr => by
    have nd := sc__law_gcd.nd
    exact (ss_cons (sm_for PassesOwn.never rfl (im_range1 rfl T.b_range (am_cons (em_op op_powA os_pow em_int em_int) am_nil) (aLen_cons aLen_nil)) (gm_name (i := 2) nd rfl (Or.inl rfl)) (ss_cons (sm_if (et_cmp (op_eqD hr.units) os_eq (em_var (pv 1)) em_int (nomark _)) (ss_one sm_break) ss_nil)
    (ss_one (sm_par (i := 0) (j := 1) rfl nd rfl rfl (by decide) rfl rfl (ad_cons (em_var (pv 1)) (ad_cons (em_op op_modN os_mod (em_var (pv 0)) (em_var (pv 1))) ad_nil)) (by rfl)))))
    (ss_one (sm_ret (em_callB call_abs cs_abs rfl T.b_abs bt_abs (am_cons (em_var (pv 0)) am_nil)))))

/-! _law_ratio -/
abbrev s__law_ratio : Stmt := topAt prog 59
abbrev N__law_ratio : List Str := ["top", "low", "share"]
def b__law_ratio : MS :=
  (sSeq (sSet 2 (m2 dMul (mCall f__law_gcd (aCons (mVar 0) (aCons (mVar 1) aNil))) (mIf (tst (m2 dGt (mVar 1) (mC (.int 0)))) (mC (.int 1)) (m1 dNeg (mC (.int 1))))))
    (sRet (mTup (aCons (m2 dFdiv (mVar 0) (mVar 2)) (aCons (m2 dFdiv (mVar 1) (mVar 2)) aNil)))))
def f__law_ratio : List D → Option (DV × D) := runFn none N__law_ratio.length b__law_ratio
theorem sc__law_ratio : FnScope N__law_ratio ["top", "low"] (defScope s__law_ratio) := ⟨rfl, rfl, rfl, by decide +kernel, rfl, by decide +kernel, by decide +kernel⟩
theorem d__law_ratio (T : Txt K mg) (S : Src K mg "_law_ratio" s__law_ratio) (h__law_gcd : Def P w K mg base "_law_gcd" 1 none 2 f__law_gcd) : Def P w K mg base "_law_ratio" 2 none 2 f__law_ratio :=
  S.def_ (io := none) (N := N__law_ratio) (m := b__law_ratio) sc__law_ratio rfl (fun _ _ _ _ _ _ us hl => match us, hl with | [_, _], _ => rfl) fun f cdv A outer s H E hr => by
    have nd := sc__law_ratio.nd
    exact (ss_cons (sm_set (i := 2) nd rfl (Or.inl rfl) (em_op op_mulA os_mul (em_call (h__law_gcd.fk hr) rfl (am_cons (em_var (pv 0)) (am_cons (em_var (pv 1)) am_nil)) (aLen_cons (aLen_cons aLen_nil))) (em_if (et_cmp op_gt os_gt (em_var (pv 1)) em_int (nomark _)) em_int (em_neg em_int))))
    (ss_one (sm_ret (em_tup (am_cons (em_op op_fdivA os_fdiv (em_var (pv 0)) (em_var (pv 2))) (am_cons (em_op op_fdivA os_fdiv (em_var (pv 1)) (em_var (pv 2))) am_nil))))))

/-! _law_times -/
abbrev s__law_times : Stmt := topAt prog 61
abbrev N__law_times : List Str := ["one", "other"]
def b__law_times : MS :=
  (sRet (mCall f__law_ratio (aCons (m2 dMul (mIxS 0 (mC (.int 0))) (mIxS 1 (mC (.int 0)))) (aCons (m2 dMul (mIxS 0 (mC (.int 1))) (mIxS 1 (mC (.int 1)))) aNil))))
def f__law_times : List D → Option (DV × D) := runFn none N__law_times.length b__law_times
theorem sc__law_times : FnScope N__law_times ["one", "other"] (defScope s__law_times) := ⟨rfl, rfl, rfl, by decide +kernel, rfl, by decide +kernel, by decide +kernel⟩
theorem d__law_times (T : Txt K mg) (S : Src K mg "_law_times" s__law_times) (h__law_ratio : Def P w K mg base "_law_ratio" 2 none 2 f__law_ratio) : Def P w K mg base "_law_times" 3 none 2 f__law_times :=
  S.def_ (io := none) (N := N__law_times) (m := b__law_times) sc__law_times rfl (fun _ _ _ _ _ _ us hl => match us, hl with | [_, _], _ => rfl) fun f cdv A outer s H E hr => by
    have nd := sc__law_times.nd
    exact (ss_one (sm_ret (em_call (h__law_ratio.fk hr) rfl (am_cons (em_op op_mulA os_mul (em_ixS (pv 0) em_int) (em_ixS (pv 1) em_int)) (am_cons (em_op op_mulA os_mul (em_ixS (pv 0) em_int) (em_ixS (pv 1) em_int)) am_nil)) (aLen_cons (aLen_cons aLen_nil)))))

/-! _law_plus -/
abbrev s__law_plus : Stmt := topAt prog 60
abbrev N__law_plus : List Str := ["one", "other"]
def b__law_plus : MS :=
  (sRet (mCall f__law_ratio (aCons (m2 dAdd (m2 dMul (mIxS 0 (mC (.int 0))) (mIxS 1 (mC (.int 1)))) (m2 dMul (mIxS 1 (mC (.int 0))) (mIxS 0 (mC (.int 1))))) (aCons (m2 dMul (mIxS 0 (mC (.int 1))) (mIxS 1 (mC (.int 1)))) aNil))))
def f__law_plus : List D → Option (DV × D) := runFn none N__law_plus.length b__law_plus
theorem sc__law_plus : FnScope N__law_plus ["one", "other"] (defScope s__law_plus) := ⟨rfl, rfl, rfl, by decide +kernel, rfl, by decide +kernel, by decide +kernel⟩
theorem d__law_plus (T : Txt K mg) (S : Src K mg "_law_plus" s__law_plus) (h__law_ratio : Def P w K mg base "_law_ratio" 2 none 2 f__law_ratio) : Def P w K mg base "_law_plus" 3 none 2 f__law_plus :=
  S.def_ (io := none) (N := N__law_plus) (m := b__law_plus) sc__law_plus rfl (fun _ _ _ _ _ _ us hl => match us, hl with | [_, _], _ => rfl) fun f cdv A outer s H E hr => by
    have nd := sc__law_plus.nd
    exact (ss_one (sm_ret (em_call (h__law_ratio.fk hr) rfl (am_cons (em_op op_addA os_add (em_op op_mulA os_mul (em_ixS (pv 0) em_int) (em_ixS (pv 1) em_int)) (em_op op_mulA os_mul (em_ixS (pv 1) em_int) (em_ixS (pv 0) em_int))) (am_cons (em_op op_mulA os_mul (em_ixS (pv 0) em_int) (em_ixS (pv 1) em_int)) am_nil)) (aLen_cons (aLen_cons aLen_nil)))))

/-! _law_less -/
abbrev s__law_less : Stmt := topAt prog 64
abbrev N__law_less : List Str := ["one", "other"]
def b__law_less : MS :=
  (sRet (mCall f__law_plus (aCons (mVar 0) (aCons (mTup (aCons (m1 dNeg (mIxS 1 (mC (.int 0)))) (aCons (mIxS 1 (mC (.int 1))) aNil))) aNil))))
def f__law_less : List D → Option (DV × D) := runFn none N__law_less.length b__law_less
theorem sc__law_less : FnScope N__law_less ["one", "other"] (defScope s__law_less) := ⟨rfl, rfl, rfl, by decide +kernel, rfl, by decide +kernel, by decide +kernel⟩
theorem d__law_less (T : Txt K mg) (S : Src K mg "_law_less" s__law_less) (h__law_plus : Def P w K mg base "_law_plus" 3 none 2 f__law_plus) : Def P w K mg base "_law_less" 4 none 2 f__law_less :=
  S.def_ (io := none) (N := N__law_less) (m := b__law_less) sc__law_less rfl (fun _ _ _ _ _ _ us hl => match us, hl with | [_, _], _ => rfl) fun f cdv A outer s H E hr => by
    have nd := sc__law_less.nd
    exact (ss_one (sm_ret (em_call (h__law_plus.fk hr) rfl (am_cons (em_var (pv 0)) (am_cons (em_tup (am_cons (em_neg (em_ixS (pv 1) em_int)) (am_cons (em_ixS (pv 1) em_int) am_nil))) am_nil)) (aLen_cons (aLen_cons aLen_nil)))))

/-! mean_kinds -/
abbrev s_mean_kinds : Stmt := topAt prog 40
abbrev N_mean_kinds : List Str := ["kinds", "draws", "rows", "share", "many", "missed"]
def b_mean_kinds : MS :=
  (sSeq (sExpr (mCall f_check_kinds (aCons (mVar 0) aNil)))
    (sSeq (sExpr (mCall f_check_draws (aCons (mVar 1) (aCons (mC (.int 400)) aNil))))
    (sSeq (sSet 2 (mLst aNil))
    (sSeq (sFor (iSeq (mCall f_shares_of (aCons (mVar 0) aNil))) (gTM (gsCons (gN 3) (gsCons (gN 4) gsNil))) (sSeq (sSet 5 (mCall f_power_of (aCons (mCall f_minus_of (aCons (mTup (aCons (mC (.int 1)) (aCons (mC (.int 1)) aNil))) (aCons (mVar 3) aNil))) (aCons (mVar 1) aNil))))
    (sApp 2 (mCall f_times_of (aCons (mTup (aCons (mVar 4) (aCons (mC (.int 1)) aNil))) (aCons (mCall f_minus_of (aCons (mTup (aCons (mC (.int 1)) (aCons (mC (.int 1)) aNil))) (aCons (mVar 5) aNil))) aNil))))))
    (sRet (mCall f_total_of (aCons (mVar 2) aNil)))))))
def f_mean_kinds : List D → Option (DV × D) := runFn none N_mean_kinds.length b_mean_kinds
theorem sc_mean_kinds : FnScope N_mean_kinds ["kinds", "draws"] (defScope s_mean_kinds) := ⟨rfl, rfl, rfl, by decide +kernel, rfl, by decide +kernel, by decide +kernel⟩
theorem d_mean_kinds (T : Txt K mg) (S : Src K mg "mean_kinds" s_mean_kinds) (h_check_draws : Def P w K mg base "check_draws" 3 none 2 f_check_draws) (h_total_of : Def P w K mg base "total_of" 4 none 1 f_total_of) (h_times_of : Def P w K mg base "times_of" 3 none 2 f_times_of) (h_minus_of : Def P w K mg base "minus_of" 3 none 2 f_minus_of) (h_power_of : Def P w K mg base "power_of" 3 none 2 f_power_of) (h_check_kinds : Def P w K mg base "check_kinds" 4 none 1 f_check_kinds) (h_shares_of : Def P w K mg base "shares_of" 3 none 1 f_shares_of) : Def P w K mg base "mean_kinds" 5 none 2 f_mean_kinds :=
  S.def_ (io := none) (N := N_mean_kinds) (m := b_mean_kinds) sc_mean_kinds rfl (fun _ _ _ _ _ _ us hl => match us, hl with | [_, _], _ => rfl) fun f cdv A outer s H E hr => by
    have nd := sc_mean_kinds.nd
    exact (ss_cons (sm_expr (em_call (h_check_kinds.fk hr) rfl (am_cons (em_var (pv 0)) am_nil) (aLen_cons aLen_nil)))
    (ss_cons (sm_expr (em_call (h_check_draws.fk hr) rfl (am_cons (em_var (pv 1)) (am_cons (em_glob rfl T.c_MOST_DRAWS) am_nil)) (aLen_cons (aLen_cons aLen_nil))))
    (ss_cons (sm_set (i := 2) nd rfl (Or.inl rfl) (em_lst am_nil))
    (ss_cons (sm_for PassesOwn.never rfl (im_seq (em_call (h_shares_of.fk hr) rfl (am_cons (em_var (pv 0)) am_nil) (aLen_cons aLen_nil))) (gm_tupM rfl (gs_cons (gm_name (i := 3) nd rfl (Or.inl rfl)) (gs_cons (gm_name (i := 4) nd rfl (Or.inl rfl)) gs_nil)) (gsLen_cons (gsLen_cons gsLen_nil))) (ss_cons (sm_set (i := 5) nd rfl (Or.inl rfl) (em_call (h_power_of.fk hr) rfl (am_cons (em_call (h_minus_of.fk hr) rfl (am_cons (em_tup (am_cons em_int (am_cons em_int am_nil))) (am_cons (em_var (pv 3)) am_nil)) (aLen_cons (aLen_cons aLen_nil))) (am_cons (em_var (pv 1)) am_nil)) (aLen_cons (aLen_cons aLen_nil))))
    (ss_one (sm_append (pv 2) (em_call (h_times_of.fk hr) rfl (am_cons (em_tup (am_cons (em_var (pv 4)) (am_cons em_int am_nil))) (am_cons (em_call (h_minus_of.fk hr) rfl (am_cons (em_tup (am_cons em_int (am_cons em_int am_nil))) (am_cons (em_var (pv 5)) am_nil)) (aLen_cons (aLen_cons aLen_nil))) am_nil)) (aLen_cons (aLen_cons aLen_nil))) (fun to te ho he => pe_bm PySem.F.plainAttrs_list PySem.F.slot_list_append PySem.F.type_list_append mt_append ho (pa_cons he pa_nil))))))
    (ss_one (sm_ret (em_call (h_total_of.fk hr) rfl (am_cons (em_var (pv 2)) am_nil) (aLen_cons aLen_nil))))))))

/-! _law_right -/
abbrev s__law_right : Stmt := topAt prog 65
abbrev N__law_right : List Str := ["pot", "kinds", "whole", "shares", "numbers", "draws", "first", "second", "one", "other", "both", "early", "late", "at", "to", "rows", "place", "half", "told", "weight", "many", "lap", "number", "share", "mine", "its", "row"]
def b__law_right : MS :=
  (sSeq (sSet 1 (mCallL 0 f__law_kinds (lLend 0 (lCons (mC (.int 4)) (lCons (mCallL 0 f__law_of (lLend 0 (lCons (mLst (aCons (mC (.int 2)) (aCons (mC (.int 15)) aNil))) lNil))) lNil)))))
    (sSeq (sSet 2 (mB dSum (aCons (mLc (iSeq (mVar 1)) (gTM (gsCons (gN 19) (gsCons (gN 20) gsNil))) tYesM (m2 dMul (mVar 19) (mVar 20)) [19, 20]) aNil)))
    (sSeq (sIf (tst (m2 dGt (mVar 2) (mC (.int 1000)))) (sSeq (sSet 1 (mB dTuple (aCons (mLc (iSeq (mB dSorted (aCons (mCallL 0 f__law_some (lLend 0 (lCons (mLst (aCons (mC (.int 1)) (aCons (mC (.int 2)) (aCons (mC (.int 3)) (aCons (mC (.int 5)) (aCons (mC (.int 8)) (aCons (mC (.int 13)) (aCons (mC (.int 40)) aNil)))))))) (lCons (m2 dAdd (mC (.int 1)) (mCallL 0 f__law_take (lLend 0 (lCons (mC (.int 4)) lNil)))) lNil)))) aNil))) (gN 19) tYesM (mTup (aCons (mVar 19) (aCons (m2 dAdd (mC (.int 1)) (mB dInt (aCons (mCallL 0 f__law_take (lLend 0 (lCons (mC (.int 5)) lNil))) aNil))) aNil))) [19]) aNil)))
    (sSet 2 (mB dSum (aCons (mLc (iSeq (mVar 1)) (gTM (gsCons (gN 19) (gsCons (gN 20) gsNil))) tYesM (m2 dMul (mVar 19) (mVar 20)) [19, 20]) aNil)))) sNext)
    (sSeq (sPar [3, 4] (dCons (mB dTuple (aCons (mLc (iSeq (mVar 1)) (gTM (gsCons (gN 19) (gsCons (gN 20) gsNil))) tYesM (mCall f__law_ratio (aCons (mVar 19) (aCons (mVar 2) aNil))) [19, 20]) aNil)) (dCons (mB dTuple (aCons (mLc (iSeq (mVar 1)) (gTM (gsCons (gN 19) (gsCons (gN 20) gsNil))) tYesM (mTup (aCons (mVar 20) (aCons (mC (.int 1)) aNil))) [19, 20]) aNil)) dNil)))
    (sSeq (sAsg (mLc (iRng (aCons (mC (.int 3)) aNil)) (gN 21) tYesM (m2 dAdd (mC (.int 1)) (mB dInt (aCons (mCallL 0 f__law_take (lLend 0 (lCons (mCallL 0 f__law_of (lLend 0 (lCons (mLst (aCons (mC (.int 4)) (aCons (mC (.int 30)) aNil))) lNil))) lNil))) aNil))) [21]) (gTM (gsCons (gN 5) (gsCons (gN 6) (gsCons (gN 7) gsNil)))))
    (sSeq (sPar [8, 9] (dCons (mCall f_new_by_kinds (aCons (mVar 3) (aCons (mVar 4) (aCons (mVar 5) (aCons (mVar 6) aNil))))) (dCons (mCall f_new_by_kinds (aCons (mVar 3) (aCons (mVar 4) (aCons (m2 dAdd (mVar 5) (mVar 6)) (aCons (mVar 7) aNil))))) dNil)))
    (sSeq (sSet 10 (mCall f_new_by_kinds (aCons (mVar 3) (aCons (mVar 4) (aCons (mVar 5) (aCons (m2 dAdd (mVar 6) (mVar 7)) aNil))))))
    (sSeq (sIf (tOrm (tst (m2 dNe (mVar 10) (mCall f__law_plus (aCons (mVar 8) (aCons (mVar 9) aNil))))) (tst (m2 dNe (mVar 10) (mCall f__law_less (aCons (mCall f_mean_kinds (aCons (mVar 1) (aCons (m2 dAdd (m2 dAdd (mVar 5) (mVar 6)) (mVar 7)) aNil))) (aCons (mCall f_mean_kinds (aCons (mVar 1) (aCons (mVar 5) aNil))) aNil)))))) (sRet (mC (.bl false))) sNext)
    (sSeq (sPar [11, 12] (dCons (mCall f_new_by_kinds (aCons (mVar 3) (aCons (mVar 4) (aCons (mVar 5) (aCons (mVar 7) aNil))))) (dCons (mCall f_new_by_kinds (aCons (mVar 3) (aCons (mVar 4) (aCons (m2 dAdd (mVar 5) (mVar 7)) (aCons (mVar 6) aNil))))) dNil)))
    (sSeq (sIf (tOrm (tst (m2 dNe (mVar 10) (mCall f__law_plus (aCons (mVar 11) (aCons (mVar 12) aNil))))) (tOrm (tst (mCall f__law_below (aCons (mVar 8) (aCons (mVar 12) aNil)))) (tst (mCall f__law_below (aCons (mVar 11) (aCons (mVar 9) aNil)))))) (sRet (mC (.bl false))) sNext)
    (sSeq (sIf (tst (m2 dNe (mCall f_new_by_kinds (aCons (mVar 3) (aCons (mVar 4) (aCons (mVar 5) (aCons (mC (.int 1)) aNil))))) (mCall f_mean_unseen (aCons (mVar 1) (aCons (mVar 5) aNil))))) (sRet (mC (.bl false))) sNext)
    (sSeq (sIf (tst (m2 dNe (mCall f_mean_times (aCons (mVar 1) (aCons (m2 dAdd (mVar 5) (mC (.int 1))) (aCons (mC (.int 1)) aNil)))) (mCall f__law_times (aCons (mTup (aCons (m2 dAdd (mVar 5) (mC (.int 1))) (aCons (mC (.int 1)) aNil))) (aCons (mCall f_mean_unseen (aCons (mVar 1) (aCons (mVar 5) aNil))) aNil))))) (sRet (mC (.bl false))) sNext)
    (sSeq (sPar [13, 14] (dCons (mCallL 0 f__law_take (lLend 0 (lCons (mLenS 3) lNil))) (dCons (mCallL 0 f__law_take (lLend 0 (lCons (mLenS 3) lNil))) dNil)))
    (sSeq (sSet 15 (mLst aNil))
    (sSeq (sFor (iSeq (mTup (aCons (mVar 13) (aCons (mVar 14) aNil)))) (gN 16) (sApp 15 (mB dTuple (aCons (mLc (iEnM (aCons (mVar 3) aNil)) (gTM (gsCons (gN 22) (gsCons (gN 23) gsNil))) tYesM (mIf (tst (m2 dEq (mVar 22) (mVar 16))) (mCall f__law_ratio (aCons (mIxS 23 (mC (.int 1))) (aCons (mIxS 23 (mC (.int 0))) aNil))) (mTup (aCons (mC (.int 0)) (aCons (mC (.int 1)) aNil)))) [22, 23]) aNil))))
    (sSeq (sSet 17 (mB dTuple (aCons (mLc (iZipM (aCons (mIxS 15 (mC (.int 0))) (aCons (mIxS 15 (mC (.int 1))) aNil))) (gTM (gsCons (gN 24) (gsCons (gN 25) gsNil))) tYesM (mCall f__law_times (aCons (mTup (aCons (mC (.int 1)) (aCons (mC (.int 2)) aNil))) (aCons (mCall f__law_plus (aCons (mVar 24) (aCons (mVar 25) aNil))) aNil))) [24, 25]) aNil)))
    (sSeq (sSet 18 (mLc (iSeq (m2 dAdd (mVar 15) (mLst (aCons (mVar 17) aNil)))) (gN 26) tYesM (mCall f_new_by_kinds (aCons (mVar 3) (aCons (mVar 26) (aCons (mVar 5) (aCons (mVar 6) aNil))))) [26]))
    (sRet (m2 dEq (mIxS 18 (mC (.int 2))) (mCall f__law_times (aCons (mTup (aCons (mC (.int 1)) (aCons (mC (.int 2)) aNil))) (aCons (mCall f__law_plus (aCons (mIxS 18 (mC (.int 0))) (aCons (mIxS 18 (mC (.int 1))) aNil))) aNil))))))))))))))))))))))
def f__law_right : List D → Option (DV × D) := runFn (some 0) N__law_right.length b__law_right
theorem sc__law_right : FnScope N__law_right ["pot"] (defScope s__law_right) := ⟨rfl, rfl, rfl, by decide +kernel, rfl, by decide +kernel, by decide +kernel⟩
theorem d__law_right (T : Txt K mg) (S : Src K mg "_law_right" s__law_right) (h__law_take : Def P w K mg base "_law_take" 1 (some 0) 2 f__law_take) (h__law_some : Def P w K mg base "_law_some" 2 (some 0) 3 f__law_some) (h__law_kinds : Def P w K mg base "_law_kinds" 3 (some 0) 3 f__law_kinds) (h_new_by_kinds : Def P w K mg base "new_by_kinds" 6 none 4 f_new_by_kinds) (h__law_of : Def P w K mg base "_law_of" 2 (some 0) 2 f__law_of) (h__law_below : Def P w K mg base "_law_below" 1 none 2 f__law_below) (h_mean_unseen : Def P w K mg base "mean_unseen" 5 none 2 f_mean_unseen) (h_mean_times : Def P w K mg base "mean_times" 5 none 3 f_mean_times) (h__law_ratio : Def P w K mg base "_law_ratio" 2 none 2 f__law_ratio) (h__law_times : Def P w K mg base "_law_times" 3 none 2 f__law_times) (h__law_plus : Def P w K mg base "_law_plus" 3 none 2 f__law_plus) (h__law_less : Def P w K mg base "_law_less" 4 none 2 f__law_less) (h_mean_kinds : Def P w K mg base "mean_kinds" 5 none 2 f_mean_kinds) : Def P w K mg base "_law_right" 7 (some 0) 1 f__law_right :=
  S.def_ (io := (some 0)) (N := N__law_right) (m := b__law_right) sc__law_right rfl (fun _ _ _ _ _ _ us hl => match us, hl with | [_], _ => rfl) fun f cdv A outer s H E hr => by
    have nd := sc__law_right.nd
    exact (ss_cons (sm_set (i := 1) nd rfl (Or.inl rfl) (em_callL (h__law_kinds.fk hr) rfl (al_lend (pv 0) (al_cons em_int (al_cons (em_callL (h__law_of.fk hr) rfl (al_lend (pv 0) (al_cons (em_lst (am_cons em_int (am_cons em_int am_nil))) al_nil)) (lLen_lend (lLen_cons lLen_nil))) al_nil))) (lLen_lend (lLen_cons (lLen_cons lLen_nil)))))
    (ss_cons (sm_set (i := 2) nd rfl (Or.inr rfl) (em_callB (cr_sum rfl) cs_sum rfl T.b_sum bt_sum (am_cons (em_lc (own := [("weight", 19), ("many", 20)]) (by decide) rfl nd (im_seq (em_var (pv 1))) (blkOk_by (N := N__law_right) (sc := defScope s__law_right) (own := [("weight", 19), ("many", 20)]) (by decide +kernel)) (fun _ _ _ _ _ => (gm_tupM rfl (gs_cons (gm_name (i := 19) nd rfl (Or.inl rfl)) (gs_cons (gm_name (i := 20) nd rfl (Or.inl rfl)) gs_nil)) (gsLen_cons (gsLen_cons gsLen_nil)))) (fun _ _ _ _ _ => tm_nil) (fun _ _ _ _ _ => (em_op op_mulA os_mul (em_var (pv 19)) (em_var (pv 20))))) am_nil)))
    (ss_cons (sm_if (et_cmp op_gt os_gt (em_var (pv 2)) em_int (nomark _)) (ss_cons (sm_set (i := 1) nd rfl (Or.inl rfl) (em_callTy call_tuple_of cs_tuple rfl T.b_tuple bt_tuple (am_cons (em_lc (own := [("weight", 19)]) (by decide) rfl nd (im_seq (em_callB cr_sortedI cs_sorted rfl T.b_sorted bt_sorted (am_cons (em_callL (h__law_some.fk hr) rfl (al_lend (pv 0) (al_cons (em_lst (am_cons em_int (am_cons em_int (am_cons em_int (am_cons em_int (am_cons em_int (am_cons em_int (am_cons em_int am_nil)))))))) (al_cons (em_op op_addA os_add em_int (em_callL (h__law_take.fk hr) rfl (al_lend (pv 0) (al_cons em_int al_nil)) (lLen_lend (lLen_cons lLen_nil)))) al_nil))) (lLen_lend (lLen_cons (lLen_cons lLen_nil)))) am_nil))) (blkOk_by (N := N__law_right) (sc := defScope s__law_right) (own := [("weight", 19)]) (by decide +kernel)) (fun _ _ _ _ _ => (gm_name (i := 19) nd rfl (Or.inl rfl))) (fun _ _ _ _ _ => tm_nil) (fun _ _ _ _ _ => (em_tup (am_cons (em_var (pv 19)) (am_cons (em_op op_addA os_add em_int (em_callTy call_int1 cs_int rfl T.b_int bt_int (am_cons (em_callL (h__law_take.fk hr) rfl (al_lend (pv 0) (al_cons em_int al_nil)) (lLen_lend (lLen_cons lLen_nil))) am_nil))) am_nil))))) am_nil)))
    (ss_one (sm_set (i := 2) nd rfl (Or.inr rfl) (em_callB (cr_sum rfl) cs_sum rfl T.b_sum bt_sum (am_cons (em_lc (own := [("weight", 19), ("many", 20)]) (by decide) rfl nd (im_seq (em_var (pv 1))) (blkOk_by (N := N__law_right) (sc := defScope s__law_right) (own := [("weight", 19), ("many", 20)]) (by decide +kernel)) (fun _ _ _ _ _ => (gm_tupM rfl (gs_cons (gm_name (i := 19) nd rfl (Or.inl rfl)) (gs_cons (gm_name (i := 20) nd rfl (Or.inl rfl)) gs_nil)) (gsLen_cons (gsLen_cons gsLen_nil)))) (fun _ _ _ _ _ => tm_nil) (fun _ _ _ _ _ => (em_op op_mulA os_mul (em_var (pv 19)) (em_var (pv 20))))) am_nil))))) ss_nil)
    (ss_cons (sm_parT (is := [3, 4]) (ad_cons (em_callTy call_tuple_of cs_tuple rfl T.b_tuple bt_tuple (am_cons (em_lc (own := [("weight", 19), ("many", 20)]) (by decide) rfl nd (im_seq (em_var (pv 1))) (blkOk_by (N := N__law_right) (sc := defScope s__law_right) (own := [("weight", 19), ("many", 20)]) (by decide +kernel)) (fun _ _ _ _ _ => (gm_tupM rfl (gs_cons (gm_name (i := 19) nd rfl (Or.inl rfl)) (gs_cons (gm_name (i := 20) nd rfl (Or.inl rfl)) gs_nil)) (gsLen_cons (gsLen_cons gsLen_nil)))) (fun _ _ _ _ _ => tm_nil) (fun _ _ _ _ _ => (em_call (h__law_ratio.fk hr) rfl (am_cons (em_var (pv 19)) (am_cons (em_var (pv 2)) am_nil)) (aLen_cons (aLen_cons aLen_nil))))) am_nil)) (ad_cons (em_callTy call_tuple_of cs_tuple rfl T.b_tuple bt_tuple (am_cons (em_lc (own := [("weight", 19), ("many", 20)]) (by decide) rfl nd (im_seq (em_var (pv 1))) (blkOk_by (N := N__law_right) (sc := defScope s__law_right) (own := [("weight", 19), ("many", 20)]) (by decide +kernel)) (fun _ _ _ _ _ => (gm_tupM rfl (gs_cons (gm_name (i := 19) nd rfl (Or.inl rfl)) (gs_cons (gm_name (i := 20) nd rfl (Or.inl rfl)) gs_nil)) (gsLen_cons (gsLen_cons gsLen_nil)))) (fun _ _ _ _ _ => tm_nil) (fun _ _ _ _ _ => (em_tup (am_cons (em_var (pv 20)) (am_cons em_int am_nil))))) am_nil)) ad_nil)) (pg_tup rfl (pgs_cons (pg_name (i := 3) nd rfl (Or.inr rfl)) (pgs_cons (pg_name (i := 4) nd rfl (Or.inl rfl)) pgs_nil))))
    (ss_cons (sm_asg (em_lc (own := [("lap", 21)]) (by decide) rfl nd (im_range1 rfl T.b_range (am_cons em_int am_nil) (aLen_cons aLen_nil)) (blkOk_by (N := N__law_right) (sc := defScope s__law_right) (own := [("lap", 21)]) (by decide +kernel)) (fun _ _ _ _ _ => (gm_name (i := 21) nd rfl (Or.inl rfl))) (fun _ _ _ _ _ => tm_nil) (fun _ _ _ _ _ => (em_op op_addA os_add em_int (em_callTy call_int1 cs_int rfl T.b_int bt_int (am_cons (em_callL (h__law_take.fk hr) rfl (al_lend (pv 0) (al_cons (em_callL (h__law_of.fk hr) rfl (al_lend (pv 0) (al_cons (em_lst (am_cons em_int (am_cons em_int am_nil))) al_nil)) (lLen_lend (lLen_cons lLen_nil))) al_nil)) (lLen_lend (lLen_cons lLen_nil))) am_nil))))) (gm_tupM rfl (gs_cons (gm_name (i := 5) nd rfl (Or.inr rfl)) (gs_cons (gm_name (i := 6) nd rfl (Or.inr rfl)) (gs_cons (gm_name (i := 7) nd rfl (Or.inl rfl)) gs_nil))) (gsLen_cons (gsLen_cons (gsLen_cons gsLen_nil)))))
    (ss_cons (sm_par (i := 8) (j := 9) rfl nd rfl rfl (by decide) rfl rfl (ad_cons (em_call (h_new_by_kinds.fk hr) rfl (am_cons (em_var (pv 3)) (am_cons (em_var (pv 4)) (am_cons (em_var (pv 5)) (am_cons (em_var (pv 6)) am_nil)))) (aLen_cons (aLen_cons (aLen_cons (aLen_cons aLen_nil))))) (ad_cons (em_call (h_new_by_kinds.fk hr) rfl (am_cons (em_var (pv 3)) (am_cons (em_var (pv 4)) (am_cons (em_op op_addA os_add (em_var (pv 5)) (em_var (pv 6))) (am_cons (em_var (pv 7)) am_nil)))) (aLen_cons (aLen_cons (aLen_cons (aLen_cons aLen_nil))))) ad_nil)) (by rfl))
    (ss_cons (sm_set (i := 10) nd rfl (Or.inl rfl) (em_call (h_new_by_kinds.fk hr) rfl (am_cons (em_var (pv 3)) (am_cons (em_var (pv 4)) (am_cons (em_var (pv 5)) (am_cons (em_op op_addA os_add (em_var (pv 6)) (em_var (pv 7))) am_nil)))) (aLen_cons (aLen_cons (aLen_cons (aLen_cons aLen_nil))))))
    (ss_cons (sm_if (et_w (ew_or (et_cmp (op_neD hr.units) os_ne (em_var (pv 10)) (em_call (h__law_plus.fk hr) rfl (am_cons (em_var (pv 8)) (am_cons (em_var (pv 9)) am_nil)) (aLen_cons (aLen_cons aLen_nil))) (nomark _)) (ew_or1 (et_cmp (op_neD hr.units) os_ne (em_var (pv 10)) (em_call (h__law_less.fk hr) rfl (am_cons (em_call (h_mean_kinds.fk hr) rfl (am_cons (em_var (pv 1)) (am_cons (em_op op_addA os_add (em_op op_addA os_add (em_var (pv 5)) (em_var (pv 6))) (em_var (pv 7))) am_nil)) (aLen_cons (aLen_cons aLen_nil))) (am_cons (em_call (h_mean_kinds.fk hr) rfl (am_cons (em_var (pv 1)) (am_cons (em_var (pv 5)) am_nil)) (aLen_cons (aLen_cons aLen_nil))) am_nil)) (aLen_cons (aLen_cons aLen_nil))) (nomark _))))) (ss_one (sm_ret em_bl)) ss_nil)
    (ss_cons (sm_par (i := 11) (j := 12) rfl nd rfl rfl (by decide) rfl rfl (ad_cons (em_call (h_new_by_kinds.fk hr) rfl (am_cons (em_var (pv 3)) (am_cons (em_var (pv 4)) (am_cons (em_var (pv 5)) (am_cons (em_var (pv 7)) am_nil)))) (aLen_cons (aLen_cons (aLen_cons (aLen_cons aLen_nil))))) (ad_cons (em_call (h_new_by_kinds.fk hr) rfl (am_cons (em_var (pv 3)) (am_cons (em_var (pv 4)) (am_cons (em_op op_addA os_add (em_var (pv 5)) (em_var (pv 7))) (am_cons (em_var (pv 6)) am_nil)))) (aLen_cons (aLen_cons (aLen_cons (aLen_cons aLen_nil))))) ad_nil)) (by rfl))
    (ss_cons (sm_if (et_w (ew_or (et_cmp (op_neD hr.units) os_ne (em_var (pv 10)) (em_call (h__law_plus.fk hr) rfl (am_cons (em_var (pv 11)) (am_cons (em_var (pv 12)) am_nil)) (aLen_cons (aLen_cons aLen_nil))) (nomark _)) (ew_or (et_val (em_call (h__law_below.fk hr) rfl (am_cons (em_var (pv 8)) (am_cons (em_var (pv 12)) am_nil)) (aLen_cons (aLen_cons aLen_nil)))) (ew_or1 (et_val (em_call (h__law_below.fk hr) rfl (am_cons (em_var (pv 11)) (am_cons (em_var (pv 9)) am_nil)) (aLen_cons (aLen_cons aLen_nil)))))))) (ss_one (sm_ret em_bl)) ss_nil)
    (ss_cons (sm_if (et_cmp (op_neD hr.units) os_ne (em_call (h_new_by_kinds.fk hr) rfl (am_cons (em_var (pv 3)) (am_cons (em_var (pv 4)) (am_cons (em_var (pv 5)) (am_cons em_int am_nil)))) (aLen_cons (aLen_cons (aLen_cons (aLen_cons aLen_nil))))) (em_call (h_mean_unseen.fk hr) rfl (am_cons (em_var (pv 1)) (am_cons (em_var (pv 5)) am_nil)) (aLen_cons (aLen_cons aLen_nil))) (nomark _)) (ss_one (sm_ret em_bl)) ss_nil)
    (ss_cons (sm_if (et_cmp (op_neD hr.units) os_ne (em_call (h_mean_times.fk hr) rfl (am_cons (em_var (pv 1)) (am_cons (em_op op_addA os_add (em_var (pv 5)) em_int) (am_cons em_int am_nil))) (aLen_cons (aLen_cons (aLen_cons aLen_nil)))) (em_call (h__law_times.fk hr) rfl (am_cons (em_tup (am_cons (em_op op_addA os_add (em_var (pv 5)) em_int) (am_cons em_int am_nil))) (am_cons (em_call (h_mean_unseen.fk hr) rfl (am_cons (em_var (pv 1)) (am_cons (em_var (pv 5)) am_nil)) (aLen_cons (aLen_cons aLen_nil))) am_nil)) (aLen_cons (aLen_cons aLen_nil))) (nomark _)) (ss_one (sm_ret em_bl)) ss_nil)
    (ss_cons (sm_par (i := 13) (j := 14) rfl nd rfl rfl (by decide) rfl rfl (ad_cons (em_callL (h__law_take.fk hr) rfl (al_lend (pv 0) (al_cons (em_lenS rfl T.b_len bt_len (pv 3)) al_nil)) (lLen_lend (lLen_cons lLen_nil))) (ad_cons (em_callL (h__law_take.fk hr) rfl (al_lend (pv 0) (al_cons (em_lenS rfl T.b_len bt_len (pv 3)) al_nil)) (lLen_lend (lLen_cons lLen_nil))) ad_nil)) (by rfl))
    (ss_cons (sm_set (i := 15) nd rfl (Or.inl rfl) (em_lst am_nil))
    (ss_cons (sm_for PassesOwn.never rfl (im_seq (em_tup (am_cons (em_var (pv 13)) (am_cons (em_var (pv 14)) am_nil)))) (gm_name (i := 16) nd rfl (Or.inr rfl)) (ss_one (sm_append (pv 15) (em_callTy call_tuple_of cs_tuple rfl T.b_tuple bt_tuple (am_cons (em_lc (own := [("number", 22), ("share", 23)]) (by decide) rfl nd (im_enM rfl T.b_enumerate (am_cons (em_var (pv 3)) am_nil)) (blkOk_by (N := N__law_right) (sc := defScope s__law_right) (own := [("number", 22), ("share", 23)]) (by decide +kernel)) (fun _ _ _ _ _ => (gm_tupM rfl (gs_cons (gm_name (i := 22) nd rfl (Or.inl rfl)) (gs_cons (gm_name (i := 23) nd rfl (Or.inl rfl)) gs_nil)) (gsLen_cons (gsLen_cons gsLen_nil)))) (fun _ _ _ _ _ => tm_nil) (fun _ _ _ _ _ => (em_if (et_cmp (op_eqD hr.units) os_eq (em_var (pv 22)) (em_var (pv 16)) (nomark _)) (em_call (h__law_ratio.fk hr) rfl (am_cons (em_ixS (pv 23) em_int) (am_cons (em_ixS (pv 23) em_int) am_nil)) (aLen_cons (aLen_cons aLen_nil))) (em_tup (am_cons em_int (am_cons em_int am_nil)))))) am_nil)) (fun to te ho he => pe_bm PySem.F.plainAttrs_list PySem.F.slot_list_append PySem.F.type_list_append mt_append ho (pa_cons he pa_nil)))))
    (ss_cons (sm_set (i := 17) nd rfl (Or.inl rfl) (em_callTy call_tuple_of cs_tuple rfl T.b_tuple bt_tuple (am_cons (em_lc (own := [("mine", 24), ("its", 25)]) (by decide) rfl nd (im_zipM rfl T.b_zip (am_cons (em_ixS (pv 15) em_int) (am_cons (em_ixS (pv 15) em_int) am_nil))) (blkOk_by (N := N__law_right) (sc := defScope s__law_right) (own := [("mine", 24), ("its", 25)]) (by decide +kernel)) (fun _ _ _ _ _ => (gm_tupM rfl (gs_cons (gm_name (i := 24) nd rfl (Or.inl rfl)) (gs_cons (gm_name (i := 25) nd rfl (Or.inl rfl)) gs_nil)) (gsLen_cons (gsLen_cons gsLen_nil)))) (fun _ _ _ _ _ => tm_nil) (fun _ _ _ _ _ => (em_call (h__law_times.fk hr) rfl (am_cons (em_tup (am_cons em_int (am_cons em_int am_nil))) (am_cons (em_call (h__law_plus.fk hr) rfl (am_cons (em_var (pv 24)) (am_cons (em_var (pv 25)) am_nil)) (aLen_cons (aLen_cons aLen_nil))) am_nil)) (aLen_cons (aLen_cons aLen_nil))))) am_nil)))
    (ss_cons (sm_setLc (i := 18) (own := [("row", 26)]) (by decide) rfl nd rfl rfl (sw_true rfl rfl rfl (by decide +kernel)) (im_seq (em_op op_addA os_add (em_var (pv 15)) (em_lst (am_cons (em_var (pv 17)) am_nil)))) (blkOk_by (N := N__law_right) (sc := defScope s__law_right) (own := [("row", 26)]) (by decide +kernel)) (fun _ _ _ _ _ => (gm_name (i := 26) nd rfl (Or.inl rfl))) (fun _ _ _ _ _ => tm_nil) (fun _ _ _ _ _ => (em_call (h_new_by_kinds.fk hr) rfl (am_cons (em_var (pv 3)) (am_cons (em_var (pv 26)) (am_cons (em_var (pv 5)) (am_cons (em_var (pv 6)) am_nil)))) (aLen_cons (aLen_cons (aLen_cons (aLen_cons aLen_nil)))))))
    (ss_one (sm_ret (em_cmp (op_eqD hr.units) os_eq (em_ixS (pv 18) em_int) (em_call (h__law_times.fk hr) rfl (am_cons (em_tup (am_cons em_int (am_cons em_int am_nil))) (am_cons (em_call (h__law_plus.fk hr) rfl (am_cons (em_ixS (pv 18) em_int) (am_cons (em_ixS (pv 18) em_int) am_nil)) (aLen_cons (aLen_cons aLen_nil))) am_nil)) (aLen_cons (aLen_cons aLen_nil))) (nomark _)))))))))))))))))))))

/-! law -/
abbrev s_law : Stmt := topAt prog 66
abbrev N_law : List Str := ["script", "place", "pot"]
def b_law : MS :=
  (sSeq (sFor (iSeq (mCall f__law_cells (aCons (mVar 0) (aCons (mC (.int 2)) aNil)))) (gN 1) (sSeq (sSet 2 (mCall f__law_pot (aCons (mVar 0) (aCons (mVar 1) aNil))))
    (sIf (tNotm (tst (mCallL 0 f__law_right (lLend 2 lNil)))) (sRet (mC (.bl false))) sNext)))
    (sRet (mC (.bl true))))
def f_law : List D → Option (DV × D) := runFn none N_law.length b_law
theorem sc_law : FnScope N_law ["script"] (defScope s_law) := ⟨rfl, rfl, rfl, by decide +kernel, rfl, by decide +kernel, by decide +kernel⟩
theorem d_law (T : Txt K mg) (S : Src K mg "law" s_law) (h__law_cells : Def P w K mg base "_law_cells" 1 none 2 f__law_cells) (h__law_pot : Def P w K mg base "_law_pot" 1 none 2 f__law_pot) (h__law_right : Def P w K mg base "_law_right" 7 (some 0) 1 f__law_right) : Def P w K mg base "law" 8 none 1 f_law :=
  S.def_ (io := none) (N := N_law) (m := b_law) sc_law rfl (fun _ _ _ _ _ _ us hl => match us, hl with | [_], _ => rfl) fun f cdv A outer s H E hr => by
    have nd := sc_law.nd
    exact (ss_cons (sm_for PassesOwn.never rfl (im_seq (em_call (h__law_cells.fk hr) rfl (am_cons (em_var (pv 0)) (am_cons em_int am_nil)) (aLen_cons (aLen_cons aLen_nil)))) (gm_name (i := 1) nd rfl (Or.inl rfl)) (ss_cons (sm_set (i := 2) nd rfl (Or.inl rfl) (em_call (h__law_pot.fk hr) rfl (am_cons (em_var (pv 0)) (am_cons (em_var (pv 1)) am_nil)) (aLen_cons (aLen_cons aLen_nil))))
    (ss_one (sm_if (et_not (et_val (em_callL (h__law_right.fk hr) rfl (al_lend (pv 2) al_nil) (lLen_lend lLen_nil)))) (ss_one (sm_ret em_bl)) ss_nil))))
    (ss_one (sm_ret em_bl)))

theorem fn_law (T : Txt K mg) {fd : FuncData} (F : FunD K "law" "law" (defArgs s_law) (defBody s_law) (defScope s_law) [] [] (ga K "law") fd) (h__law_cells : Def P w K mg base "_law_cells" 1 none 2 f__law_cells) (h__law_pot : Def P w K mg base "_law_pot" 1 none 2 f__law_pot) (h__law_right : Def P w K mg base "_law_right" 7 (some 0) 1 f__law_right) : FnOk P w K mg base CX0 8 (ga K "law") fd ["script"] (spF K none 1 f_law) :=
  fn_ok (io := none) (N := N_law) (m := b_law) F sc_law rfl fun cdv A outer s H E hr => by
    have nd := sc_law.nd
    exact (ss_cons (sm_for PassesOwn.never rfl (im_seq (em_call (h__law_cells.fk hr) rfl (am_cons (em_var (pv 0)) (am_cons em_int am_nil)) (aLen_cons (aLen_cons aLen_nil)))) (gm_name (i := 1) nd rfl (Or.inl rfl)) (ss_cons (sm_set (i := 2) nd rfl (Or.inl rfl) (em_call (h__law_pot.fk hr) rfl (am_cons (em_var (pv 0)) (am_cons (em_var (pv 1)) am_nil)) (aLen_cons (aLen_cons aLen_nil))))
    (ss_one (sm_if (et_not (et_val (em_callL (h__law_right.fk hr) rfl (al_lend (pv 2) al_nil) (lLen_lend lLen_nil)))) (ss_one (sm_ret em_bl)) ss_nil))))
    (ss_one (sm_ret em_bl)))
end
/-! the head -/
def fn : List DefD := [datum "_law_cells" s__law_cells, datum "_law_pot" s__law_pot, datum "_law_take" s__law_take, datum "_law_some" s__law_some, datum "_law_kinds" s__law_kinds, datum "is_whole" s_is_whole, datum "is_integer" s_is_integer, datum "check_draws" s_check_draws, datum "common_of" s_common_of, datum "ratio_of" s_ratio_of, datum "plus_of" s_plus_of, datum "total_of" s_total_of, datum "times_of" s_times_of, datum "summed" s_summed, datum "is_tuple" s_is_tuple, datum "is_below" s_is_below, datum "is_size" s_is_size, datum "is_fraction" s_is_fraction, datum "is_share" s_is_share, datum "are_shares" s_are_shares, datum "minus_of" s_minus_of, datum "whole_power" s_whole_power, datum "power_of" s_power_of, datum "new_of_share" s_new_of_share, datum "new_by_kinds" s_new_by_kinds, datum "_law_of" s__law_of, datum "_law_below" s__law_below, datum "is_rising" s_is_rising, datum "is_kinds" s_is_kinds, datum "check_kinds" s_check_kinds, datum "whole_of" s_whole_of, datum "shares_of" s_shares_of, datum "mean_unseen" s_mean_unseen, datum "falling_of" s_falling_of, datum "mean_times" s_mean_times, datum "_law_gcd" s__law_gcd, datum "_law_ratio" s__law_ratio, datum "_law_times" s__law_times, datum "_law_plus" s__law_plus, datum "_law_less" s__law_less, datum "mean_kinds" s_mean_kinds, datum "_law_right" s__law_right, datum "law" s_law]
def fa : List Fa := [.glo "_law_cells", .glo "_law_pot", .glo "_law_take", .glo "_law_some", .glo "_law_kinds", .glo "is_whole", .glo "is_integer", .glo "check_draws", .glo "common_of", .glo "ratio_of", .glo "plus_of", .glo "total_of", .glo "times_of", .glo "summed", .glo "is_tuple", .glo "is_below", .glo "is_size", .glo "is_fraction", .glo "is_share", .glo "are_shares", .glo "minus_of", .glo "whole_power", .glo "power_of", .glo "new_of_share", .glo "new_by_kinds", .glo "_law_of", .glo "_law_below", .glo "is_rising", .glo "is_kinds", .glo "check_kinds", .glo "whole_of", .glo "shares_of", .glo "mean_unseen", .glo "falling_of", .glo "mean_times", .glo "_law_gcd", .glo "_law_ratio", .glo "_law_times", .glo "_law_plus", .glo "_law_less", .glo "mean_kinds", .glo "_law_right", .glo "law", .free "abs", .free "all", .free "bool", .free "enumerate", .free "int", .free "isinstance", .free "len", .free "list", .free "max", .free "min", .free "range", .free "sorted", .free "sum", .free "tuple", .free "zip"]
def cs : List (Str × D) := [("MOST_DRAWS", (.int 400)), ("MOST_KINDS", (.int 256)), ("MOST_LOW", (.int 1000)), ("MOST_MORE", (.int 400)), ("MOST_ROWS", (.int 256)), ("MOST_SHARES", (.int 12)), ("MOST_SIZE", (.int 10000000000000000000000000000000000000000)), ("MOST_WEIGHT", (.int 1000)), ("NOUGHT", (.tup [(.int 0), (.int 1)])), ("ONE_WHOLE", (.tup [(.int 1), (.int 1)])), ("PAIR_fractions", (.int 2)), ("PAIR_kinds", (.int 2))]
theorem lawFn {w : World} {K : PySem.W.Frag} {mg : Str → Option Value} {h : Heap} {fa : Addr} (X : K.In h) (G : h.Ns mainGlobals mg) (hfa : mg ("law" : Str) = some (.ref fa)) (c : SaysC Wk64.fa cs fn K) :
    ∃ fd : FuncData, (∀ (s : Shared) (v : Value), BindsTo s fd ⟨[v], []⟩ [("script", v)]) ∧ ∀ base : Heap, K.In base → base.Ns mainGlobals mg → FnOk prog w K mg base CX0 8 fa fd ["script"] (spF K none 1 f_law) := by
  obtain ⟨fd, F⟩ := c.def_ 42 (d := datum "law" s_law) rfl
  have e := hfa.symm.trans (glo_ok X G (c.fact 42 (f := .glo "law") rfl))
  cases e
  have b := FunD.bindsA (ps := ["script"]) F fun _ _ _ _ _ _ us hl => match us, hl with | [_], _ => rfl
  refine ⟨fd, fun s v => b s [v] rfl, fun base _ _ => ?_⟩
  have T : Txt K mg := ⟨free_ok X G (c.fact 43 (f := .free "abs") rfl), free_ok X G (c.fact 44 (f := .free "all") rfl), free_ok X G (c.fact 45 (f := .free "bool") rfl), free_ok X G (c.fact 46 (f := .free "enumerate") rfl), free_ok X G (c.fact 47 (f := .free "int") rfl), free_ok X G (c.fact 48 (f := .free "isinstance") rfl), free_ok X G (c.fact 49 (f := .free "len") rfl), free_ok X G (c.fact 50 (f := .free "list") rfl), free_ok X G (c.fact 51 (f := .free "max") rfl), free_ok X G (c.fact 52 (f := .free "min") rfl), free_ok X G (c.fact 53 (f := .free "range") rfl), free_ok X G (c.fact 54 (f := .free "sorted") rfl), free_ok X G (c.fact 55 (f := .free "sum") rfl), free_ok X G (c.fact 56 (f := .free "tuple") rfl), free_ok X G (c.fact 57 (f := .free "zip") rfl), conB_ok X G (c.con 0 (f := ("MOST_DRAWS", (.int 400))) rfl), conB_ok X G (c.con 1 (f := ("MOST_KINDS", (.int 256))) rfl), conB_ok X G (c.con 2 (f := ("MOST_LOW", (.int 1000))) rfl), conB_ok X G (c.con 3 (f := ("MOST_MORE", (.int 400))) rfl), conB_ok X G (c.con 4 (f := ("MOST_ROWS", (.int 256))) rfl), conB_ok X G (c.con 5 (f := ("MOST_SHARES", (.int 12))) rfl), conB_ok X G (c.con 6 (f := ("MOST_SIZE", (.int 10000000000000000000000000000000000000000))) rfl), conB_ok X G (c.con 7 (f := ("MOST_WEIGHT", (.int 1000))) rfl), conB_ok X G (c.con 8 (f := ("NOUGHT", (.tup [(.int 0), (.int 1)]))) rfl), conB_ok X G (c.con 9 (f := ("ONE_WHOLE", (.tup [(.int 1), (.int 1)]))) rfl), conB_ok X G (c.con 10 (f := ("PAIR_fractions", (.int 2))) rfl), conB_ok X G (c.con 11 (f := ("PAIR_kinds", (.int 2))) rfl)⟩
  have h__law_cells : Def prog w K mg base "_law_cells" 1 none 2 f__law_cells := d__law_cells T ⟨c.def_ 0 (d := datum "_law_cells" s__law_cells) rfl, glo_ok X G (c.fact 0 (f := .glo "_law_cells") rfl)⟩ 
  have h__law_pot : Def prog w K mg base "_law_pot" 1 none 2 f__law_pot := d__law_pot T ⟨c.def_ 1 (d := datum "_law_pot" s__law_pot) rfl, glo_ok X G (c.fact 1 (f := .glo "_law_pot") rfl)⟩ 
  have h__law_take : Def prog w K mg base "_law_take" 1 (some 0) 2 f__law_take := d__law_take T ⟨c.def_ 2 (d := datum "_law_take" s__law_take) rfl, glo_ok X G (c.fact 2 (f := .glo "_law_take") rfl)⟩ 
  have h__law_some : Def prog w K mg base "_law_some" 2 (some 0) 3 f__law_some := d__law_some T ⟨c.def_ 3 (d := datum "_law_some" s__law_some) rfl, glo_ok X G (c.fact 3 (f := .glo "_law_some") rfl)⟩ h__law_take
  have h__law_kinds : Def prog w K mg base "_law_kinds" 3 (some 0) 3 f__law_kinds := d__law_kinds T ⟨c.def_ 4 (d := datum "_law_kinds" s__law_kinds) rfl, glo_ok X G (c.fact 4 (f := .glo "_law_kinds") rfl)⟩ h__law_take h__law_some
  have h_is_whole : Def prog w K mg base "is_whole" 1 none 1 f_is_whole := d_is_whole T ⟨c.def_ 5 (d := datum "is_whole" s_is_whole) rfl, glo_ok X G (c.fact 5 (f := .glo "is_whole") rfl)⟩ 
  have h_is_integer : Def prog w K mg base "is_integer" 2 none 3 f_is_integer := d_is_integer T ⟨c.def_ 6 (d := datum "is_integer" s_is_integer) rfl, glo_ok X G (c.fact 6 (f := .glo "is_integer") rfl)⟩ h_is_whole
  have h_check_draws : Def prog w K mg base "check_draws" 3 none 2 f_check_draws := d_check_draws T ⟨c.def_ 7 (d := datum "check_draws" s_check_draws) rfl, glo_ok X G (c.fact 7 (f := .glo "check_draws") rfl)⟩ h_is_integer
  have h_common_of : Def prog w K mg base "common_of" 1 none 2 f_common_of := d_common_of T ⟨c.def_ 8 (d := datum "common_of" s_common_of) rfl, glo_ok X G (c.fact 8 (f := .glo "common_of") rfl)⟩ 
  have h_ratio_of : Def prog w K mg base "ratio_of" 2 none 2 f_ratio_of := d_ratio_of T ⟨c.def_ 9 (d := datum "ratio_of" s_ratio_of) rfl, glo_ok X G (c.fact 9 (f := .glo "ratio_of") rfl)⟩ h_common_of
  have h_plus_of : Def prog w K mg base "plus_of" 3 none 2 f_plus_of := d_plus_of T ⟨c.def_ 10 (d := datum "plus_of" s_plus_of) rfl, glo_ok X G (c.fact 10 (f := .glo "plus_of") rfl)⟩ h_ratio_of
  have h_total_of : Def prog w K mg base "total_of" 4 none 1 f_total_of := d_total_of T ⟨c.def_ 11 (d := datum "total_of" s_total_of) rfl, glo_ok X G (c.fact 11 (f := .glo "total_of") rfl)⟩ h_plus_of
  have h_times_of : Def prog w K mg base "times_of" 3 none 2 f_times_of := d_times_of T ⟨c.def_ 12 (d := datum "times_of" s_times_of) rfl, glo_ok X G (c.fact 12 (f := .glo "times_of") rfl)⟩ h_ratio_of
  have h_summed : Def prog w K mg base "summed" 5 none 2 f_summed := d_summed T ⟨c.def_ 13 (d := datum "summed" s_summed) rfl, glo_ok X G (c.fact 13 (f := .glo "summed") rfl)⟩ h_total_of h_times_of
  have h_is_tuple : Def prog w K mg base "is_tuple" 1 none 3 f_is_tuple := d_is_tuple T ⟨c.def_ 14 (d := datum "is_tuple" s_is_tuple) rfl, glo_ok X G (c.fact 14 (f := .glo "is_tuple") rfl)⟩ 
  have h_is_below : Def prog w K mg base "is_below" 1 none 2 f_is_below := d_is_below T ⟨c.def_ 15 (d := datum "is_below" s_is_below) rfl, glo_ok X G (c.fact 15 (f := .glo "is_below") rfl)⟩ 
  have h_is_size : Def prog w K mg base "is_size" 2 none 1 f_is_size := d_is_size T ⟨c.def_ 16 (d := datum "is_size" s_is_size) rfl, glo_ok X G (c.fact 16 (f := .glo "is_size") rfl)⟩ h_is_whole
  have h_is_fraction : Def prog w K mg base "is_fraction" 3 none 1 f_is_fraction := d_is_fraction T ⟨c.def_ 17 (d := datum "is_fraction" s_is_fraction) rfl, glo_ok X G (c.fact 17 (f := .glo "is_fraction") rfl)⟩ h_common_of h_is_tuple h_is_size
  have h_is_share : Def prog w K mg base "is_share" 4 none 1 f_is_share := d_is_share T ⟨c.def_ 18 (d := datum "is_share" s_is_share) rfl, glo_ok X G (c.fact 18 (f := .glo "is_share") rfl)⟩ h_is_fraction
  have h_are_shares : Def prog w K mg base "are_shares" 5 none 1 f_are_shares := d_are_shares T ⟨c.def_ 19 (d := datum "are_shares" s_are_shares) rfl, glo_ok X G (c.fact 19 (f := .glo "are_shares") rfl)⟩ h_is_tuple h_is_below h_is_share
  have h_minus_of : Def prog w K mg base "minus_of" 3 none 2 f_minus_of := d_minus_of T ⟨c.def_ 20 (d := datum "minus_of" s_minus_of) rfl, glo_ok X G (c.fact 20 (f := .glo "minus_of") rfl)⟩ h_ratio_of
  have h_whole_power : Def prog w K mg base "whole_power" 1 none 2 f_whole_power := d_whole_power T ⟨c.def_ 21 (d := datum "whole_power" s_whole_power) rfl, glo_ok X G (c.fact 21 (f := .glo "whole_power") rfl)⟩ 
  have h_power_of : Def prog w K mg base "power_of" 3 none 2 f_power_of := d_power_of T ⟨c.def_ 22 (d := datum "power_of" s_power_of) rfl, glo_ok X G (c.fact 22 (f := .glo "power_of") rfl)⟩ h_ratio_of h_whole_power
  have h_new_of_share : Def prog w K mg base "new_of_share" 4 none 3 f_new_of_share := d_new_of_share T ⟨c.def_ 23 (d := datum "new_of_share" s_new_of_share) rfl, glo_ok X G (c.fact 23 (f := .glo "new_of_share") rfl)⟩ h_minus_of h_power_of
  have h_new_by_kinds : Def prog w K mg base "new_by_kinds" 6 none 4 f_new_by_kinds := d_new_by_kinds T ⟨c.def_ 24 (d := datum "new_by_kinds" s_new_by_kinds) rfl, glo_ok X G (c.fact 24 (f := .glo "new_by_kinds") rfl)⟩ h_check_draws h_summed h_is_tuple h_is_fraction h_are_shares h_new_of_share
  have h__law_of : Def prog w K mg base "_law_of" 2 (some 0) 2 f__law_of := d__law_of T ⟨c.def_ 25 (d := datum "_law_of" s__law_of) rfl, glo_ok X G (c.fact 25 (f := .glo "_law_of") rfl)⟩ h__law_take
  have h__law_below : Def prog w K mg base "_law_below" 1 none 2 f__law_below := d__law_below T ⟨c.def_ 26 (d := datum "_law_below" s__law_below) rfl, glo_ok X G (c.fact 26 (f := .glo "_law_below") rfl)⟩ 
  have h_is_rising : Def prog w K mg base "is_rising" 1 none 1 f_is_rising := d_is_rising T ⟨c.def_ 27 (d := datum "is_rising" s_is_rising) rfl, glo_ok X G (c.fact 27 (f := .glo "is_rising") rfl)⟩ 
  have h_is_kinds : Def prog w K mg base "is_kinds" 3 none 1 f_is_kinds := d_is_kinds T ⟨c.def_ 28 (d := datum "is_kinds" s_is_kinds) rfl, glo_ok X G (c.fact 28 (f := .glo "is_kinds") rfl)⟩ h_is_integer h_is_tuple h_is_rising
  have h_check_kinds : Def prog w K mg base "check_kinds" 4 none 1 f_check_kinds := d_check_kinds T ⟨c.def_ 29 (d := datum "check_kinds" s_check_kinds) rfl, glo_ok X G (c.fact 29 (f := .glo "check_kinds") rfl)⟩ h_is_kinds
  have h_whole_of : Def prog w K mg base "whole_of" 1 none 1 f_whole_of := d_whole_of T ⟨c.def_ 30 (d := datum "whole_of" s_whole_of) rfl, glo_ok X G (c.fact 30 (f := .glo "whole_of") rfl)⟩ 
  have h_shares_of : Def prog w K mg base "shares_of" 3 none 1 f_shares_of := d_shares_of T ⟨c.def_ 31 (d := datum "shares_of" s_shares_of) rfl, glo_ok X G (c.fact 31 (f := .glo "shares_of") rfl)⟩ h_ratio_of h_whole_of
  have h_mean_unseen : Def prog w K mg base "mean_unseen" 5 none 2 f_mean_unseen := d_mean_unseen T ⟨c.def_ 32 (d := datum "mean_unseen" s_mean_unseen) rfl, glo_ok X G (c.fact 32 (f := .glo "mean_unseen") rfl)⟩ h_check_draws h_total_of h_times_of h_minus_of h_power_of h_check_kinds h_shares_of
  have h_falling_of : Def prog w K mg base "falling_of" 1 none 2 f_falling_of := d_falling_of T ⟨c.def_ 33 (d := datum "falling_of" s_falling_of) rfl, glo_ok X G (c.fact 33 (f := .glo "falling_of") rfl)⟩ 
  have h_mean_times : Def prog w K mg base "mean_times" 5 none 3 f_mean_times := d_mean_times T ⟨c.def_ 34 (d := datum "mean_times" s_mean_times) rfl, glo_ok X G (c.fact 34 (f := .glo "mean_times") rfl)⟩ h_check_draws h_total_of h_times_of h_minus_of h_power_of h_check_kinds h_shares_of h_falling_of
  have h__law_gcd : Def prog w K mg base "_law_gcd" 1 none 2 f__law_gcd := d__law_gcd T ⟨c.def_ 35 (d := datum "_law_gcd" s__law_gcd) rfl, glo_ok X G (c.fact 35 (f := .glo "_law_gcd") rfl)⟩ 
  have h__law_ratio : Def prog w K mg base "_law_ratio" 2 none 2 f__law_ratio := d__law_ratio T ⟨c.def_ 36 (d := datum "_law_ratio" s__law_ratio) rfl, glo_ok X G (c.fact 36 (f := .glo "_law_ratio") rfl)⟩ h__law_gcd
  have h__law_times : Def prog w K mg base "_law_times" 3 none 2 f__law_times := d__law_times T ⟨c.def_ 37 (d := datum "_law_times" s__law_times) rfl, glo_ok X G (c.fact 37 (f := .glo "_law_times") rfl)⟩ h__law_ratio
  have h__law_plus : Def prog w K mg base "_law_plus" 3 none 2 f__law_plus := d__law_plus T ⟨c.def_ 38 (d := datum "_law_plus" s__law_plus) rfl, glo_ok X G (c.fact 38 (f := .glo "_law_plus") rfl)⟩ h__law_ratio
  have h__law_less : Def prog w K mg base "_law_less" 4 none 2 f__law_less := d__law_less T ⟨c.def_ 39 (d := datum "_law_less" s__law_less) rfl, glo_ok X G (c.fact 39 (f := .glo "_law_less") rfl)⟩ h__law_plus
  have h_mean_kinds : Def prog w K mg base "mean_kinds" 5 none 2 f_mean_kinds := d_mean_kinds T ⟨c.def_ 40 (d := datum "mean_kinds" s_mean_kinds) rfl, glo_ok X G (c.fact 40 (f := .glo "mean_kinds") rfl)⟩ h_check_draws h_total_of h_times_of h_minus_of h_power_of h_check_kinds h_shares_of
  have h__law_right : Def prog w K mg base "_law_right" 7 (some 0) 1 f__law_right := d__law_right T ⟨c.def_ 41 (d := datum "_law_right" s__law_right) rfl, glo_ok X G (c.fact 41 (f := .glo "_law_right") rfl)⟩ h__law_take h__law_some h__law_kinds h_new_by_kinds h__law_of h__law_below h_mean_unseen h_mean_times h__law_ratio h__law_times h__law_plus h__law_less h_mean_kinds
  exact fn_law T F h__law_cells h__law_pot h__law_right
end Wk64

set_option Elab.async false
set_option linter.all false
set_option maxRecDepth 100000
namespace Wk64
open PySem Cb
noncomputable section
theorem e_ratio_of : f_ratio_of = c_ratio_of := rfl
theorem e_is_integer : f_is_integer = c_is_integer := rfl
theorem e_is_tuple : f_is_tuple = c_is_tuple := rfl
theorem e_is_fraction : f_is_fraction = c_is_fraction := rfl
theorem e_is_share : f_is_share = c_is_share := rfl
theorem e_plus_of : f_plus_of = c_plus_of := rfl
theorem e_minus_of : f_minus_of = c_minus_of := rfl
theorem e_times_of : f_times_of = c_times_of := rfl
theorem e_power_of : f_power_of = c_power_of := rfl
theorem e_total_of : f_total_of = c_total_of := rfl
theorem e_summed : f_summed = c_summed := rfl
theorem e_check_draws : f_check_draws = c_check_draws := rfl
theorem e_falling_of : f_falling_of = c_falling_of := rfl
theorem e_is_below : f_is_below = c__law_below := rfl
theorem e__law_ratio : f__law_ratio = c__law_ratio := rfl
theorem e__law_plus : f__law_plus = c__law_plus := rfl
theorem e__law_times : f__law_times = c__law_times := rfl
theorem e__law_less : f__law_less = c__law_less := rfl
theorem e__law_below : f__law_below = c__law_below := rfl
theorem e__law_take : f__law_take = c__law_take 215987 7957 6911 := rfl
theorem e__law_of : f__law_of = c__law_of 215987 7957 6911 := rfl
theorem e__law_some : f__law_some = c__law_some 215987 7957 6911 := rfl
theorem e__law_pot : f__law_pot = c__law_pot 9445 20957 164959 23689 7365 := rfl
theorem e__law_cells : f__law_cells = c__law_cells := rfl
/-! ### kinds -/
def row (k : Nat × Nat) : D := .tup [.int k.1, .int k.2]
def dK (ks : List (Nat × Nat)) : D := .tup (ks.map row)
structure Ki (ks : List (Nat × Nat)) : Prop where
  ne : ks ≠ []
  len : ks.length ≤ 12
  w : ∀ k ∈ ks, 1 ≤ k.1 ∧ k.1 ≤ 1000
  m : ∀ k ∈ ks, 1 ≤ k.2 ∧ k.2 ≤ 256
  up : ks.Pairwise fun a b => a.1 < b.1
  all : (ks.map (·.2)).sum ≤ 256
theorem sum_cast : ∀ ns : List Nat, (ns.map fun n : Nat => (n : Int)).sum = ((ns.sum : Nat) : Int)
  | [] => rfl
  | n :: ns => by rw [List.map_cons, List.sum_cons, List.sum_cons, sum_cast ns]; omega
theorem rising_ok {ns : List Nat} (h : ns.Pairwise (· < ·)) (hl : ns.length ≤ 1000) : f_is_rising [.lst (ns.map fun n : Nat => D.int n)] = ok (.bl true) := by
  have lz : (zipD (ns.map fun n : Nat => D.int n) ((ns.map fun n : Nat => D.int n).drop 1)).length ≤ 16777216 := by
    rw [zipD_length, List.length_map]; omega
  have ez : zipD (ns.map fun n : Nat => D.int n) ((ns.map fun n : Nat => D.int n).drop 1) = (List.zip ns (ns.drop 1)).map fun p => .tup [.int p.1, .int p.2] := by
    rw [← List.map_drop, zipD_map]
  have lc : ∀ x0, lcL (gTM (gsCons (gN 1) (gsCons (gN 2) gsNil))) tYesM (m2 dLt (mVar 1) (mVar 2)) [1, 2] ((List.zip ns (ns.drop 1)).map fun p => D.tup [.int p.1, .int p.2]) [x0, none, none] = some ((List.zip ns (ns.drop 1)).map fun _ => .bl true, [x0, none, none]) := fun x0 =>
    lc_map fun p hp ds => by
      have := adj_mem h p hp
      have e : decide ((p.1 : Int) < (p.2 : Int)) = true := by simpa using this
      simp only [kSeq_1, kSeq_2, kSeq_3, kSeq_4, kSet_1, kNx_1, kPar_1, kd2_1, kd1_1, kIf_1, kIf_2, kRt_1, kEx_1, kVar_1, kVar_2, kMov_1, kMov_2, kfz_1, kfz_2, kc_1, k1_1, k2b_1, k2a_1, kt_1, kn_1, kAnd_1, kAnd_2, kOr_1, kOr_2, kmA_1, kmA_2, kmO_1, kmO_2, kmI_1, kmI_2, kh4_1, kh3_1, kh3_2, kh2_1, kh1_1, kcb_1, kca_1, kL5_1, kL4_1, kL3_1, kL2_1, kL1_1, kl2_1, kl1_1, kl3_1, kr_1, krs_1, krs_2, kput_1, kput_2, kpk_1, klst_1, klst_2, kbor_1, ka2_1, ka1_1, ktup_1, kls_1, kB_1, kx3_1, kx2_1, kx1_1, kx4_1, kis2_1, kis_1, kp_1, ks3_1, ks2_1, ks1_1, kF_1, kF2_1, kF2_2, kF2_3, kF2_4, kF1_1, kW2_1, kW2_2, kW2_3, kW2_4, kW_1, kW_2, kg_1, ksa_1, ki_1, ki_2, ki_3, kap2_1, kap_1, ksx4_1, ksx3_1, ksx2_1, ksx1_1, kat_1, ko_1, kfin_1, kfin_2, klc2_1, klc_1, kC4_1, kC3_1, kC2_1, kC2_2, kC1_1, ksum_1, kst2_1, kst_1, kst_2, kRev_1, kRev_2, krg_1, krg2_1, krg1_1, kav_1, kav_2, krc_1, runFn_a, out_n, out_s, ini_a, iniL_n, iniL_0, iniL_e, sSeq_a, sSet_a, sPar_a, dNil_a, dCons_a, setAll_n, setAll_c, sIf_a, sRet_a, sExpr_a, sNext_a, sBreak_a, sCont_a, mC_a, mVar_a, mMove_a, fz_a, m1_a, m2_a, tst_a, tNot_a, tAnd_a, tOr_a, tYes_a, mAnd_a, mOr_a, mIf_a, mChain_a, mCall_a, mCallL_a, lNil_a, lCons_a, lLend_a, res_e, res_v, res_s, slot_0, slot_s, put_a, peek_a, lstAt_a, get_v, get_o, get_b, aNil_a, aCons_a, aStar_a, mTup_a, mLst_a, mB_a, mIxS_a, mLenS_a, mIsi_a, pNone_a, pSome_a, mSl_a, sFor_a, forL_n, forL_c, whN_s, gN_a, gT_a, gsC_a, gsN_a, sAsg_a, iSeq_a, sApp_a, sSetIx_a, mLc_a, lcL_n, lcL_c, wipe_n, wipe_c, rest_n, rest_c, allVal_n, allVal_c, mRev_a, mLRg_a, mLRg2_a, lt_int, le_int, gt_int, ge_int, sub_int, add_int, mod_int, fdiv_int, pow_int', mul_ok, eq_int, ne_int, neg_int, not_bl, abs_int, int_int, int_bl, max_2, min_2, max_3, min_3, len_l, len_t, len_s, lenB_l, lenB_t, lenB_s, ix_s, ixV_a, tuple_l, tuple_t, list_l, list_t, sum_l, isi_int, isi_bool, isi_tup, ix_fr0, ix_fr1, mul_l, cat_l, cat_t, sl_l, sl_t, sl_s, line, kq4_1, kq3_1, kq2_1, kq1_1, mSl3_a, kz2_1, kz_1, iZipM_a, ken2_1, ken_1, iEnM_a, kgt_1, gTM_a, seq_l, seq_t, ksrt_1, sorted_a, kpo4_1, kpo3_1, kpo2_1, kpo1_1, mPopAt_a, Nat.reduceLeDiff, Nat.zero_le, and_self, Nat.one_ne_zero, Nat.reduceEqDiff, reduceCtorEq, Bool.not_true, Bool.not_false, decide_true, decide_false, Bool.and_self, Bool.and_true, Bool.true_and, List.length_cons, List.length_nil, List.replicate, List.append_nil, List.cons_append, List.nil_append, Nat.reduceAdd, Nat.reduceSub, List.getElem?_cons_succ, List.getElem?_cons_zero, Nat.sub_self, List.set_cons_succ, List.set_cons_zero, ↓reduceIte, Nat.reduceLeDiff, Nat.reduceLT, e]
  rw [ez] at lz
  simp only [f_is_rising, b_is_rising, kSeq_1, kSeq_2, kSeq_3, kSeq_4, kSet_1, kNx_1, kPar_1, kd2_1, kd1_1, kIf_1, kIf_2, kRt_1, kEx_1, kVar_1, kVar_2, kMov_1, kMov_2, kfz_1, kfz_2, kc_1, k1_1, k2b_1, k2a_1, kt_1, kn_1, kAnd_1, kAnd_2, kOr_1, kOr_2, kmA_1, kmA_2, kmO_1, kmO_2, kmI_1, kmI_2, kh4_1, kh3_1, kh3_2, kh2_1, kh1_1, kcb_1, kca_1, kL5_1, kL4_1, kL3_1, kL2_1, kL1_1, kl2_1, kl1_1, kl3_1, kr_1, krs_1, krs_2, kput_1, kput_2, kpk_1, klst_1, klst_2, kbor_1, ka2_1, ka1_1, ktup_1, kls_1, kB_1, kx3_1, kx2_1, kx1_1, kx4_1, kis2_1, kis_1, kp_1, ks3_1, ks2_1, ks1_1, kF_1, kF2_1, kF2_2, kF2_3, kF2_4, kF1_1, kW2_1, kW2_2, kW2_3, kW2_4, kW_1, kW_2, kg_1, ksa_1, ki_1, ki_2, ki_3, kap2_1, kap_1, ksx4_1, ksx3_1, ksx2_1, ksx1_1, kat_1, ko_1, kfin_1, kfin_2, klc2_1, klc_1, kC4_1, kC3_1, kC2_1, kC2_2, kC1_1, ksum_1, kst2_1, kst_1, kst_2, kRev_1, kRev_2, krg_1, krg2_1, krg1_1, kav_1, kav_2, krc_1, runFn_a, out_n, out_s, ini_a, iniL_n, iniL_0, iniL_e, sSeq_a, sSet_a, sPar_a, dNil_a, dCons_a, setAll_n, setAll_c, sIf_a, sRet_a, sExpr_a, sNext_a, sBreak_a, sCont_a, mC_a, mVar_a, mMove_a, fz_a, m1_a, m2_a, tst_a, tNot_a, tAnd_a, tOr_a, tYes_a, mAnd_a, mOr_a, mIf_a, mChain_a, mCall_a, mCallL_a, lNil_a, lCons_a, lLend_a, res_e, res_v, res_s, slot_0, slot_s, put_a, peek_a, lstAt_a, get_v, get_o, get_b, aNil_a, aCons_a, aStar_a, mTup_a, mLst_a, mB_a, mIxS_a, mLenS_a, mIsi_a, pNone_a, pSome_a, mSl_a, sFor_a, forL_n, forL_c, whN_s, gN_a, gT_a, gsC_a, gsN_a, sAsg_a, iSeq_a, sApp_a, sSetIx_a, mLc_a, lcL_n, lcL_c, wipe_n, wipe_c, rest_n, rest_c, allVal_n, allVal_c, mRev_a, mLRg_a, mLRg2_a, lt_int, le_int, gt_int, ge_int, sub_int, add_int, mod_int, fdiv_int, pow_int', mul_ok, eq_int, ne_int, neg_int, not_bl, abs_int, int_int, int_bl, max_2, min_2, max_3, min_3, len_l, len_t, len_s, lenB_l, lenB_t, lenB_s, ix_s, ixV_a, tuple_l, tuple_t, list_l, list_t, sum_l, isi_int, isi_bool, isi_tup, ix_fr0, ix_fr1, mul_l, cat_l, cat_t, sl_l, sl_t, sl_s, line, kq4_1, kq3_1, kq2_1, kq1_1, mSl3_a, kz2_1, kz_1, iZipM_a, ken2_1, ken_1, iEnM_a, kgt_1, gTM_a, seq_l, seq_t, ksrt_1, sorted_a, kpo4_1, kpo3_1, kpo2_1, kpo1_1, mPopAt_a, Nat.reduceLeDiff, Nat.zero_le, and_self, Nat.one_ne_zero, Nat.reduceEqDiff, reduceCtorEq, Bool.not_true, Bool.not_false, decide_true, decide_false, Bool.and_self, Bool.and_true, Bool.true_and, List.length_cons, List.length_nil, List.replicate, List.append_nil, List.cons_append, List.nil_append, Nat.reduceAdd, Nat.reduceSub, List.getElem?_cons_succ, List.getElem?_cons_zero, Nat.sub_self, List.set_cons_succ, List.set_cons_zero, ↓reduceIte, Nat.reduceLeDiff, Nat.reduceLT, sl_l, cut_1, ez, lz, lc, all_l1]
theorem is_kinds_ok {ks : List (Nat × Nat)} (h : Ki ks) : f_is_kinds [dK ks] = ok (.bl true) := by
  have hl : 1 ≤ ks.length := List.length_pos_iff.mpr h.ne
  have hl2 := h.len
  have e1 : decide ((1 : Int) ≤ ((ks.map row).length : Int) ∧ ((ks.map row).length : Int) ≤ 256) = true := by simp; omega
  have l0 : (ks.map row).length ≤ 16777216 := by simp; omega
  have c1 : ∀ x0, lcL (gN 1) tYesM (mCall c_is_tuple (aCons (mVar 1) (aCons (mC (.int 2)) (aCons (mC (.int 2)) aNil)))) [1] (ks.map row) [x0, none] = some (ks.map fun _ => .bl true, [x0, none]) := fun x0 =>
    lc_map fun k hk ds => by
      have e : decide ((2 : Int) ≤ ((2 : Nat) : Int) ∧ ((2 : Nat) : Int) ≤ 2) = true := by decide
      simp only [row, kSeq_1, kSeq_2, kSeq_3, kSeq_4, kSet_1, kNx_1, kPar_1, kd2_1, kd1_1, kIf_1, kIf_2, kRt_1, kEx_1, kVar_1, kVar_2, kMov_1, kMov_2, kfz_1, kfz_2, kc_1, k1_1, k2b_1, k2a_1, kt_1, kn_1, kAnd_1, kAnd_2, kOr_1, kOr_2, kmA_1, kmA_2, kmO_1, kmO_2, kmI_1, kmI_2, kh4_1, kh3_1, kh3_2, kh2_1, kh1_1, kcb_1, kca_1, kL5_1, kL4_1, kL3_1, kL2_1, kL1_1, kl2_1, kl1_1, kl3_1, kr_1, krs_1, krs_2, kput_1, kput_2, kpk_1, klst_1, klst_2, kbor_1, ka2_1, ka1_1, ktup_1, kls_1, kB_1, kx3_1, kx2_1, kx1_1, kx4_1, kis2_1, kis_1, kp_1, ks3_1, ks2_1, ks1_1, kF_1, kF2_1, kF2_2, kF2_3, kF2_4, kF1_1, kW2_1, kW2_2, kW2_3, kW2_4, kW_1, kW_2, kg_1, ksa_1, ki_1, ki_2, ki_3, kap2_1, kap_1, ksx4_1, ksx3_1, ksx2_1, ksx1_1, kat_1, ko_1, kfin_1, kfin_2, klc2_1, klc_1, kC4_1, kC3_1, kC2_1, kC2_2, kC1_1, ksum_1, kst2_1, kst_1, kst_2, kRev_1, kRev_2, krg_1, krg2_1, krg1_1, kav_1, kav_2, krc_1, runFn_a, out_n, out_s, ini_a, iniL_n, iniL_0, iniL_e, sSeq_a, sSet_a, sPar_a, dNil_a, dCons_a, setAll_n, setAll_c, sIf_a, sRet_a, sExpr_a, sNext_a, sBreak_a, sCont_a, mC_a, mVar_a, mMove_a, fz_a, m1_a, m2_a, tst_a, tNot_a, tAnd_a, tOr_a, tYes_a, mAnd_a, mOr_a, mIf_a, mChain_a, mCall_a, mCallL_a, lNil_a, lCons_a, lLend_a, res_e, res_v, res_s, slot_0, slot_s, put_a, peek_a, lstAt_a, get_v, get_o, get_b, aNil_a, aCons_a, aStar_a, mTup_a, mLst_a, mB_a, mIxS_a, mLenS_a, mIsi_a, pNone_a, pSome_a, mSl_a, sFor_a, forL_n, forL_c, whN_s, gN_a, gT_a, gsC_a, gsN_a, sAsg_a, iSeq_a, sApp_a, sSetIx_a, mLc_a, lcL_n, lcL_c, wipe_n, wipe_c, rest_n, rest_c, allVal_n, allVal_c, mRev_a, mLRg_a, mLRg2_a, lt_int, le_int, gt_int, ge_int, sub_int, add_int, mod_int, fdiv_int, pow_int', mul_ok, eq_int, ne_int, neg_int, not_bl, abs_int, int_int, int_bl, max_2, min_2, max_3, min_3, len_l, len_t, len_s, lenB_l, lenB_t, lenB_s, ix_s, ixV_a, tuple_l, tuple_t, list_l, list_t, sum_l, isi_int, isi_bool, isi_tup, ix_fr0, ix_fr1, mul_l, cat_l, cat_t, sl_l, sl_t, sl_s, line, kq4_1, kq3_1, kq2_1, kq1_1, mSl3_a, kz2_1, kz_1, iZipM_a, ken2_1, ken_1, iEnM_a, kgt_1, gTM_a, seq_l, seq_t, ksrt_1, sorted_a, kpo4_1, kpo3_1, kpo2_1, kpo1_1, mPopAt_a, Nat.reduceLeDiff, Nat.zero_le, and_self, Nat.one_ne_zero, Nat.reduceEqDiff, reduceCtorEq, Bool.not_true, Bool.not_false, decide_true, decide_false, Bool.and_self, Bool.and_true, Bool.true_and, List.length_cons, List.length_nil, List.replicate, List.append_nil, List.cons_append, List.nil_append, Nat.reduceAdd, Nat.reduceSub, List.getElem?_cons_succ, List.getElem?_cons_zero, Nat.sub_self, List.set_cons_succ, List.set_cons_zero, ↓reduceIte, Nat.reduceLeDiff, Nat.reduceLT, is_tuple_ok, e]
  have c2 : ∀ x0, lcL (gN 1) tYesM (mAnd (mCall c_is_integer (aCons (mIxS 1 (mC (.int 0))) (aCons (mC (.int 1)) (aCons (mC (.int 1000)) aNil)))) (mCall c_is_integer (aCons (mIxS 1 (mC (.int 1))) (aCons (mC (.int 1)) (aCons (mC (.int 256)) aNil))))) [1] (ks.map row) [x0, none] = some (ks.map fun _ => .bl true, [x0, none]) := fun x0 =>
    lc_map fun k hk ds => by
      have hw := h.w k hk
      have hm := h.m k hk
      have e : decide ((1 : Int) ≤ (k.1 : Int) ∧ (k.1 : Int) ≤ 1000) = true := by simp; omega
      have e' : decide ((1 : Int) ≤ (k.2 : Int) ∧ (k.2 : Int) ≤ 256) = true := by simp; omega
      have i0 : dIx (row k) (.int 0) = some (.int k.1) := rfl
      have i1 : dIx (row k) (.int 1) = some (.int k.2) := rfl
      simp only [kSeq_1, kSeq_2, kSeq_3, kSeq_4, kSet_1, kNx_1, kPar_1, kd2_1, kd1_1, kIf_1, kIf_2, kRt_1, kEx_1, kVar_1, kVar_2, kMov_1, kMov_2, kfz_1, kfz_2, kc_1, k1_1, k2b_1, k2a_1, kt_1, kn_1, kAnd_1, kAnd_2, kOr_1, kOr_2, kmA_1, kmA_2, kmO_1, kmO_2, kmI_1, kmI_2, kh4_1, kh3_1, kh3_2, kh2_1, kh1_1, kcb_1, kca_1, kL5_1, kL4_1, kL3_1, kL2_1, kL1_1, kl2_1, kl1_1, kl3_1, kr_1, krs_1, krs_2, kput_1, kput_2, kpk_1, klst_1, klst_2, kbor_1, ka2_1, ka1_1, ktup_1, kls_1, kB_1, kx3_1, kx2_1, kx1_1, kx4_1, kis2_1, kis_1, kp_1, ks3_1, ks2_1, ks1_1, kF_1, kF2_1, kF2_2, kF2_3, kF2_4, kF1_1, kW2_1, kW2_2, kW2_3, kW2_4, kW_1, kW_2, kg_1, ksa_1, ki_1, ki_2, ki_3, kap2_1, kap_1, ksx4_1, ksx3_1, ksx2_1, ksx1_1, kat_1, ko_1, kfin_1, kfin_2, klc2_1, klc_1, kC4_1, kC3_1, kC2_1, kC2_2, kC1_1, ksum_1, kst2_1, kst_1, kst_2, kRev_1, kRev_2, krg_1, krg2_1, krg1_1, kav_1, kav_2, krc_1, runFn_a, out_n, out_s, ini_a, iniL_n, iniL_0, iniL_e, sSeq_a, sSet_a, sPar_a, dNil_a, dCons_a, setAll_n, setAll_c, sIf_a, sRet_a, sExpr_a, sNext_a, sBreak_a, sCont_a, mC_a, mVar_a, mMove_a, fz_a, m1_a, m2_a, tst_a, tNot_a, tAnd_a, tOr_a, tYes_a, mAnd_a, mOr_a, mIf_a, mChain_a, mCall_a, mCallL_a, lNil_a, lCons_a, lLend_a, res_e, res_v, res_s, slot_0, slot_s, put_a, peek_a, lstAt_a, get_v, get_o, get_b, aNil_a, aCons_a, aStar_a, mTup_a, mLst_a, mB_a, mIxS_a, mLenS_a, mIsi_a, pNone_a, pSome_a, mSl_a, sFor_a, forL_n, forL_c, whN_s, gN_a, gT_a, gsC_a, gsN_a, sAsg_a, iSeq_a, sApp_a, sSetIx_a, mLc_a, lcL_n, lcL_c, wipe_n, wipe_c, rest_n, rest_c, allVal_n, allVal_c, mRev_a, mLRg_a, mLRg2_a, lt_int, le_int, gt_int, ge_int, sub_int, add_int, mod_int, fdiv_int, pow_int', mul_ok, eq_int, ne_int, neg_int, not_bl, abs_int, int_int, int_bl, max_2, min_2, max_3, min_3, len_l, len_t, len_s, lenB_l, lenB_t, lenB_s, ix_s, ixV_a, tuple_l, tuple_t, list_l, list_t, sum_l, isi_int, isi_bool, isi_tup, ix_fr0, ix_fr1, mul_l, cat_l, cat_t, sl_l, sl_t, sl_s, line, kq4_1, kq3_1, kq2_1, kq1_1, mSl3_a, kz2_1, kz_1, iZipM_a, ken2_1, ken_1, iEnM_a, kgt_1, gTM_a, seq_l, seq_t, ksrt_1, sorted_a, kpo4_1, kpo3_1, kpo2_1, kpo1_1, mPopAt_a, Nat.reduceLeDiff, Nat.zero_le, and_self, Nat.one_ne_zero, Nat.reduceEqDiff, reduceCtorEq, Bool.not_true, Bool.not_false, decide_true, decide_false, Bool.and_self, Bool.and_true, Bool.true_and, List.length_cons, List.length_nil, List.replicate, List.append_nil, List.cons_append, List.nil_append, Nat.reduceAdd, Nat.reduceSub, List.getElem?_cons_succ, List.getElem?_cons_zero, Nat.sub_self, List.set_cons_succ, List.set_cons_zero, ↓reduceIte, Nat.reduceLeDiff, Nat.reduceLT, is_integer_ok, i0, i1, e, e']
  have c3 : ∀ x0, lcL (gN 1) tYesM (mIxS 1 (mC (.int 0))) [1] (ks.map row) [x0, none] = some (ks.map fun k => .int k.1, [x0, none]) := fun x0 =>
    lc_map fun k hk ds => by
      have i0 : dIx (row k) (.int 0) = some (.int k.1) := rfl
      simp only [kSeq_1, kSeq_2, kSeq_3, kSeq_4, kSet_1, kNx_1, kPar_1, kd2_1, kd1_1, kIf_1, kIf_2, kRt_1, kEx_1, kVar_1, kVar_2, kMov_1, kMov_2, kfz_1, kfz_2, kc_1, k1_1, k2b_1, k2a_1, kt_1, kn_1, kAnd_1, kAnd_2, kOr_1, kOr_2, kmA_1, kmA_2, kmO_1, kmO_2, kmI_1, kmI_2, kh4_1, kh3_1, kh3_2, kh2_1, kh1_1, kcb_1, kca_1, kL5_1, kL4_1, kL3_1, kL2_1, kL1_1, kl2_1, kl1_1, kl3_1, kr_1, krs_1, krs_2, kput_1, kput_2, kpk_1, klst_1, klst_2, kbor_1, ka2_1, ka1_1, ktup_1, kls_1, kB_1, kx3_1, kx2_1, kx1_1, kx4_1, kis2_1, kis_1, kp_1, ks3_1, ks2_1, ks1_1, kF_1, kF2_1, kF2_2, kF2_3, kF2_4, kF1_1, kW2_1, kW2_2, kW2_3, kW2_4, kW_1, kW_2, kg_1, ksa_1, ki_1, ki_2, ki_3, kap2_1, kap_1, ksx4_1, ksx3_1, ksx2_1, ksx1_1, kat_1, ko_1, kfin_1, kfin_2, klc2_1, klc_1, kC4_1, kC3_1, kC2_1, kC2_2, kC1_1, ksum_1, kst2_1, kst_1, kst_2, kRev_1, kRev_2, krg_1, krg2_1, krg1_1, kav_1, kav_2, krc_1, runFn_a, out_n, out_s, ini_a, iniL_n, iniL_0, iniL_e, sSeq_a, sSet_a, sPar_a, dNil_a, dCons_a, setAll_n, setAll_c, sIf_a, sRet_a, sExpr_a, sNext_a, sBreak_a, sCont_a, mC_a, mVar_a, mMove_a, fz_a, m1_a, m2_a, tst_a, tNot_a, tAnd_a, tOr_a, tYes_a, mAnd_a, mOr_a, mIf_a, mChain_a, mCall_a, mCallL_a, lNil_a, lCons_a, lLend_a, res_e, res_v, res_s, slot_0, slot_s, put_a, peek_a, lstAt_a, get_v, get_o, get_b, aNil_a, aCons_a, aStar_a, mTup_a, mLst_a, mB_a, mIxS_a, mLenS_a, mIsi_a, pNone_a, pSome_a, mSl_a, sFor_a, forL_n, forL_c, whN_s, gN_a, gT_a, gsC_a, gsN_a, sAsg_a, iSeq_a, sApp_a, sSetIx_a, mLc_a, lcL_n, lcL_c, wipe_n, wipe_c, rest_n, rest_c, allVal_n, allVal_c, mRev_a, mLRg_a, mLRg2_a, lt_int, le_int, gt_int, ge_int, sub_int, add_int, mod_int, fdiv_int, pow_int', mul_ok, eq_int, ne_int, neg_int, not_bl, abs_int, int_int, int_bl, max_2, min_2, max_3, min_3, len_l, len_t, len_s, lenB_l, lenB_t, lenB_s, ix_s, ixV_a, tuple_l, tuple_t, list_l, list_t, sum_l, isi_int, isi_bool, isi_tup, ix_fr0, ix_fr1, mul_l, cat_l, cat_t, sl_l, sl_t, sl_s, line, kq4_1, kq3_1, kq2_1, kq1_1, mSl3_a, kz2_1, kz_1, iZipM_a, ken2_1, ken_1, iEnM_a, kgt_1, gTM_a, seq_l, seq_t, ksrt_1, sorted_a, kpo4_1, kpo3_1, kpo2_1, kpo1_1, mPopAt_a, Nat.reduceLeDiff, Nat.zero_le, and_self, Nat.one_ne_zero, Nat.reduceEqDiff, reduceCtorEq, Bool.not_true, Bool.not_false, decide_true, decide_false, Bool.and_self, Bool.and_true, Bool.true_and, List.length_cons, List.length_nil, List.replicate, List.append_nil, List.cons_append, List.nil_append, Nat.reduceAdd, Nat.reduceSub, List.getElem?_cons_succ, List.getElem?_cons_zero, Nat.sub_self, List.set_cons_succ, List.set_cons_zero, ↓reduceIte, Nat.reduceLeDiff, Nat.reduceLT, i0]
  have c4 : ∀ x0, lcL (gN 1) tYesM (mIxS 1 (mC (.int 1))) [1] (ks.map row) [x0, none] = some (ks.map fun k => .int k.2, [x0, none]) := fun x0 =>
    lc_map fun k hk ds => by
      have i1 : dIx (row k) (.int 1) = some (.int k.2) := rfl
      simp only [kSeq_1, kSeq_2, kSeq_3, kSeq_4, kSet_1, kNx_1, kPar_1, kd2_1, kd1_1, kIf_1, kIf_2, kRt_1, kEx_1, kVar_1, kVar_2, kMov_1, kMov_2, kfz_1, kfz_2, kc_1, k1_1, k2b_1, k2a_1, kt_1, kn_1, kAnd_1, kAnd_2, kOr_1, kOr_2, kmA_1, kmA_2, kmO_1, kmO_2, kmI_1, kmI_2, kh4_1, kh3_1, kh3_2, kh2_1, kh1_1, kcb_1, kca_1, kL5_1, kL4_1, kL3_1, kL2_1, kL1_1, kl2_1, kl1_1, kl3_1, kr_1, krs_1, krs_2, kput_1, kput_2, kpk_1, klst_1, klst_2, kbor_1, ka2_1, ka1_1, ktup_1, kls_1, kB_1, kx3_1, kx2_1, kx1_1, kx4_1, kis2_1, kis_1, kp_1, ks3_1, ks2_1, ks1_1, kF_1, kF2_1, kF2_2, kF2_3, kF2_4, kF1_1, kW2_1, kW2_2, kW2_3, kW2_4, kW_1, kW_2, kg_1, ksa_1, ki_1, ki_2, ki_3, kap2_1, kap_1, ksx4_1, ksx3_1, ksx2_1, ksx1_1, kat_1, ko_1, kfin_1, kfin_2, klc2_1, klc_1, kC4_1, kC3_1, kC2_1, kC2_2, kC1_1, ksum_1, kst2_1, kst_1, kst_2, kRev_1, kRev_2, krg_1, krg2_1, krg1_1, kav_1, kav_2, krc_1, runFn_a, out_n, out_s, ini_a, iniL_n, iniL_0, iniL_e, sSeq_a, sSet_a, sPar_a, dNil_a, dCons_a, setAll_n, setAll_c, sIf_a, sRet_a, sExpr_a, sNext_a, sBreak_a, sCont_a, mC_a, mVar_a, mMove_a, fz_a, m1_a, m2_a, tst_a, tNot_a, tAnd_a, tOr_a, tYes_a, mAnd_a, mOr_a, mIf_a, mChain_a, mCall_a, mCallL_a, lNil_a, lCons_a, lLend_a, res_e, res_v, res_s, slot_0, slot_s, put_a, peek_a, lstAt_a, get_v, get_o, get_b, aNil_a, aCons_a, aStar_a, mTup_a, mLst_a, mB_a, mIxS_a, mLenS_a, mIsi_a, pNone_a, pSome_a, mSl_a, sFor_a, forL_n, forL_c, whN_s, gN_a, gT_a, gsC_a, gsN_a, sAsg_a, iSeq_a, sApp_a, sSetIx_a, mLc_a, lcL_n, lcL_c, wipe_n, wipe_c, rest_n, rest_c, allVal_n, allVal_c, mRev_a, mLRg_a, mLRg2_a, lt_int, le_int, gt_int, ge_int, sub_int, add_int, mod_int, fdiv_int, pow_int', mul_ok, eq_int, ne_int, neg_int, not_bl, abs_int, int_int, int_bl, max_2, min_2, max_3, min_3, len_l, len_t, len_s, lenB_l, lenB_t, lenB_s, ix_s, ixV_a, tuple_l, tuple_t, list_l, list_t, sum_l, isi_int, isi_bool, isi_tup, ix_fr0, ix_fr1, mul_l, cat_l, cat_t, sl_l, sl_t, sl_s, line, kq4_1, kq3_1, kq2_1, kq1_1, mSl3_a, kz2_1, kz_1, iZipM_a, ken2_1, ken_1, iEnM_a, kgt_1, gTM_a, seq_l, seq_t, ksrt_1, sorted_a, kpo4_1, kpo3_1, kpo2_1, kpo1_1, mPopAt_a, Nat.reduceLeDiff, Nat.zero_le, and_self, Nat.one_ne_zero, Nat.reduceEqDiff, reduceCtorEq, Bool.not_true, Bool.not_false, decide_true, decide_false, Bool.and_self, Bool.and_true, Bool.true_and, List.length_cons, List.length_nil, List.replicate, List.append_nil, List.cons_append, List.nil_append, Nat.reduceAdd, Nat.reduceSub, List.getElem?_cons_succ, List.getElem?_cons_zero, Nat.sub_self, List.set_cons_succ, List.set_cons_zero, ↓reduceIte, Nat.reduceLeDiff, Nat.reduceLT, i1]
  have r := rising_ok (ns := ks.map (·.1)) (List.pairwise_map.mpr h.up) (by simp; omega)
  have er : (ks.map (·.1)).map (fun n : Nat => D.int n) = ks.map fun k => D.int k.1 := by rw [List.map_map]; rfl
  rw [er] at r
  have s := ints_map (f := fun k : Nat × Nat => (k.2 : Int)) (xs := ks)
  have es : (ks.map fun k => (k.2 : Int)).sum = (((ks.map (·.2)).sum : Nat) : Int) := by
    rw [← sum_cast, List.map_map]; rfl
  have e9 : decide ((((ks.map (·.2)).sum : Nat) : Int) ≤ 256) = true := by have := h.all; simp; omega
  simp only [f_is_kinds, b_is_kinds, dK, kSeq_1, kSeq_2, kSeq_3, kSeq_4, kSet_1, kNx_1, kPar_1, kd2_1, kd1_1, kIf_1, kIf_2, kRt_1, kEx_1, kVar_1, kVar_2, kMov_1, kMov_2, kfz_1, kfz_2, kc_1, k1_1, k2b_1, k2a_1, kt_1, kn_1, kAnd_1, kAnd_2, kOr_1, kOr_2, kmA_1, kmA_2, kmO_1, kmO_2, kmI_1, kmI_2, kh4_1, kh3_1, kh3_2, kh2_1, kh1_1, kcb_1, kca_1, kL5_1, kL4_1, kL3_1, kL2_1, kL1_1, kl2_1, kl1_1, kl3_1, kr_1, krs_1, krs_2, kput_1, kput_2, kpk_1, klst_1, klst_2, kbor_1, ka2_1, ka1_1, ktup_1, kls_1, kB_1, kx3_1, kx2_1, kx1_1, kx4_1, kis2_1, kis_1, kp_1, ks3_1, ks2_1, ks1_1, kF_1, kF2_1, kF2_2, kF2_3, kF2_4, kF1_1, kW2_1, kW2_2, kW2_3, kW2_4, kW_1, kW_2, kg_1, ksa_1, ki_1, ki_2, ki_3, kap2_1, kap_1, ksx4_1, ksx3_1, ksx2_1, ksx1_1, kat_1, ko_1, kfin_1, kfin_2, klc2_1, klc_1, kC4_1, kC3_1, kC2_1, kC2_2, kC1_1, ksum_1, kst2_1, kst_1, kst_2, kRev_1, kRev_2, krg_1, krg2_1, krg1_1, kav_1, kav_2, krc_1, runFn_a, out_n, out_s, ini_a, iniL_n, iniL_0, iniL_e, sSeq_a, sSet_a, sPar_a, dNil_a, dCons_a, setAll_n, setAll_c, sIf_a, sRet_a, sExpr_a, sNext_a, sBreak_a, sCont_a, mC_a, mVar_a, mMove_a, fz_a, m1_a, m2_a, tst_a, tNot_a, tAnd_a, tOr_a, tYes_a, mAnd_a, mOr_a, mIf_a, mChain_a, mCall_a, mCallL_a, lNil_a, lCons_a, lLend_a, res_e, res_v, res_s, slot_0, slot_s, put_a, peek_a, lstAt_a, get_v, get_o, get_b, aNil_a, aCons_a, aStar_a, mTup_a, mLst_a, mB_a, mIxS_a, mLenS_a, mIsi_a, pNone_a, pSome_a, mSl_a, sFor_a, forL_n, forL_c, whN_s, gN_a, gT_a, gsC_a, gsN_a, sAsg_a, iSeq_a, sApp_a, sSetIx_a, mLc_a, lcL_n, lcL_c, wipe_n, wipe_c, rest_n, rest_c, allVal_n, allVal_c, mRev_a, mLRg_a, mLRg2_a, lt_int, le_int, gt_int, ge_int, sub_int, add_int, mod_int, fdiv_int, pow_int', mul_ok, eq_int, ne_int, neg_int, not_bl, abs_int, int_int, int_bl, max_2, min_2, max_3, min_3, len_l, len_t, len_s, lenB_l, lenB_t, lenB_s, ix_s, ixV_a, tuple_l, tuple_t, list_l, list_t, sum_l, isi_int, isi_bool, isi_tup, ix_fr0, ix_fr1, mul_l, cat_l, cat_t, sl_l, sl_t, sl_s, line, kq4_1, kq3_1, kq2_1, kq1_1, mSl3_a, kz2_1, kz_1, iZipM_a, ken2_1, ken_1, iEnM_a, kgt_1, gTM_a, seq_l, seq_t, ksrt_1, sorted_a, kpo4_1, kpo3_1, kpo2_1, kpo1_1, mPopAt_a, Nat.reduceLeDiff, Nat.zero_le, and_self, Nat.one_ne_zero, Nat.reduceEqDiff, reduceCtorEq, Bool.not_true, Bool.not_false, decide_true, decide_false, Bool.and_self, Bool.and_true, Bool.true_and, List.length_cons, List.length_nil, List.replicate, List.append_nil, List.cons_append, List.nil_append, Nat.reduceAdd, Nat.reduceSub, List.getElem?_cons_succ, List.getElem?_cons_zero, Nat.sub_self, List.set_cons_succ, List.set_cons_zero, ↓reduceIte, Nat.reduceLeDiff, Nat.reduceLT, e_is_tuple, e_is_integer, is_tuple_ok, e1, l0, c1, c2, c3, c4, all_l1, r, s, es, e9]
theorem check_kinds_ok {ks : List (Nat × Nat)} (h : Ki ks) : f_check_kinds [dK ks] = ok .non := by
  simp only [f_check_kinds, b_check_kinds, kSeq_1, kSeq_2, kSeq_3, kSeq_4, kSet_1, kNx_1, kPar_1, kd2_1, kd1_1, kIf_1, kIf_2, kRt_1, kEx_1, kVar_1, kVar_2, kMov_1, kMov_2, kfz_1, kfz_2, kc_1, k1_1, k2b_1, k2a_1, kt_1, kn_1, kAnd_1, kAnd_2, kOr_1, kOr_2, kmA_1, kmA_2, kmO_1, kmO_2, kmI_1, kmI_2, kh4_1, kh3_1, kh3_2, kh2_1, kh1_1, kcb_1, kca_1, kL5_1, kL4_1, kL3_1, kL2_1, kL1_1, kl2_1, kl1_1, kl3_1, kr_1, krs_1, krs_2, kput_1, kput_2, kpk_1, klst_1, klst_2, kbor_1, ka2_1, ka1_1, ktup_1, kls_1, kB_1, kx3_1, kx2_1, kx1_1, kx4_1, kis2_1, kis_1, kp_1, ks3_1, ks2_1, ks1_1, kF_1, kF2_1, kF2_2, kF2_3, kF2_4, kF1_1, kW2_1, kW2_2, kW2_3, kW2_4, kW_1, kW_2, kg_1, ksa_1, ki_1, ki_2, ki_3, kap2_1, kap_1, ksx4_1, ksx3_1, ksx2_1, ksx1_1, kat_1, ko_1, kfin_1, kfin_2, klc2_1, klc_1, kC4_1, kC3_1, kC2_1, kC2_2, kC1_1, ksum_1, kst2_1, kst_1, kst_2, kRev_1, kRev_2, krg_1, krg2_1, krg1_1, kav_1, kav_2, krc_1, runFn_a, out_n, out_s, ini_a, iniL_n, iniL_0, iniL_e, sSeq_a, sSet_a, sPar_a, dNil_a, dCons_a, setAll_n, setAll_c, sIf_a, sRet_a, sExpr_a, sNext_a, sBreak_a, sCont_a, mC_a, mVar_a, mMove_a, fz_a, m1_a, m2_a, tst_a, tNot_a, tAnd_a, tOr_a, tYes_a, mAnd_a, mOr_a, mIf_a, mChain_a, mCall_a, mCallL_a, lNil_a, lCons_a, lLend_a, res_e, res_v, res_s, slot_0, slot_s, put_a, peek_a, lstAt_a, get_v, get_o, get_b, aNil_a, aCons_a, aStar_a, mTup_a, mLst_a, mB_a, mIxS_a, mLenS_a, mIsi_a, pNone_a, pSome_a, mSl_a, sFor_a, forL_n, forL_c, whN_s, gN_a, gT_a, gsC_a, gsN_a, sAsg_a, iSeq_a, sApp_a, sSetIx_a, mLc_a, lcL_n, lcL_c, wipe_n, wipe_c, rest_n, rest_c, allVal_n, allVal_c, mRev_a, mLRg_a, mLRg2_a, lt_int, le_int, gt_int, ge_int, sub_int, add_int, mod_int, fdiv_int, pow_int', mul_ok, eq_int, ne_int, neg_int, not_bl, abs_int, int_int, int_bl, max_2, min_2, max_3, min_3, len_l, len_t, len_s, lenB_l, lenB_t, lenB_s, ix_s, ixV_a, tuple_l, tuple_t, list_l, list_t, sum_l, isi_int, isi_bool, isi_tup, ix_fr0, ix_fr1, mul_l, cat_l, cat_t, sl_l, sl_t, sl_s, line, kq4_1, kq3_1, kq2_1, kq1_1, mSl3_a, kz2_1, kz_1, iZipM_a, ken2_1, ken_1, iEnM_a, kgt_1, gTM_a, seq_l, seq_t, ksrt_1, sorted_a, kpo4_1, kpo3_1, kpo2_1, kpo1_1, mPopAt_a, Nat.reduceLeDiff, Nat.zero_le, and_self, Nat.one_ne_zero, Nat.reduceEqDiff, reduceCtorEq, Bool.not_true, Bool.not_false, decide_true, decide_false, Bool.and_self, Bool.and_true, Bool.true_and, List.length_cons, List.length_nil, List.replicate, List.append_nil, List.cons_append, List.nil_append, Nat.reduceAdd, Nat.reduceSub, List.getElem?_cons_succ, List.getElem?_cons_zero, Nat.sub_self, List.set_cons_succ, List.set_cons_zero, ↓reduceIte, Nat.reduceLeDiff, Nat.reduceLT, is_kinds_ok h]
end
end Wk64

set_option Elab.async false
set_option linter.all false
set_option maxRecDepth 100000
namespace Wk64
open PySem Cb
noncomputable section
def W (ks : List (Nat × Nat)) : Nat := (ks.map fun k => k.1 * k.2).sum
def q1 (w : Nat) (k : Nat × Nat) : Rat := (k.1 : Rat) / (w : Rat)
theorem sz_nat {n : Nat} (k : Nat) (h : n < 2 ^ k) : Sz k (n : Int) := by unfold Sz; simpa using h
theorem whole_ok {ks : List (Nat × Nat)} (h : ∀ k ∈ ks, k.1 ≤ 1000 ∧ k.2 ≤ 1000) (hl : ks.length ≤ 1000) : f_whole_of [dK ks] = ok (.int (W ks)) := by
  have l0 : (ks.map row).length ≤ 16777216 := by simp; omega
  have c1 : ∀ x0, lcL (gTM (gsCons (gN 1) (gsCons (gN 2) gsNil))) tYesM (m2 dMul (mVar 1) (mVar 2)) [1, 2] (ks.map row) [x0, none, none] = some (ks.map fun k => .int ((k.1 * k.2 : Nat) : Int), [x0, none, none]) := fun x0 =>
    lc_map fun k hk ds => by
      have hm := h k hk
      have mo : MulOk (k.1 : Int) (k.2 : Int) := (sz_nat (n := k.1) 11 (by omega)).mulOk (sz_nat (n := k.2) 11 (by omega))
      simp only [row, kSeq_1, kSeq_2, kSeq_3, kSeq_4, kSet_1, kNx_1, kPar_1, kd2_1, kd1_1, kIf_1, kIf_2, kRt_1, kEx_1, kVar_1, kVar_2, kMov_1, kMov_2, kfz_1, kfz_2, kc_1, k1_1, k2b_1, k2a_1, kt_1, kn_1, kAnd_1, kAnd_2, kOr_1, kOr_2, kmA_1, kmA_2, kmO_1, kmO_2, kmI_1, kmI_2, kh4_1, kh3_1, kh3_2, kh2_1, kh1_1, kcb_1, kca_1, kL5_1, kL4_1, kL3_1, kL2_1, kL1_1, kl2_1, kl1_1, kl3_1, kr_1, krs_1, krs_2, kput_1, kput_2, kpk_1, klst_1, klst_2, kbor_1, ka2_1, ka1_1, ktup_1, kls_1, kB_1, kx3_1, kx2_1, kx1_1, kx4_1, kis2_1, kis_1, kp_1, ks3_1, ks2_1, ks1_1, kF_1, kF2_1, kF2_2, kF2_3, kF2_4, kF1_1, kW2_1, kW2_2, kW2_3, kW2_4, kW_1, kW_2, kg_1, ksa_1, ki_1, ki_2, ki_3, kap2_1, kap_1, ksx4_1, ksx3_1, ksx2_1, ksx1_1, kat_1, ko_1, kfin_1, kfin_2, klc2_1, klc_1, kC4_1, kC3_1, kC2_1, kC2_2, kC1_1, ksum_1, kst2_1, kst_1, kst_2, kRev_1, kRev_2, krg_1, krg2_1, krg1_1, kav_1, kav_2, krc_1, runFn_a, out_n, out_s, ini_a, iniL_n, iniL_0, iniL_e, sSeq_a, sSet_a, sPar_a, dNil_a, dCons_a, setAll_n, setAll_c, sIf_a, sRet_a, sExpr_a, sNext_a, sBreak_a, sCont_a, mC_a, mVar_a, mMove_a, fz_a, m1_a, m2_a, tst_a, tNot_a, tAnd_a, tOr_a, tYes_a, mAnd_a, mOr_a, mIf_a, mChain_a, mCall_a, mCallL_a, lNil_a, lCons_a, lLend_a, res_e, res_v, res_s, slot_0, slot_s, put_a, peek_a, lstAt_a, get_v, get_o, get_b, aNil_a, aCons_a, aStar_a, mTup_a, mLst_a, mB_a, mIxS_a, mLenS_a, mIsi_a, pNone_a, pSome_a, mSl_a, sFor_a, forL_n, forL_c, whN_s, gN_a, gT_a, gsC_a, gsN_a, sAsg_a, iSeq_a, sApp_a, sSetIx_a, mLc_a, lcL_n, lcL_c, wipe_n, wipe_c, rest_n, rest_c, allVal_n, allVal_c, mRev_a, mLRg_a, mLRg2_a, lt_int, le_int, gt_int, ge_int, sub_int, add_int, mod_int, fdiv_int, pow_int', mul_ok, eq_int, ne_int, neg_int, not_bl, abs_int, int_int, int_bl, max_2, min_2, max_3, min_3, len_l, len_t, len_s, lenB_l, lenB_t, lenB_s, ix_s, ixV_a, tuple_l, tuple_t, list_l, list_t, sum_l, isi_int, isi_bool, isi_tup, ix_fr0, ix_fr1, mul_l, cat_l, cat_t, sl_l, sl_t, sl_s, line, kq4_1, kq3_1, kq2_1, kq1_1, mSl3_a, kz2_1, kz_1, iZipM_a, ken2_1, ken_1, iEnM_a, kgt_1, gTM_a, seq_l, seq_t, ksrt_1, sorted_a, kpo4_1, kpo3_1, kpo2_1, kpo1_1, mPopAt_a, Nat.reduceLeDiff, Nat.zero_le, and_self, Nat.one_ne_zero, Nat.reduceEqDiff, reduceCtorEq, Bool.not_true, Bool.not_false, decide_true, decide_false, Bool.and_self, Bool.and_true, Bool.true_and, List.length_cons, List.length_nil, List.replicate, List.append_nil, List.cons_append, List.nil_append, Nat.reduceAdd, Nat.reduceSub, List.getElem?_cons_succ, List.getElem?_cons_zero, Nat.sub_self, List.set_cons_succ, List.set_cons_zero, ↓reduceIte, Nat.reduceLeDiff, Nat.reduceLT, mo, Int.natCast_mul]
  have s := ints_map (f := fun k : Nat × Nat => ((k.1 * k.2 : Nat) : Int)) (xs := ks)
  have es : (ks.map fun k => ((k.1 * k.2 : Nat) : Int)).sum = ((W ks : Nat) : Int) := by
    unfold W; rw [← sum_cast, List.map_map]; rfl
  simp only [f_whole_of, b_whole_of, dK, kSeq_1, kSeq_2, kSeq_3, kSeq_4, kSet_1, kNx_1, kPar_1, kd2_1, kd1_1, kIf_1, kIf_2, kRt_1, kEx_1, kVar_1, kVar_2, kMov_1, kMov_2, kfz_1, kfz_2, kc_1, k1_1, k2b_1, k2a_1, kt_1, kn_1, kAnd_1, kAnd_2, kOr_1, kOr_2, kmA_1, kmA_2, kmO_1, kmO_2, kmI_1, kmI_2, kh4_1, kh3_1, kh3_2, kh2_1, kh1_1, kcb_1, kca_1, kL5_1, kL4_1, kL3_1, kL2_1, kL1_1, kl2_1, kl1_1, kl3_1, kr_1, krs_1, krs_2, kput_1, kput_2, kpk_1, klst_1, klst_2, kbor_1, ka2_1, ka1_1, ktup_1, kls_1, kB_1, kx3_1, kx2_1, kx1_1, kx4_1, kis2_1, kis_1, kp_1, ks3_1, ks2_1, ks1_1, kF_1, kF2_1, kF2_2, kF2_3, kF2_4, kF1_1, kW2_1, kW2_2, kW2_3, kW2_4, kW_1, kW_2, kg_1, ksa_1, ki_1, ki_2, ki_3, kap2_1, kap_1, ksx4_1, ksx3_1, ksx2_1, ksx1_1, kat_1, ko_1, kfin_1, kfin_2, klc2_1, klc_1, kC4_1, kC3_1, kC2_1, kC2_2, kC1_1, ksum_1, kst2_1, kst_1, kst_2, kRev_1, kRev_2, krg_1, krg2_1, krg1_1, kav_1, kav_2, krc_1, runFn_a, out_n, out_s, ini_a, iniL_n, iniL_0, iniL_e, sSeq_a, sSet_a, sPar_a, dNil_a, dCons_a, setAll_n, setAll_c, sIf_a, sRet_a, sExpr_a, sNext_a, sBreak_a, sCont_a, mC_a, mVar_a, mMove_a, fz_a, m1_a, m2_a, tst_a, tNot_a, tAnd_a, tOr_a, tYes_a, mAnd_a, mOr_a, mIf_a, mChain_a, mCall_a, mCallL_a, lNil_a, lCons_a, lLend_a, res_e, res_v, res_s, slot_0, slot_s, put_a, peek_a, lstAt_a, get_v, get_o, get_b, aNil_a, aCons_a, aStar_a, mTup_a, mLst_a, mB_a, mIxS_a, mLenS_a, mIsi_a, pNone_a, pSome_a, mSl_a, sFor_a, forL_n, forL_c, whN_s, gN_a, gT_a, gsC_a, gsN_a, sAsg_a, iSeq_a, sApp_a, sSetIx_a, mLc_a, lcL_n, lcL_c, wipe_n, wipe_c, rest_n, rest_c, allVal_n, allVal_c, mRev_a, mLRg_a, mLRg2_a, lt_int, le_int, gt_int, ge_int, sub_int, add_int, mod_int, fdiv_int, pow_int', mul_ok, eq_int, ne_int, neg_int, not_bl, abs_int, int_int, int_bl, max_2, min_2, max_3, min_3, len_l, len_t, len_s, lenB_l, lenB_t, lenB_s, ix_s, ixV_a, tuple_l, tuple_t, list_l, list_t, sum_l, isi_int, isi_bool, isi_tup, ix_fr0, ix_fr1, mul_l, cat_l, cat_t, sl_l, sl_t, sl_s, line, kq4_1, kq3_1, kq2_1, kq1_1, mSl3_a, kz2_1, kz_1, iZipM_a, ken2_1, ken_1, iEnM_a, kgt_1, gTM_a, seq_l, seq_t, ksrt_1, sorted_a, kpo4_1, kpo3_1, kpo2_1, kpo1_1, mPopAt_a, Nat.reduceLeDiff, Nat.zero_le, and_self, Nat.one_ne_zero, Nat.reduceEqDiff, reduceCtorEq, Bool.not_true, Bool.not_false, decide_true, decide_false, Bool.and_self, Bool.and_true, Bool.true_and, List.length_cons, List.length_nil, List.replicate, List.append_nil, List.cons_append, List.nil_append, Nat.reduceAdd, Nat.reduceSub, List.getElem?_cons_succ, List.getElem?_cons_zero, Nat.sub_self, List.set_cons_succ, List.set_cons_zero, ↓reduceIte, Nat.reduceLeDiff, Nat.reduceLT, l0, c1, s, es]
def srow (w : Nat) (k : Nat × Nat) : D := .tup [fr (q1 w k), .int k.2]
theorem ratio_nat (t : Nat) {l : Nat} (h0 : 0 < l) (hl : l ≤ 100000) : c_ratio_of [.int t, .int l] = ok (fr ((t : Rat) / (l : Rat))) := by
  have := ratio_of_ok (a := (t : Int)) (b := (l : Int)) (by omega) (sz_nat (n := l) 20 (by omega))
  rw [Rat.intCast_natCast, Rat.intCast_natCast] at this
  exact this
theorem shares_ok {ks : List (Nat × Nat)} (h : ∀ k ∈ ks, k.1 ≤ 1000 ∧ k.2 ≤ 1000) (hl : ks.length ≤ 1000) (h0 : 0 < W ks) (h1 : W ks ≤ 1000) : f_shares_of [dK ks] = some (.own (.lst (ks.map (srow (W ks)))), .non) := by
  have l0 : (ks.map row).length ≤ 16777216 := by simp; omega
  have wo := whole_ok h hl
  have c1 : ∀ x0, lcL (gTM (gsCons (gN 2) (gsCons (gN 3) gsNil))) tYesM (mTup (aCons (mCall c_ratio_of (aCons (mVar 2) (aCons (mVar 1) aNil))) (aCons (mVar 3) aNil))) [2, 3] (ks.map row) [x0, some (.val (.int (W ks))), none, none] = some (ks.map (srow (W ks)), [x0, some (.val (.int (W ks))), none, none]) := fun x0 =>
    lc_map fun k hk ds => by
      have r := ratio_nat k.1 h0 (by omega)
      simp only [row, srow, q1, kSeq_1, kSeq_2, kSeq_3, kSeq_4, kSet_1, kNx_1, kPar_1, kd2_1, kd1_1, kIf_1, kIf_2, kRt_1, kEx_1, kVar_1, kVar_2, kMov_1, kMov_2, kfz_1, kfz_2, kc_1, k1_1, k2b_1, k2a_1, kt_1, kn_1, kAnd_1, kAnd_2, kOr_1, kOr_2, kmA_1, kmA_2, kmO_1, kmO_2, kmI_1, kmI_2, kh4_1, kh3_1, kh3_2, kh2_1, kh1_1, kcb_1, kca_1, kL5_1, kL4_1, kL3_1, kL2_1, kL1_1, kl2_1, kl1_1, kl3_1, kr_1, krs_1, krs_2, kput_1, kput_2, kpk_1, klst_1, klst_2, kbor_1, ka2_1, ka1_1, ktup_1, kls_1, kB_1, kx3_1, kx2_1, kx1_1, kx4_1, kis2_1, kis_1, kp_1, ks3_1, ks2_1, ks1_1, kF_1, kF2_1, kF2_2, kF2_3, kF2_4, kF1_1, kW2_1, kW2_2, kW2_3, kW2_4, kW_1, kW_2, kg_1, ksa_1, ki_1, ki_2, ki_3, kap2_1, kap_1, ksx4_1, ksx3_1, ksx2_1, ksx1_1, kat_1, ko_1, kfin_1, kfin_2, klc2_1, klc_1, kC4_1, kC3_1, kC2_1, kC2_2, kC1_1, ksum_1, kst2_1, kst_1, kst_2, kRev_1, kRev_2, krg_1, krg2_1, krg1_1, kav_1, kav_2, krc_1, runFn_a, out_n, out_s, ini_a, iniL_n, iniL_0, iniL_e, sSeq_a, sSet_a, sPar_a, dNil_a, dCons_a, setAll_n, setAll_c, sIf_a, sRet_a, sExpr_a, sNext_a, sBreak_a, sCont_a, mC_a, mVar_a, mMove_a, fz_a, m1_a, m2_a, tst_a, tNot_a, tAnd_a, tOr_a, tYes_a, mAnd_a, mOr_a, mIf_a, mChain_a, mCall_a, mCallL_a, lNil_a, lCons_a, lLend_a, res_e, res_v, res_s, slot_0, slot_s, put_a, peek_a, lstAt_a, get_v, get_o, get_b, aNil_a, aCons_a, aStar_a, mTup_a, mLst_a, mB_a, mIxS_a, mLenS_a, mIsi_a, pNone_a, pSome_a, mSl_a, sFor_a, forL_n, forL_c, whN_s, gN_a, gT_a, gsC_a, gsN_a, sAsg_a, iSeq_a, sApp_a, sSetIx_a, mLc_a, lcL_n, lcL_c, wipe_n, wipe_c, rest_n, rest_c, allVal_n, allVal_c, mRev_a, mLRg_a, mLRg2_a, lt_int, le_int, gt_int, ge_int, sub_int, add_int, mod_int, fdiv_int, pow_int', mul_ok, eq_int, ne_int, neg_int, not_bl, abs_int, int_int, int_bl, max_2, min_2, max_3, min_3, len_l, len_t, len_s, lenB_l, lenB_t, lenB_s, ix_s, ixV_a, tuple_l, tuple_t, list_l, list_t, sum_l, isi_int, isi_bool, isi_tup, ix_fr0, ix_fr1, mul_l, cat_l, cat_t, sl_l, sl_t, sl_s, line, kq4_1, kq3_1, kq2_1, kq1_1, mSl3_a, kz2_1, kz_1, iZipM_a, ken2_1, ken_1, iEnM_a, kgt_1, gTM_a, seq_l, seq_t, ksrt_1, sorted_a, kpo4_1, kpo3_1, kpo2_1, kpo1_1, mPopAt_a, Nat.reduceLeDiff, Nat.zero_le, and_self, Nat.one_ne_zero, Nat.reduceEqDiff, reduceCtorEq, Bool.not_true, Bool.not_false, decide_true, decide_false, Bool.and_self, Bool.and_true, Bool.true_and, List.length_cons, List.length_nil, List.replicate, List.append_nil, List.cons_append, List.nil_append, Nat.reduceAdd, Nat.reduceSub, List.getElem?_cons_succ, List.getElem?_cons_zero, Nat.sub_self, List.set_cons_succ, List.set_cons_zero, ↓reduceIte, Nat.reduceLeDiff, Nat.reduceLT, r]
  unfold dK at wo ⊢
  simp only [f_shares_of, b_shares_of, kSeq_1, kSeq_2, kSeq_3, kSeq_4, kSet_1, kNx_1, kPar_1, kd2_1, kd1_1, kIf_1, kIf_2, kRt_1, kEx_1, kVar_1, kVar_2, kMov_1, kMov_2, kfz_1, kfz_2, kc_1, k1_1, k2b_1, k2a_1, kt_1, kn_1, kAnd_1, kAnd_2, kOr_1, kOr_2, kmA_1, kmA_2, kmO_1, kmO_2, kmI_1, kmI_2, kh4_1, kh3_1, kh3_2, kh2_1, kh1_1, kcb_1, kca_1, kL5_1, kL4_1, kL3_1, kL2_1, kL1_1, kl2_1, kl1_1, kl3_1, kr_1, krs_1, krs_2, kput_1, kput_2, kpk_1, klst_1, klst_2, kbor_1, ka2_1, ka1_1, ktup_1, kls_1, kB_1, kx3_1, kx2_1, kx1_1, kx4_1, kis2_1, kis_1, kp_1, ks3_1, ks2_1, ks1_1, kF_1, kF2_1, kF2_2, kF2_3, kF2_4, kF1_1, kW2_1, kW2_2, kW2_3, kW2_4, kW_1, kW_2, kg_1, ksa_1, ki_1, ki_2, ki_3, kap2_1, kap_1, ksx4_1, ksx3_1, ksx2_1, ksx1_1, kat_1, ko_1, kfin_1, kfin_2, klc2_1, klc_1, kC4_1, kC3_1, kC2_1, kC2_2, kC1_1, ksum_1, kst2_1, kst_1, kst_2, kRev_1, kRev_2, krg_1, krg2_1, krg1_1, kav_1, kav_2, krc_1, runFn_a, out_n, out_s, ini_a, iniL_n, iniL_0, iniL_e, sSeq_a, sSet_a, sPar_a, dNil_a, dCons_a, setAll_n, setAll_c, sIf_a, sRet_a, sExpr_a, sNext_a, sBreak_a, sCont_a, mC_a, mVar_a, mMove_a, fz_a, m1_a, m2_a, tst_a, tNot_a, tAnd_a, tOr_a, tYes_a, mAnd_a, mOr_a, mIf_a, mChain_a, mCall_a, mCallL_a, lNil_a, lCons_a, lLend_a, res_e, res_v, res_s, slot_0, slot_s, put_a, peek_a, lstAt_a, get_v, get_o, get_b, aNil_a, aCons_a, aStar_a, mTup_a, mLst_a, mB_a, mIxS_a, mLenS_a, mIsi_a, pNone_a, pSome_a, mSl_a, sFor_a, forL_n, forL_c, whN_s, gN_a, gT_a, gsC_a, gsN_a, sAsg_a, iSeq_a, sApp_a, sSetIx_a, mLc_a, lcL_n, lcL_c, wipe_n, wipe_c, rest_n, rest_c, allVal_n, allVal_c, mRev_a, mLRg_a, mLRg2_a, lt_int, le_int, gt_int, ge_int, sub_int, add_int, mod_int, fdiv_int, pow_int', mul_ok, eq_int, ne_int, neg_int, not_bl, abs_int, int_int, int_bl, max_2, min_2, max_3, min_3, len_l, len_t, len_s, lenB_l, lenB_t, lenB_s, ix_s, ixV_a, tuple_l, tuple_t, list_l, list_t, sum_l, isi_int, isi_bool, isi_tup, ix_fr0, ix_fr1, mul_l, cat_l, cat_t, sl_l, sl_t, sl_s, line, kq4_1, kq3_1, kq2_1, kq1_1, mSl3_a, kz2_1, kz_1, iZipM_a, ken2_1, ken_1, iEnM_a, kgt_1, gTM_a, seq_l, seq_t, ksrt_1, sorted_a, kpo4_1, kpo3_1, kpo2_1, kpo1_1, mPopAt_a, Nat.reduceLeDiff, Nat.zero_le, and_self, Nat.one_ne_zero, Nat.reduceEqDiff, reduceCtorEq, Bool.not_true, Bool.not_false, decide_true, decide_false, Bool.and_self, Bool.and_true, Bool.true_and, List.length_cons, List.length_nil, List.replicate, List.append_nil, List.cons_append, List.nil_append, Nat.reduceAdd, Nat.reduceSub, List.getElem?_cons_succ, List.getElem?_cons_zero, Nat.sub_self, List.set_cons_succ, List.set_cons_zero, ↓reduceIte, Nat.reduceLeDiff, Nat.reduceLT, e_ratio_of, wo, l0, c1]
/-! ### a share and its powers -/
theorem nat_ne {l : Nat} (h : 0 < l) : (l : Rat) ≠ 0 := by have := Rat.natCast_pos.mpr h; grind
theorem q_rng {k l : Nat} (h : k ≤ l) (hl : 0 < l) : 0 ≤ (k : Rat) / (l : Rat) ∧ (k : Rat) / (l : Rat) ≤ 1 := by
  have hl' : (0 : Rat) < (l : Rat) := Rat.natCast_pos.mpr hl
  have hk : (0 : Rat) ≤ (k : Rat) := Rat.natCast_nonneg
  have hkl : (k : Rat) ≤ (l : Rat) := Rat.natCast_le_natCast.mpr h
  have hi : 0 < (l : Rat)⁻¹ := Rat.inv_pos.mpr hl'
  constructor
  · rw [Rat.div_def]; exact Rat.mul_nonneg hk (by grind)
  · have : (k : Rat) * (l : Rat)⁻¹ ≤ (l : Rat) * (l : Rat)⁻¹ := Rat.mul_le_mul_of_nonneg_right hkl (by grind)
    rw [Rat.mul_inv_cancel _ (by grind)] at this
    rw [Rat.div_def]; exact this
/-- a share over w -/
structure Sh (w : Nat) (q : Rat) : Prop where
  dv : Dv w q
  pos : 0 < q
  le : q ≤ 1
theorem sh_q1 {w : Nat} {k : Nat × Nat} (h0 : 0 < k.1) (h : k.1 ≤ w) : Sh w (q1 w k) := by
  have hw : 0 < w := by omega
  have r := q_rng h hw
  refine ⟨?_, ?_, r.2⟩
  · unfold Dv q1
    rw [← Rat.intCast_natCast k.1, ← Rat.mkRat_eq_div, Rat.den_mkRat, if_neg (by omega)]
    exact Nat.div_dvd_of_dvd (Nat.gcd_dvd_left _ _)
  · unfold q1; rw [Rat.div_def]
    exact Rat.mul_pos (Rat.natCast_pos.mpr h0) (Rat.inv_pos.mpr (Rat.natCast_pos.mpr hw))
theorem pow_le1 {r : Rat} (h0 : 0 ≤ r) (h1 : r ≤ 1) : ∀ k : Nat, r ^ k ≤ 1
  | 0 => by rw [Rat.pow_zero]; exact Rat.le_refl
  | k + 1 => by
    have := pow_le1 h0 h1 k
    have h2 : r ^ k * r ≤ 1 * r := Rat.mul_le_mul_of_nonneg_right this h0
    rw [Rat.pow_succ]; grind
theorem pow_anti {r : Rat} (h0 : 0 ≤ r) (h1 : r ≤ 1) (d m : Nat) : r ^ (d + m) ≤ r ^ d := by
  induction m with
  | zero => exact Rat.le_refl
  | succ m ih =>
    have p := Rat.pow_nonneg (n := d + m) h0
    have h2 : r ^ (d + m) * r ≤ r ^ (d + m) * 1 := Rat.mul_le_mul_of_nonneg_left h1 p
    have e : r ^ (d + (m + 1)) = r ^ (d + m) * r := Rat.pow_succ r (d + m)
    grind
theorem wpow {w : Nat} (hw : w ≤ 1000) (d : Nat) : w ^ d < 2 ^ (10 * d + 1) := by
  have h1 : w ^ d ≤ (2 ^ 10) ^ d := Nat.pow_le_pow_left (by omega) d
  rw [← Nat.pow_mul] at h1
  have : 0 < 2 ^ (10 * d) := Nat.two_pow_pos _
  rw [Nat.pow_succ]; omega
theorem two0 : (2 : Rat) ^ 0 = 1 := Rat.pow_zero 2
theorem Sh.fs {w : Nat} {q : Rat} (h : Sh w q) (hw : w ≤ 1000) (h0 : 0 < w) : Fs 10 q :=
  h.dv.fs (m := 0) (n := 10) h0 (by omega) (by rw [two0]; exact h.le) (by rw [two0]; have := h.pos; grind)
theorem one_fs : Fs 1 (1 : Rat) := ⟨by decide, by decide⟩
theorem one_dv {w : Nat} : Dv w (1 : Rat) := by unfold Dv; simp
theorem Sh.rest {w : Nat} {q : Rat} (h : Sh w q) (hw : w ≤ 1000) (h0 : 0 < w) : Fs 10 (1 - q) ∧ Dv w (1 - q) ∧ 0 ≤ 1 - q ∧ 1 - q ≤ 1 := by
  have l := h.le
  have p := h.pos
  have d : Dv w (1 - q) := one_dv.sub h.dv
  refine ⟨d.fs (m := 0) (n := 10) h0 (by omega) (by rw [two0]; grind) (by rw [two0]; grind), d, by grind, by grind⟩
theorem rest_pow {w : Nat} {q : Rat} (h : Sh w q) (hw : w ≤ 1000) (h0 : 0 < w) (d : Nat) : Fs (10 * d + 1) ((1 - q) ^ d) ∧ Dv (w ^ d) ((1 - q) ^ d) ∧ 0 ≤ (1 - q) ^ d ∧ (1 - q) ^ d ≤ 1 := by
  obtain ⟨a, b, c, e⟩ := h.rest hw h0
  have dv := b.pow d
  have p := Rat.pow_nonneg (n := d) c
  have l := pow_le1 c e d
  have := Nat.pow_pos (n := d) h0
  refine ⟨dv.fs (m := 0) this (wpow hw d) (by rw [two0]; exact l) (by rw [two0]; grind), dv, p, l⟩
theorem minus1_ok {w : Nat} {q : Rat} (h : Sh w q) (hw : w ≤ 1000) (h0 : 0 < w) : c_minus_of [fr 1, fr q] = ok (fr (1 - q)) := minus_of_ok one_fs (h.fs hw h0)
theorem restpow_ok {w : Nat} {q : Rat} (h : Sh w q) (hw : w ≤ 1000) (h0 : 0 < w) {d : Nat} (hd : d ≤ 200) : c_power_of [fr (1 - q), .int d] = ok (fr ((1 - q) ^ d)) :=
  power_of_ok (h.rest hw h0).1 (by omega) (by omega) (by decide)
theorem fr_int (a : Int) : D.tup [.int a, .int 1] = fr (a : Rat) := rfl
theorem fr_nat (a : Nat) : D.tup [.int (a : Int), .int 1] = fr (a : Rat) := rfl
theorem nat_fs {a k : Nat} (h : a < 2 ^ k) (hk : 0 < k) : Fs k (a : Rat) := by
  constructor
  · show Sz k ((a : Rat).num); rw [Rat.num_natCast]; exact sz_nat k h
  · show Sz k (((a : Rat).den : Nat) : Int); rw [Rat.den_natCast]; unfold Sz
    have : 2 ^ 1 ≤ 2 ^ k := Nat.pow_le_pow_right (by decide) hk
    simp; omega
end
end Wk64

set_option Elab.async false
set_option linter.all false
set_option maxRecDepth 100000
namespace Wk64
open PySem Cb
noncomputable section
theorem sum_le {B : Rat} (hB : 0 ≤ B) : ∀ {ls : List Rat}, (∀ x ∈ ls, x ≤ B) → ls.sum ≤ (ls.length : Rat) * B
  | [], _ => by simp [Rat.zero_mul]
  | a :: r, h => by
    have h1 := h a (List.mem_cons_self ..)
    have h2 := sum_le hB (ls := r) fun x hx => h x (List.mem_cons_of_mem _ hx)
    have e : (((a :: r).length : Nat) : Rat) = ((r.length : Nat) : Rat) + 1 := by
      rw [List.length_cons, Rat.natCast_add]; rfl
    rw [List.sum_cons, e]; grind
theorem two20 : (2 : Rat) ^ 20 = 1048576 := by decide +kernel
theorem nice_of {V n : Nat} {ls : List Rat} (h : ∀ x ∈ ls, Dv V x ∧ 0 ≤ x ∧ x ≤ 65536) (hl : ls.length ≤ 12) (h0 : 0 < V) (hn : V < 2 ^ n) : Nice V n 20 ls := by
  refine ⟨fun x hx => (h x hx).1, fun x hx => (h x hx).2.1, ?_, h0, hn⟩
  have := sum_le (B := 65536) (by decide) fun x hx => (h x hx).2.2
  have hc : ((ls.length : Nat) : Rat) ≤ ((12 : Nat) : Rat) := Rat.natCast_le_natCast.mpr hl
  have h3 : ((ls.length : Nat) : Rat) * 65536 ≤ ((12 : Nat) : Rat) * 65536 := Rat.mul_le_mul_of_nonneg_right hc (by decide)
  have h4 : ((12 : Nat) : Rat) * 65536 ≤ 1048576 := by decide +kernel
  rw [two20]; grind
theorem le_W : ∀ {ks : List (Nat × Nat)}, (∀ k ∈ ks, 1 ≤ k.2) → ∀ k ∈ ks, k.1 ≤ W ks
  | a :: r, h, k, hk => by
    have e : W (a :: r) = a.1 * a.2 + W r := rfl
    rcases List.mem_cons.mp hk with rfl | hk
    · have h1 := h k (List.mem_cons_self ..)
      have : k.1 * 1 ≤ k.1 * k.2 := Nat.mul_le_mul_left _ h1
      omega
    · have := le_W (fun x hx => h x (List.mem_cons_of_mem _ hx)) k hk
      omega
def mk (w d : Nat) (k : Nat × Nat) : Rat := (k.2 : Rat) * (1 - (1 - q1 w k) ^ d)
/-- what is asked of one row -/
structure Rw (w : Nat) (k : Nat × Nat) : Prop where
  sh : Sh w (q1 w k)
  m : k.2 ≤ 256
theorem natdv {V : Nat} (a : Nat) : Dv V (a : Rat) := by unfold Dv; simp
theorem mk_fact {w d : Nat} {k : Nat × Nat} (h : Rw w k) (hw : w ≤ 1000) (h0 : 0 < w) : Fs (10 * d + 1) (1 - (1 - q1 w k) ^ d) ∧ Dv (w ^ d) (mk w d k) ∧ 0 ≤ mk w d k ∧ mk w d k ≤ 65536 := by
  obtain ⟨a, b, c, e⟩ := rest_pow h.sh hw h0 d
  have d1 : Dv (w ^ d) (1 - (1 - q1 w k) ^ d) := one_dv.sub b
  have p : 0 ≤ 1 - (1 - q1 w k) ^ d := by grind
  have hk : (0 : Rat) ≤ (k.2 : Rat) := Rat.natCast_nonneg
  have hk2 : (k.2 : Rat) ≤ ((256 : Nat) : Rat) := Rat.natCast_le_natCast.mpr h.m
  refine ⟨d1.fs (m := 0) (Nat.pow_pos h0) (wpow hw d) (by rw [two0]; grind) (by rw [two0]; grind), ?_, Rat.mul_nonneg hk p, ?_⟩
  · have := (natdv (V := 1) k.2).mul d1
    rw [Nat.one_mul] at this; exact this
  · have : mk w d k ≤ (k.2 : Rat) * 1 := Rat.mul_le_mul_of_nonneg_left (by grind) hk
    have h4 : ((256 : Nat) : Rat) ≤ 65536 := by decide +kernel
    grind
theorem mk_loop {w d : Nat} (hw : w ≤ 1000) (h0 : 0 < w) (hd : d ≤ 200) (x0 : Option DV) : ∀ (ks : List (Nat × Nat)) (rs : List Rat) (o3 o4 o5 : Option DV), (∀ k ∈ ks, Rw w k) → rs.length + ks.length ≤ 1000 → ∃ p3 p4 p5 : Option DV,
    forL (gTM (gsCons (gN 3) (gsCons (gN 4) gsNil))) (sSeq (sSet 5 (mCall c_power_of (aCons (mCall c_minus_of (aCons (mTup (aCons (mC (.int 1)) (aCons (mC (.int 1)) aNil))) (aCons (mVar 3) aNil))) (aCons (mVar 1) aNil))))
    (sApp 2 (mCall c_times_of (aCons (mTup (aCons (mVar 4) (aCons (mC (.int 1)) aNil))) (aCons (mCall c_minus_of (aCons (mTup (aCons (mC (.int 1)) (aCons (mC (.int 1)) aNil))) (aCons (mVar 5) aNil))) aNil))))) (ks.map (srow w)) [x0, some (.val (.int d)), some (.own (.lst (rs.map fr))), o3, o4, o5] =
    some (.nx [x0, some (.val (.int d)), some (.own (.lst ((rs ++ ks.map (mk w d)).map fr))), p3, p4, p5])
  | [], rs, o3, o4, o5, _, _ => ⟨o3, o4, o5, by simp only [List.map_nil, forL_n, List.append_nil]⟩
  | k :: ks, rs, o3, o4, o5, h, hl => by
    have hk := h k (List.mem_cons_self ..)
    have f := mk_fact (d := d) hk hw h0
    have f2 := rest_pow hk.sh hw h0 d
    have m1 := minus1_ok hk.sh hw h0
    have p1 := restpow_ok hk.sh hw h0 hd
    have m2' := minus_of_ok one_fs f2.1 (by omega)
    have t1 := times_of_ok (nat_fs (a := k.2) (k := 9) (by have := hk.m; omega) (by decide)) f.1 (by omega)
    have er : rs.map fr ++ [fr ((k.2 : Rat) * (1 - (1 - q1 w k) ^ d))] = (rs ++ [mk w d k]).map fr := by simp [mk]
    obtain ⟨p3, p4, p5, ih⟩ := mk_loop hw h0 hd x0 ks (rs ++ [mk w d k]) (some (.val (fr (q1 w k)))) (some (.val (.int k.2))) (some (.val (fr ((1 - q1 w k) ^ d)))) (fun x hx => h x (List.mem_cons_of_mem _ hx)) (by simp at hl ⊢; omega)
    refine ⟨p3, p4, p5, ?_⟩
    have ea : rs ++ (k :: ks).map (mk w d) = rs ++ [mk w d k] ++ ks.map (mk w d) := by simp
    have ll : rs.length < 16777216 := by omega
    rw [ea, ← ih]
    simp only [List.map_cons, srow, kSeq_1, kSeq_2, kSeq_3, kSeq_4, kSet_1, kNx_1, kPar_1, kd2_1, kd1_1, kIf_1, kIf_2, kRt_1, kEx_1, kVar_1, kVar_2, kMov_1, kMov_2, kfz_1, kfz_2, kc_1, k1_1, k2b_1, k2a_1, kt_1, kn_1, kAnd_1, kAnd_2, kOr_1, kOr_2, kmA_1, kmA_2, kmO_1, kmO_2, kmI_1, kmI_2, kh4_1, kh3_1, kh3_2, kh2_1, kh1_1, kcb_1, kca_1, kL5_1, kL4_1, kL3_1, kL2_1, kL1_1, kl2_1, kl1_1, kl3_1, kr_1, krs_1, krs_2, kput_1, kput_2, kpk_1, klst_1, klst_2, kbor_1, ka2_1, ka1_1, ktup_1, kls_1, kB_1, kx3_1, kx2_1, kx1_1, kx4_1, kis2_1, kis_1, kp_1, ks3_1, ks2_1, ks1_1, kF_1, kF2_1, kF2_2, kF2_3, kF2_4, kF1_1, kW2_1, kW2_2, kW2_3, kW2_4, kW_1, kW_2, kg_1, ksa_1, ki_1, ki_2, ki_3, kap2_1, kap_1, ksx4_1, ksx3_1, ksx2_1, ksx1_1, kat_1, ko_1, kfin_1, kfin_2, klc2_1, klc_1, kC4_1, kC3_1, kC2_1, kC2_2, kC1_1, ksum_1, kst2_1, kst_1, kst_2, kRev_1, kRev_2, krg_1, krg2_1, krg1_1, kav_1, kav_2, krc_1, runFn_a, out_n, out_s, ini_a, iniL_n, iniL_0, iniL_e, sSeq_a, sSet_a, sPar_a, dNil_a, dCons_a, setAll_n, setAll_c, sIf_a, sRet_a, sExpr_a, sNext_a, sBreak_a, sCont_a, mC_a, mVar_a, mMove_a, fz_a, m1_a, m2_a, tst_a, tNot_a, tAnd_a, tOr_a, tYes_a, mAnd_a, mOr_a, mIf_a, mChain_a, mCall_a, mCallL_a, lNil_a, lCons_a, lLend_a, res_e, res_v, res_s, slot_0, slot_s, put_a, peek_a, lstAt_a, get_v, get_o, get_b, aNil_a, aCons_a, aStar_a, mTup_a, mLst_a, mB_a, mIxS_a, mLenS_a, mIsi_a, pNone_a, pSome_a, mSl_a, sFor_a, forL_n, forL_c, whN_s, gN_a, gT_a, gsC_a, gsN_a, sAsg_a, iSeq_a, sApp_a, sSetIx_a, mLc_a, lcL_n, lcL_c, wipe_n, wipe_c, rest_n, rest_c, allVal_n, allVal_c, mRev_a, mLRg_a, mLRg2_a, lt_int, le_int, gt_int, ge_int, sub_int, add_int, mod_int, fdiv_int, pow_int', mul_ok, eq_int, ne_int, neg_int, not_bl, abs_int, int_int, int_bl, max_2, min_2, max_3, min_3, len_l, len_t, len_s, lenB_l, lenB_t, lenB_s, ix_s, ixV_a, tuple_l, tuple_t, list_l, list_t, sum_l, isi_int, isi_bool, isi_tup, ix_fr0, ix_fr1, mul_l, cat_l, cat_t, sl_l, sl_t, sl_s, line, kq4_1, kq3_1, kq2_1, kq1_1, mSl3_a, kz2_1, kz_1, iZipM_a, ken2_1, ken_1, iEnM_a, kgt_1, gTM_a, seq_l, seq_t, ksrt_1, sorted_a, kpo4_1, kpo3_1, kpo2_1, kpo1_1, mPopAt_a, Nat.reduceLeDiff, Nat.zero_le, and_self, Nat.one_ne_zero, Nat.reduceEqDiff, reduceCtorEq, Bool.not_true, Bool.not_false, decide_true, decide_false, Bool.and_self, Bool.and_true, Bool.true_and, List.length_cons, List.length_nil, List.replicate, List.append_nil, List.cons_append, List.nil_append, Nat.reduceAdd, Nat.reduceSub, List.getElem?_cons_succ, List.getElem?_cons_zero, Nat.sub_self, List.set_cons_succ, List.set_cons_zero, ↓reduceIte, Nat.reduceLeDiff, Nat.reduceLT, fr_one, fr_nat, m1, p1, m2', t1, List.length_map, ll, er]
theorem Ki.rw {ks : List (Nat × Nat)} (h : Ki ks) : ∀ k ∈ ks, Rw (W ks) k := fun k hk => by
  have hw := h.w k hk
  have hm := h.m k hk
  exact ⟨sh_q1 (by omega) (le_W (fun x hx => (h.m x hx).1) k hk), hm.2⟩
theorem W_pos {ks : List (Nat × Nat)} (h : Ki ks) : 0 < W ks := by
  obtain ⟨k, r, e⟩ : ∃ k r, ks = k :: r := by
    cases ks with
    | nil => exact absurd rfl h.ne
    | cons k r => exact ⟨k, r, rfl⟩
  have hk : k ∈ ks := by rw [e]; exact List.mem_cons_self ..
  have := le_W (fun x hx => (h.m x hx).1) k hk
  have := (h.w k hk).1
  omega
theorem c_draws_ok {d m : Nat} (h : d ≤ m) : c_check_draws [.int d, .int m] = ok .non := by
  have e : decide ((0 : Int) ≤ (d : Int) ∧ (d : Int) ≤ (m : Int)) = true := by simp; omega
  simp only [c_check_draws, cb_check_draws, kSeq_1, kSeq_2, kSeq_3, kSeq_4, kSet_1, kNx_1, kPar_1, kd2_1, kd1_1, kIf_1, kIf_2, kRt_1, kEx_1, kVar_1, kVar_2, kMov_1, kMov_2, kfz_1, kfz_2, kc_1, k1_1, k2b_1, k2a_1, kt_1, kn_1, kAnd_1, kAnd_2, kOr_1, kOr_2, kmA_1, kmA_2, kmO_1, kmO_2, kmI_1, kmI_2, kh4_1, kh3_1, kh3_2, kh2_1, kh1_1, kcb_1, kca_1, kL5_1, kL4_1, kL3_1, kL2_1, kL1_1, kl2_1, kl1_1, kl3_1, kr_1, krs_1, krs_2, kput_1, kput_2, kpk_1, klst_1, klst_2, kbor_1, ka2_1, ka1_1, ktup_1, kls_1, kB_1, kx3_1, kx2_1, kx1_1, kx4_1, kis2_1, kis_1, kp_1, ks3_1, ks2_1, ks1_1, kF_1, kF2_1, kF2_2, kF2_3, kF2_4, kF1_1, kW2_1, kW2_2, kW2_3, kW2_4, kW_1, kW_2, kg_1, ksa_1, ki_1, ki_2, ki_3, kap2_1, kap_1, ksx4_1, ksx3_1, ksx2_1, ksx1_1, kat_1, ko_1, kfin_1, kfin_2, klc2_1, klc_1, kC4_1, kC3_1, kC2_1, kC2_2, kC1_1, ksum_1, kst2_1, kst_1, kst_2, kRev_1, kRev_2, krg_1, krg2_1, krg1_1, kav_1, kav_2, krc_1, runFn_a, out_n, out_s, ini_a, iniL_n, iniL_0, iniL_e, sSeq_a, sSet_a, sPar_a, dNil_a, dCons_a, setAll_n, setAll_c, sIf_a, sRet_a, sExpr_a, sNext_a, sBreak_a, sCont_a, mC_a, mVar_a, mMove_a, fz_a, m1_a, m2_a, tst_a, tNot_a, tAnd_a, tOr_a, tYes_a, mAnd_a, mOr_a, mIf_a, mChain_a, mCall_a, mCallL_a, lNil_a, lCons_a, lLend_a, res_e, res_v, res_s, slot_0, slot_s, put_a, peek_a, lstAt_a, get_v, get_o, get_b, aNil_a, aCons_a, aStar_a, mTup_a, mLst_a, mB_a, mIxS_a, mLenS_a, mIsi_a, pNone_a, pSome_a, mSl_a, sFor_a, forL_n, forL_c, whN_s, gN_a, gT_a, gsC_a, gsN_a, sAsg_a, iSeq_a, sApp_a, sSetIx_a, mLc_a, lcL_n, lcL_c, wipe_n, wipe_c, rest_n, rest_c, allVal_n, allVal_c, mRev_a, mLRg_a, mLRg2_a, lt_int, le_int, gt_int, ge_int, sub_int, add_int, mod_int, fdiv_int, pow_int', mul_ok, eq_int, ne_int, neg_int, not_bl, abs_int, int_int, int_bl, max_2, min_2, max_3, min_3, len_l, len_t, len_s, lenB_l, lenB_t, lenB_s, ix_s, ixV_a, tuple_l, tuple_t, list_l, list_t, sum_l, isi_int, isi_bool, isi_tup, ix_fr0, ix_fr1, mul_l, cat_l, cat_t, sl_l, sl_t, sl_s, line, kq4_1, kq3_1, kq2_1, kq1_1, mSl3_a, kz2_1, kz_1, iZipM_a, ken2_1, ken_1, iEnM_a, kgt_1, gTM_a, seq_l, seq_t, ksrt_1, sorted_a, kpo4_1, kpo3_1, kpo2_1, kpo1_1, mPopAt_a, Nat.reduceLeDiff, Nat.zero_le, and_self, Nat.one_ne_zero, Nat.reduceEqDiff, reduceCtorEq, Bool.not_true, Bool.not_false, decide_true, decide_false, Bool.and_self, Bool.and_true, Bool.true_and, List.length_cons, List.length_nil, List.replicate, List.append_nil, List.cons_append, List.nil_append, Nat.reduceAdd, Nat.reduceSub, List.getElem?_cons_succ, List.getElem?_cons_zero, Nat.sub_self, List.set_cons_succ, List.set_cons_zero, ↓reduceIte, Nat.reduceLeDiff, Nat.reduceLT, is_integer_ok, e]
theorem mean_kinds_ok {ks : List (Nat × Nat)} (h : Ki ks) (hW : W ks ≤ 1000) {d : Nat} (hd : d ≤ 200) : f_mean_kinds [dK ks, .int d] = ok (fr (ks.map (mk (W ks) d)).sum) := by
  have h0 := W_pos h
  obtain ⟨p3, p4, p5, hl⟩ := mk_loop hW h0 hd (some (.val (dK ks))) ks [] none none none h.rw (by have := h.len; simp; omega)
  have s := shares_ok (ks := ks) (fun k hk => ⟨(h.w k hk).2, by have := (h.m k hk).2; omega⟩) (by have := h.len; omega) h0 hW
  have c := c_draws_ok (d := d) (m := 400) (by omega)
  have N : Nice (W ks ^ d) (10 * d + 1) 20 (ks.map (mk (W ks) d)) := nice_of (fun x hx => by
    obtain ⟨k, hk, rfl⟩ := List.mem_map.mp hx
    exact (mk_fact (h.rw k hk) hW h0).2) (by rw [List.length_map]; exact h.len) (Nat.pow_pos h0) (wpow hW d)
  have t := total_of_ok N (by omega) (by rw [List.length_map]; have := h.len; omega)
  have e4 : ((400 : Nat) : Int) = 400 := rfl
  rw [e4] at c
  rw [List.nil_append, List.map_nil] at hl
  simp only [f_mean_kinds, b_mean_kinds, e_check_draws, e_power_of, e_minus_of, e_times_of, e_total_of, kSeq_1, kSeq_2, kSeq_3, kSeq_4, kSet_1, kNx_1, kPar_1, kd2_1, kd1_1, kIf_1, kIf_2, kRt_1, kEx_1, kVar_1, kVar_2, kMov_1, kMov_2, kfz_1, kfz_2, kc_1, k1_1, k2b_1, k2a_1, kt_1, kn_1, kAnd_1, kAnd_2, kOr_1, kOr_2, kmA_1, kmA_2, kmO_1, kmO_2, kmI_1, kmI_2, kh4_1, kh3_1, kh3_2, kh2_1, kh1_1, kcb_1, kca_1, kL5_1, kL4_1, kL3_1, kL2_1, kL1_1, kl2_1, kl1_1, kl3_1, kr_1, krs_1, krs_2, kput_1, kput_2, kpk_1, klst_1, klst_2, kbor_1, ka2_1, ka1_1, ktup_1, kls_1, kB_1, kx3_1, kx2_1, kx1_1, kx4_1, kis2_1, kis_1, kp_1, ks3_1, ks2_1, ks1_1, kF_1, kF2_1, kF2_2, kF2_3, kF2_4, kF1_1, kW2_1, kW2_2, kW2_3, kW2_4, kW_1, kW_2, kg_1, ksa_1, ki_1, ki_2, ki_3, kap2_1, kap_1, ksx4_1, ksx3_1, ksx2_1, ksx1_1, kat_1, ko_1, kfin_1, kfin_2, klc2_1, klc_1, kC4_1, kC3_1, kC2_1, kC2_2, kC1_1, ksum_1, kst2_1, kst_1, kst_2, kRev_1, kRev_2, krg_1, krg2_1, krg1_1, kav_1, kav_2, krc_1, runFn_a, out_n, out_s, ini_a, iniL_n, iniL_0, iniL_e, sSeq_a, sSet_a, sPar_a, dNil_a, dCons_a, setAll_n, setAll_c, sIf_a, sRet_a, sExpr_a, sNext_a, sBreak_a, sCont_a, mC_a, mVar_a, mMove_a, fz_a, m1_a, m2_a, tst_a, tNot_a, tAnd_a, tOr_a, tYes_a, mAnd_a, mOr_a, mIf_a, mChain_a, mCall_a, mCallL_a, lNil_a, lCons_a, lLend_a, res_e, res_v, res_s, slot_0, slot_s, put_a, peek_a, lstAt_a, get_v, get_o, get_b, aNil_a, aCons_a, aStar_a, mTup_a, mLst_a, mB_a, mIxS_a, mLenS_a, mIsi_a, pNone_a, pSome_a, mSl_a, sFor_a, forL_n, forL_c, whN_s, gN_a, gT_a, gsC_a, gsN_a, sAsg_a, iSeq_a, sApp_a, sSetIx_a, mLc_a, lcL_n, lcL_c, wipe_n, wipe_c, rest_n, rest_c, allVal_n, allVal_c, mRev_a, mLRg_a, mLRg2_a, lt_int, le_int, gt_int, ge_int, sub_int, add_int, mod_int, fdiv_int, pow_int', mul_ok, eq_int, ne_int, neg_int, not_bl, abs_int, int_int, int_bl, max_2, min_2, max_3, min_3, len_l, len_t, len_s, lenB_l, lenB_t, lenB_s, ix_s, ixV_a, tuple_l, tuple_t, list_l, list_t, sum_l, isi_int, isi_bool, isi_tup, ix_fr0, ix_fr1, mul_l, cat_l, cat_t, sl_l, sl_t, sl_s, line, kq4_1, kq3_1, kq2_1, kq1_1, mSl3_a, kz2_1, kz_1, iZipM_a, ken2_1, ken_1, iEnM_a, kgt_1, gTM_a, seq_l, seq_t, ksrt_1, sorted_a, kpo4_1, kpo3_1, kpo2_1, kpo1_1, mPopAt_a, Nat.reduceLeDiff, Nat.zero_le, and_self, Nat.one_ne_zero, Nat.reduceEqDiff, reduceCtorEq, Bool.not_true, Bool.not_false, decide_true, decide_false, Bool.and_self, Bool.and_true, Bool.true_and, List.length_cons, List.length_nil, List.replicate, List.append_nil, List.cons_append, List.nil_append, Nat.reduceAdd, Nat.reduceSub, List.getElem?_cons_succ, List.getElem?_cons_zero, Nat.sub_self, List.set_cons_succ, List.set_cons_zero, ↓reduceIte, Nat.reduceLeDiff, Nat.reduceLT, check_kinds_ok h, c, s, hl, t]
end
end Wk64

set_option Elab.async false
set_option linter.all false
set_option maxRecDepth 100000
namespace Wk64
open PySem Cb
noncomputable section
def un (w d : Nat) (k : Nat × Nat) : Rat := (k.2 : Rat) * q1 w k * (1 - q1 w k) ^ d
theorem un_fact {w d : Nat} {k : Nat × Nat} (h : Rw w k) (hw : w ≤ 1000) (h0 : 0 < w) : Fs 19 ((k.2 : Rat) * q1 w k) ∧ Dv (w ^ (d + 1)) (un w d k) ∧ 0 ≤ un w d k ∧ un w d k ≤ 256 := by
  obtain ⟨a, b, c, e⟩ := rest_pow h.sh hw h0 d
  have hk : (0 : Rat) ≤ (k.2 : Rat) := Rat.natCast_nonneg
  have hk2 : (k.2 : Rat) ≤ ((256 : Nat) : Rat) := Rat.natCast_le_natCast.mpr h.m
  have p := h.sh.pos
  have l := h.sh.le
  have g1 : 0 ≤ (k.2 : Rat) * q1 w k := Rat.mul_nonneg hk (by grind)
  have g2 : (k.2 : Rat) * q1 w k ≤ (k.2 : Rat) * 1 := Rat.mul_le_mul_of_nonneg_left l hk
  have h4 : ((256 : Nat) : Rat) = 256 := by decide +kernel
  have d1 : Dv w ((k.2 : Rat) * q1 w k) := by
    have := (natdv (V := 1) k.2).mul h.sh.dv
    rw [Nat.one_mul] at this; exact this
  have t8 : (2 : Rat) ^ 8 = 256 := by decide +kernel
  refine ⟨(d1.fs (m := 8) (n := 10) h0 (by omega) (by rw [t8]; grind) (by rw [t8]; grind)).mono (by decide), ?_, Rat.mul_nonneg g1 c, ?_⟩
  · have := d1.mul b
    rw [show w * w ^ d = w ^ (d + 1) by rw [Nat.pow_succ, Nat.mul_comm]] at this
    exact this
  · have : (k.2 : Rat) * q1 w k * (1 - q1 w k) ^ d ≤ (k.2 : Rat) * q1 w k * 1 := Rat.mul_le_mul_of_nonneg_left e g1
    unfold un; grind
theorem un_loop {w d : Nat} (hw : w ≤ 1000) (h0 : 0 < w) (hd : d ≤ 200) (x0 : Option DV) : ∀ (ks : List (Nat × Nat)) (rs : List Rat) (o3 o4 : Option DV), (∀ k ∈ ks, Rw w k) → rs.length + ks.length ≤ 1000 → ∃ p3 p4 : Option DV,
    forL (gTM (gsCons (gN 3) (gsCons (gN 4) gsNil))) (sApp 2 (mCall c_times_of (aCons (mCall c_times_of (aCons (mTup (aCons (mVar 4) (aCons (mC (.int 1)) aNil))) (aCons (mVar 3) aNil))) (aCons (mCall c_power_of (aCons (mCall c_minus_of (aCons (mTup (aCons (mC (.int 1)) (aCons (mC (.int 1)) aNil))) (aCons (mVar 3) aNil))) (aCons (mVar 1) aNil))) aNil)))) (ks.map (srow w)) [x0, some (.val (.int d)), some (.own (.lst (rs.map fr))), o3, o4] =
    some (.nx [x0, some (.val (.int d)), some (.own (.lst ((rs ++ ks.map (un w d)).map fr))), p3, p4])
  | [], rs, o3, o4, _, _ => ⟨o3, o4, by simp only [List.map_nil, forL_n, List.append_nil]⟩
  | k :: ks, rs, o3, o4, h, hl => by
    have hk := h k (List.mem_cons_self ..)
    have f := un_fact (d := d) hk hw h0
    have f2 := rest_pow hk.sh hw h0 d
    have m1 := minus1_ok hk.sh hw h0
    have p1 := restpow_ok hk.sh hw h0 hd
    have t1 := times_of_ok (nat_fs (a := k.2) (k := 9) (by have := hk.m; omega) (by decide)) (hk.sh.fs hw h0) (by omega)
    have t2 := times_of_ok f.1 f2.1 (by omega)
    have er : rs.map fr ++ [fr ((k.2 : Rat) * q1 w k * (1 - q1 w k) ^ d)] = (rs ++ [un w d k]).map fr := by simp [un]
    obtain ⟨p3, p4, ih⟩ := un_loop hw h0 hd x0 ks (rs ++ [un w d k]) (some (.val (fr (q1 w k)))) (some (.val (.int k.2))) (fun x hx => h x (List.mem_cons_of_mem _ hx)) (by simp at hl ⊢; omega)
    refine ⟨p3, p4, ?_⟩
    have ea : rs ++ (k :: ks).map (un w d) = rs ++ [un w d k] ++ ks.map (un w d) := by simp
    have ll : rs.length < 16777216 := by omega
    rw [ea, ← ih]
    simp only [List.map_cons, srow, kSeq_1, kSeq_2, kSeq_3, kSeq_4, kSet_1, kNx_1, kPar_1, kd2_1, kd1_1, kIf_1, kIf_2, kRt_1, kEx_1, kVar_1, kVar_2, kMov_1, kMov_2, kfz_1, kfz_2, kc_1, k1_1, k2b_1, k2a_1, kt_1, kn_1, kAnd_1, kAnd_2, kOr_1, kOr_2, kmA_1, kmA_2, kmO_1, kmO_2, kmI_1, kmI_2, kh4_1, kh3_1, kh3_2, kh2_1, kh1_1, kcb_1, kca_1, kL5_1, kL4_1, kL3_1, kL2_1, kL1_1, kl2_1, kl1_1, kl3_1, kr_1, krs_1, krs_2, kput_1, kput_2, kpk_1, klst_1, klst_2, kbor_1, ka2_1, ka1_1, ktup_1, kls_1, kB_1, kx3_1, kx2_1, kx1_1, kx4_1, kis2_1, kis_1, kp_1, ks3_1, ks2_1, ks1_1, kF_1, kF2_1, kF2_2, kF2_3, kF2_4, kF1_1, kW2_1, kW2_2, kW2_3, kW2_4, kW_1, kW_2, kg_1, ksa_1, ki_1, ki_2, ki_3, kap2_1, kap_1, ksx4_1, ksx3_1, ksx2_1, ksx1_1, kat_1, ko_1, kfin_1, kfin_2, klc2_1, klc_1, kC4_1, kC3_1, kC2_1, kC2_2, kC1_1, ksum_1, kst2_1, kst_1, kst_2, kRev_1, kRev_2, krg_1, krg2_1, krg1_1, kav_1, kav_2, krc_1, runFn_a, out_n, out_s, ini_a, iniL_n, iniL_0, iniL_e, sSeq_a, sSet_a, sPar_a, dNil_a, dCons_a, setAll_n, setAll_c, sIf_a, sRet_a, sExpr_a, sNext_a, sBreak_a, sCont_a, mC_a, mVar_a, mMove_a, fz_a, m1_a, m2_a, tst_a, tNot_a, tAnd_a, tOr_a, tYes_a, mAnd_a, mOr_a, mIf_a, mChain_a, mCall_a, mCallL_a, lNil_a, lCons_a, lLend_a, res_e, res_v, res_s, slot_0, slot_s, put_a, peek_a, lstAt_a, get_v, get_o, get_b, aNil_a, aCons_a, aStar_a, mTup_a, mLst_a, mB_a, mIxS_a, mLenS_a, mIsi_a, pNone_a, pSome_a, mSl_a, sFor_a, forL_n, forL_c, whN_s, gN_a, gT_a, gsC_a, gsN_a, sAsg_a, iSeq_a, sApp_a, sSetIx_a, mLc_a, lcL_n, lcL_c, wipe_n, wipe_c, rest_n, rest_c, allVal_n, allVal_c, mRev_a, mLRg_a, mLRg2_a, lt_int, le_int, gt_int, ge_int, sub_int, add_int, mod_int, fdiv_int, pow_int', mul_ok, eq_int, ne_int, neg_int, not_bl, abs_int, int_int, int_bl, max_2, min_2, max_3, min_3, len_l, len_t, len_s, lenB_l, lenB_t, lenB_s, ix_s, ixV_a, tuple_l, tuple_t, list_l, list_t, sum_l, isi_int, isi_bool, isi_tup, ix_fr0, ix_fr1, mul_l, cat_l, cat_t, sl_l, sl_t, sl_s, line, kq4_1, kq3_1, kq2_1, kq1_1, mSl3_a, kz2_1, kz_1, iZipM_a, ken2_1, ken_1, iEnM_a, kgt_1, gTM_a, seq_l, seq_t, ksrt_1, sorted_a, kpo4_1, kpo3_1, kpo2_1, kpo1_1, mPopAt_a, Nat.reduceLeDiff, Nat.zero_le, and_self, Nat.one_ne_zero, Nat.reduceEqDiff, reduceCtorEq, Bool.not_true, Bool.not_false, decide_true, decide_false, Bool.and_self, Bool.and_true, Bool.true_and, List.length_cons, List.length_nil, List.replicate, List.append_nil, List.cons_append, List.nil_append, Nat.reduceAdd, Nat.reduceSub, List.getElem?_cons_succ, List.getElem?_cons_zero, Nat.sub_self, List.set_cons_succ, List.set_cons_zero, ↓reduceIte, Nat.reduceLeDiff, Nat.reduceLT, fr_one, fr_nat, m1, p1, t1, t2, List.length_map, ll, er]
theorem mean_unseen_ok {ks : List (Nat × Nat)} (h : Ki ks) (hW : W ks ≤ 1000) {d : Nat} (hd : d ≤ 200) : f_mean_unseen [dK ks, .int d] = ok (fr (ks.map (un (W ks) d)).sum) := by
  have h0 := W_pos h
  obtain ⟨p3, p4, hl⟩ := un_loop hW h0 hd (some (.val (dK ks))) ks [] none none h.rw (by have := h.len; simp; omega)
  have s := shares_ok (ks := ks) (fun k hk => ⟨(h.w k hk).2, by have := (h.m k hk).2; omega⟩) (by have := h.len; omega) h0 hW
  have c := c_draws_ok (d := d) (m := 400) (by omega)
  have N : Nice (W ks ^ (d + 1)) (10 * (d + 1) + 1) 20 (ks.map (un (W ks) d)) := nice_of (fun x hx => by
    obtain ⟨k, hk, rfl⟩ := List.mem_map.mp hx
    obtain ⟨a, b, c, e⟩ := un_fact (d := d) (h.rw k hk) hW h0
    exact ⟨b, c, by grind⟩) (by rw [List.length_map]; exact h.len) (Nat.pow_pos h0) (wpow hW _)
  have t := total_of_ok N (by omega) (by rw [List.length_map]; have := h.len; omega)
  have e4 : ((400 : Nat) : Int) = 400 := rfl
  rw [e4] at c
  rw [List.nil_append, List.map_nil] at hl
  simp only [f_mean_unseen, b_mean_unseen, e_check_draws, e_power_of, e_minus_of, e_times_of, e_total_of, kSeq_1, kSeq_2, kSeq_3, kSeq_4, kSet_1, kNx_1, kPar_1, kd2_1, kd1_1, kIf_1, kIf_2, kRt_1, kEx_1, kVar_1, kVar_2, kMov_1, kMov_2, kfz_1, kfz_2, kc_1, k1_1, k2b_1, k2a_1, kt_1, kn_1, kAnd_1, kAnd_2, kOr_1, kOr_2, kmA_1, kmA_2, kmO_1, kmO_2, kmI_1, kmI_2, kh4_1, kh3_1, kh3_2, kh2_1, kh1_1, kcb_1, kca_1, kL5_1, kL4_1, kL3_1, kL2_1, kL1_1, kl2_1, kl1_1, kl3_1, kr_1, krs_1, krs_2, kput_1, kput_2, kpk_1, klst_1, klst_2, kbor_1, ka2_1, ka1_1, ktup_1, kls_1, kB_1, kx3_1, kx2_1, kx1_1, kx4_1, kis2_1, kis_1, kp_1, ks3_1, ks2_1, ks1_1, kF_1, kF2_1, kF2_2, kF2_3, kF2_4, kF1_1, kW2_1, kW2_2, kW2_3, kW2_4, kW_1, kW_2, kg_1, ksa_1, ki_1, ki_2, ki_3, kap2_1, kap_1, ksx4_1, ksx3_1, ksx2_1, ksx1_1, kat_1, ko_1, kfin_1, kfin_2, klc2_1, klc_1, kC4_1, kC3_1, kC2_1, kC2_2, kC1_1, ksum_1, kst2_1, kst_1, kst_2, kRev_1, kRev_2, krg_1, krg2_1, krg1_1, kav_1, kav_2, krc_1, runFn_a, out_n, out_s, ini_a, iniL_n, iniL_0, iniL_e, sSeq_a, sSet_a, sPar_a, dNil_a, dCons_a, setAll_n, setAll_c, sIf_a, sRet_a, sExpr_a, sNext_a, sBreak_a, sCont_a, mC_a, mVar_a, mMove_a, fz_a, m1_a, m2_a, tst_a, tNot_a, tAnd_a, tOr_a, tYes_a, mAnd_a, mOr_a, mIf_a, mChain_a, mCall_a, mCallL_a, lNil_a, lCons_a, lLend_a, res_e, res_v, res_s, slot_0, slot_s, put_a, peek_a, lstAt_a, get_v, get_o, get_b, aNil_a, aCons_a, aStar_a, mTup_a, mLst_a, mB_a, mIxS_a, mLenS_a, mIsi_a, pNone_a, pSome_a, mSl_a, sFor_a, forL_n, forL_c, whN_s, gN_a, gT_a, gsC_a, gsN_a, sAsg_a, iSeq_a, sApp_a, sSetIx_a, mLc_a, lcL_n, lcL_c, wipe_n, wipe_c, rest_n, rest_c, allVal_n, allVal_c, mRev_a, mLRg_a, mLRg2_a, lt_int, le_int, gt_int, ge_int, sub_int, add_int, mod_int, fdiv_int, pow_int', mul_ok, eq_int, ne_int, neg_int, not_bl, abs_int, int_int, int_bl, max_2, min_2, max_3, min_3, len_l, len_t, len_s, lenB_l, lenB_t, lenB_s, ix_s, ixV_a, tuple_l, tuple_t, list_l, list_t, sum_l, isi_int, isi_bool, isi_tup, ix_fr0, ix_fr1, mul_l, cat_l, cat_t, sl_l, sl_t, sl_s, line, kq4_1, kq3_1, kq2_1, kq1_1, mSl3_a, kz2_1, kz_1, iZipM_a, ken2_1, ken_1, iEnM_a, kgt_1, gTM_a, seq_l, seq_t, ksrt_1, sorted_a, kpo4_1, kpo3_1, kpo2_1, kpo1_1, mPopAt_a, Nat.reduceLeDiff, Nat.zero_le, and_self, Nat.one_ne_zero, Nat.reduceEqDiff, reduceCtorEq, Bool.not_true, Bool.not_false, decide_true, decide_false, Bool.and_self, Bool.and_true, Bool.true_and, List.length_cons, List.length_nil, List.replicate, List.append_nil, List.cons_append, List.nil_append, Nat.reduceAdd, Nat.reduceSub, List.getElem?_cons_succ, List.getElem?_cons_zero, Nat.sub_self, List.set_cons_succ, List.set_cons_zero, ↓reduceIte, Nat.reduceLeDiff, Nat.reduceLT, check_kinds_ok h, c, s, hl, t]
/-! ### caught once -/
def tm (w d : Nat) (k : Nat × Nat) : Rat := (((d + 1) * k.2 : Nat) : Rat) * (q1 w k ^ 1 * (1 - q1 w k) ^ d)
theorem tm_fact {w d : Nat} {k : Nat × Nat} (h : Rw w k) (hw : w ≤ 1000) (h0 : 0 < w) (hd : d ≤ 200) : Fs (10 * (d + 1) + 1) (q1 w k ^ 1 * (1 - q1 w k) ^ d) ∧ Dv (w ^ (d + 1)) (tm w d k) ∧ 0 ≤ tm w d k ∧ tm w d k ≤ 65536 := by
  obtain ⟨a, b, c, e⟩ := rest_pow h.sh hw h0 d
  have p := h.sh.pos
  have l := h.sh.le
  rw [Rat.pow_one] at *
  have d1 := h.sh.dv.mul b
  rw [show w * w ^ d = w ^ (d + 1) by rw [Nat.pow_succ, Nat.mul_comm]] at d1
  have g1 : 0 ≤ q1 w k * (1 - q1 w k) ^ d := Rat.mul_nonneg (by grind) c
  have g2 : q1 w k * (1 - q1 w k) ^ d ≤ 1 * (1 - q1 w k) ^ d := Rat.mul_le_mul_of_nonneg_right l c
  have hk : (0 : Rat) ≤ (((d + 1) * k.2 : Nat) : Rat) := Rat.natCast_nonneg
  have hk2 : (((d + 1) * k.2 : Nat) : Rat) ≤ ((65536 : Nat) : Rat) := Rat.natCast_le_natCast.mpr (by
    have : (d + 1) * k.2 ≤ 201 * 256 := Nat.mul_le_mul (by omega) h.m
    omega)
  have h4 : ((65536 : Nat) : Rat) = 65536 := by decide +kernel
  unfold tm
  rw [Rat.pow_one]
  refine ⟨d1.fs (m := 0) (Nat.pow_pos h0) (wpow hw _) (by rw [two0]; grind) (by rw [two0]; grind), ?_, Rat.mul_nonneg hk g1, ?_⟩
  · have := (natdv (V := 1) ((d + 1) * k.2)).mul d1
    rw [Nat.one_mul] at this; exact this
  · have : (((d + 1) * k.2 : Nat) : Rat) * (q1 w k * (1 - q1 w k) ^ d) ≤ (((d + 1) * k.2 : Nat) : Rat) * 1 := Rat.mul_le_mul_of_nonneg_left (by grind) hk
    grind
theorem tm_loop {w d : Nat} (hw : w ≤ 1000) (h0 : 0 < w) (hd : d ≤ 200) (x0 : Option DV) : ∀ (ks : List (Nat × Nat)) (rs : List Rat) (o5 o6 o7 : Option DV), (∀ k ∈ ks, Rw w k) → rs.length + ks.length ≤ 1000 → ∃ p5 p6 p7 : Option DV,
    forL (gTM (gsCons (gN 5) (gsCons (gN 6) gsNil))) (sSeq (sSet 7 (mCall c_times_of (aCons (mCall c_power_of (aCons (mVar 5) (aCons (mVar 2) aNil))) (aCons (mCall c_power_of (aCons (mCall c_minus_of (aCons (mTup (aCons (mC (.int 1)) (aCons (mC (.int 1)) aNil))) (aCons (mVar 5) aNil))) (aCons (m2 dSub (mVar 1) (mVar 2)) aNil))) aNil))))
    (sApp 3 (mCall c_times_of (aCons (mTup (aCons (m2 dMul (mVar 4) (mVar 6)) (aCons (mC (.int 1)) aNil))) (aCons (mVar 7) aNil))))) (ks.map (srow w)) [x0, some (.val (.int (d + 1 : Nat))), some (.val (.int 1)), some (.own (.lst (rs.map fr))), some (.val (.int (d + 1 : Nat))), o5, o6, o7] =
    some (.nx [x0, some (.val (.int (d + 1 : Nat))), some (.val (.int 1)), some (.own (.lst ((rs ++ ks.map (tm w d)).map fr))), some (.val (.int (d + 1 : Nat))), p5, p6, p7])
  | [], rs, o5, o6, o7, _, _ => ⟨o5, o6, o7, by simp only [List.map_nil, forL_n, List.append_nil]⟩
  | k :: ks, rs, o5, o6, o7, h, hl => by
    have hk := h k (List.mem_cons_self ..)
    have f := tm_fact (d := d) hk hw h0 hd
    have f2 := rest_pow hk.sh hw h0 d
    have m1 := minus1_ok hk.sh hw h0
    have p1 := restpow_ok hk.sh hw h0 hd
    have fq := hk.sh.fs hw h0
    have p0 := power_of_ok (k := 1) fq (by omega) (by omega) (by decide)
    have fq1 : Fs 10 (q1 w k ^ 1) := by rw [Rat.pow_one]; exact fq
    have t1 := times_of_ok fq1 f2.1 (by omega)
    have hm := hk.m
    have hb : (d + 1) * k.2 ≤ 201 * 256 := Nat.mul_le_mul (by omega) hm
    have t2 := times_of_ok (nat_fs (a := (d + 1) * k.2) (k := 17) (by omega) (by decide)) f.1 (by omega)
    have mo : MulOk ((d + 1 : Nat) : Int) (k.2 : Int) := (sz_nat (n := d + 1) 9 (by omega)).mulOk (sz_nat (n := k.2) 9 (by omega))
    have em : ((d + 1 : Nat) : Int) * (k.2 : Int) = (((d + 1) * k.2 : Nat) : Int) := by rw [Int.natCast_mul]
    have es : ((d + 1 : Nat) : Int) - 1 = (d : Int) := by omega
    have k1 : ((1 : Nat) : Int) = 1 := rfl
    rw [k1] at p0
    have er : rs.map fr ++ [fr ((((d + 1) * k.2 : Nat) : Rat) * (q1 w k ^ 1 * (1 - q1 w k) ^ d))] = (rs ++ [tm w d k]).map fr := by simp [tm]
    obtain ⟨p5, p6, p7, ih⟩ := tm_loop hw h0 hd x0 ks (rs ++ [tm w d k]) (some (.val (fr (q1 w k)))) (some (.val (.int k.2))) (some (.val (fr (q1 w k ^ 1 * (1 - q1 w k) ^ d)))) (fun x hx => h x (List.mem_cons_of_mem _ hx)) (by simp at hl ⊢; omega)
    refine ⟨p5, p6, p7, ?_⟩
    have ea : rs ++ (k :: ks).map (tm w d) = rs ++ [tm w d k] ++ ks.map (tm w d) := by simp
    have ll : rs.length < 16777216 := by omega
    rw [ea, ← ih]
    simp only [List.map_cons, srow, kSeq_1, kSeq_2, kSeq_3, kSeq_4, kSet_1, kNx_1, kPar_1, kd2_1, kd1_1, kIf_1, kIf_2, kRt_1, kEx_1, kVar_1, kVar_2, kMov_1, kMov_2, kfz_1, kfz_2, kc_1, k1_1, k2b_1, k2a_1, kt_1, kn_1, kAnd_1, kAnd_2, kOr_1, kOr_2, kmA_1, kmA_2, kmO_1, kmO_2, kmI_1, kmI_2, kh4_1, kh3_1, kh3_2, kh2_1, kh1_1, kcb_1, kca_1, kL5_1, kL4_1, kL3_1, kL2_1, kL1_1, kl2_1, kl1_1, kl3_1, kr_1, krs_1, krs_2, kput_1, kput_2, kpk_1, klst_1, klst_2, kbor_1, ka2_1, ka1_1, ktup_1, kls_1, kB_1, kx3_1, kx2_1, kx1_1, kx4_1, kis2_1, kis_1, kp_1, ks3_1, ks2_1, ks1_1, kF_1, kF2_1, kF2_2, kF2_3, kF2_4, kF1_1, kW2_1, kW2_2, kW2_3, kW2_4, kW_1, kW_2, kg_1, ksa_1, ki_1, ki_2, ki_3, kap2_1, kap_1, ksx4_1, ksx3_1, ksx2_1, ksx1_1, kat_1, ko_1, kfin_1, kfin_2, klc2_1, klc_1, kC4_1, kC3_1, kC2_1, kC2_2, kC1_1, ksum_1, kst2_1, kst_1, kst_2, kRev_1, kRev_2, krg_1, krg2_1, krg1_1, kav_1, kav_2, krc_1, runFn_a, out_n, out_s, ini_a, iniL_n, iniL_0, iniL_e, sSeq_a, sSet_a, sPar_a, dNil_a, dCons_a, setAll_n, setAll_c, sIf_a, sRet_a, sExpr_a, sNext_a, sBreak_a, sCont_a, mC_a, mVar_a, mMove_a, fz_a, m1_a, m2_a, tst_a, tNot_a, tAnd_a, tOr_a, tYes_a, mAnd_a, mOr_a, mIf_a, mChain_a, mCall_a, mCallL_a, lNil_a, lCons_a, lLend_a, res_e, res_v, res_s, slot_0, slot_s, put_a, peek_a, lstAt_a, get_v, get_o, get_b, aNil_a, aCons_a, aStar_a, mTup_a, mLst_a, mB_a, mIxS_a, mLenS_a, mIsi_a, pNone_a, pSome_a, mSl_a, sFor_a, forL_n, forL_c, whN_s, gN_a, gT_a, gsC_a, gsN_a, sAsg_a, iSeq_a, sApp_a, sSetIx_a, mLc_a, lcL_n, lcL_c, wipe_n, wipe_c, rest_n, rest_c, allVal_n, allVal_c, mRev_a, mLRg_a, mLRg2_a, lt_int, le_int, gt_int, ge_int, sub_int, add_int, mod_int, fdiv_int, pow_int', mul_ok, eq_int, ne_int, neg_int, not_bl, abs_int, int_int, int_bl, max_2, min_2, max_3, min_3, len_l, len_t, len_s, lenB_l, lenB_t, lenB_s, ix_s, ixV_a, tuple_l, tuple_t, list_l, list_t, sum_l, isi_int, isi_bool, isi_tup, ix_fr0, ix_fr1, mul_l, cat_l, cat_t, sl_l, sl_t, sl_s, line, kq4_1, kq3_1, kq2_1, kq1_1, mSl3_a, kz2_1, kz_1, iZipM_a, ken2_1, ken_1, iEnM_a, kgt_1, gTM_a, seq_l, seq_t, ksrt_1, sorted_a, kpo4_1, kpo3_1, kpo2_1, kpo1_1, mPopAt_a, Nat.reduceLeDiff, Nat.zero_le, and_self, Nat.one_ne_zero, Nat.reduceEqDiff, reduceCtorEq, Bool.not_true, Bool.not_false, decide_true, decide_false, Bool.and_self, Bool.and_true, Bool.true_and, List.length_cons, List.length_nil, List.replicate, List.append_nil, List.cons_append, List.nil_append, Nat.reduceAdd, Nat.reduceSub, List.getElem?_cons_succ, List.getElem?_cons_zero, Nat.sub_self, List.set_cons_succ, List.set_cons_zero, ↓reduceIte, Nat.reduceLeDiff, Nat.reduceLT, fr_one, m1, p1, p0, t1, es, mo, em, fr_nat, t2, List.length_map, ll, er]
theorem falling_1 (d : Nat) (hd : d ≤ 1000) : c_falling_of [.int d, .int 1] = ok (.int d) := by
  have hr := fun (ρ : En) e => range_D 1 (by omega) ρ ρ (aCons (mVar 1) aNil) e
  have e1 : rangeD 0 1 = [.int 0] := rfl
  rw [e1] at hr
  have mo : MulOk 1 ((d : Int) - 0) := (by decide : Sz 1 1).mulOk (m := 11) (by unfold Sz; omega)
  have k1 : ((1 : Nat) : Int) = 1 := rfl
  simp only [k1] at hr
  simp only [c_falling_of, cb_falling_of, kSeq_1, kSeq_2, kSeq_3, kSeq_4, kSet_1, kNx_1, kPar_1, kd2_1, kd1_1, kIf_1, kIf_2, kRt_1, kEx_1, kVar_1, kVar_2, kMov_1, kMov_2, kfz_1, kfz_2, kc_1, k1_1, k2b_1, k2a_1, kt_1, kn_1, kAnd_1, kAnd_2, kOr_1, kOr_2, kmA_1, kmA_2, kmO_1, kmO_2, kmI_1, kmI_2, kh4_1, kh3_1, kh3_2, kh2_1, kh1_1, kcb_1, kca_1, kL5_1, kL4_1, kL3_1, kL2_1, kL1_1, kl2_1, kl1_1, kl3_1, kr_1, krs_1, krs_2, kput_1, kput_2, kpk_1, klst_1, klst_2, kbor_1, ka2_1, ka1_1, ktup_1, kls_1, kB_1, kx3_1, kx2_1, kx1_1, kx4_1, kis2_1, kis_1, kp_1, ks3_1, ks2_1, ks1_1, kF_1, kF2_1, kF2_2, kF2_3, kF2_4, kF1_1, kW2_1, kW2_2, kW2_3, kW2_4, kW_1, kW_2, kg_1, ksa_1, ki_1, ki_2, ki_3, kap2_1, kap_1, ksx4_1, ksx3_1, ksx2_1, ksx1_1, kat_1, ko_1, kfin_1, kfin_2, klc2_1, klc_1, kC4_1, kC3_1, kC2_1, kC2_2, kC1_1, ksum_1, kst2_1, kst_1, kst_2, kRev_1, kRev_2, krg_1, krg2_1, krg1_1, kav_1, kav_2, krc_1, runFn_a, out_n, out_s, ini_a, iniL_n, iniL_0, iniL_e, sSeq_a, sSet_a, sPar_a, dNil_a, dCons_a, setAll_n, setAll_c, sIf_a, sRet_a, sExpr_a, sNext_a, sBreak_a, sCont_a, mC_a, mVar_a, mMove_a, fz_a, m1_a, m2_a, tst_a, tNot_a, tAnd_a, tOr_a, tYes_a, mAnd_a, mOr_a, mIf_a, mChain_a, mCall_a, mCallL_a, lNil_a, lCons_a, lLend_a, res_e, res_v, res_s, slot_0, slot_s, put_a, peek_a, lstAt_a, get_v, get_o, get_b, aNil_a, aCons_a, aStar_a, mTup_a, mLst_a, mB_a, mIxS_a, mLenS_a, mIsi_a, pNone_a, pSome_a, mSl_a, sFor_a, forL_n, forL_c, whN_s, gN_a, gT_a, gsC_a, gsN_a, sAsg_a, iSeq_a, sApp_a, sSetIx_a, mLc_a, lcL_n, lcL_c, wipe_n, wipe_c, rest_n, rest_c, allVal_n, allVal_c, mRev_a, mLRg_a, mLRg2_a, lt_int, le_int, gt_int, ge_int, sub_int, add_int, mod_int, fdiv_int, pow_int', mul_ok, eq_int, ne_int, neg_int, not_bl, abs_int, int_int, int_bl, max_2, min_2, max_3, min_3, len_l, len_t, len_s, lenB_l, lenB_t, lenB_s, ix_s, ixV_a, tuple_l, tuple_t, list_l, list_t, sum_l, isi_int, isi_bool, isi_tup, ix_fr0, ix_fr1, mul_l, cat_l, cat_t, sl_l, sl_t, sl_s, line, kq4_1, kq3_1, kq2_1, kq1_1, mSl3_a, kz2_1, kz_1, iZipM_a, ken2_1, ken_1, iEnM_a, kgt_1, gTM_a, seq_l, seq_t, ksrt_1, sorted_a, kpo4_1, kpo3_1, kpo2_1, kpo1_1, mPopAt_a, Nat.reduceLeDiff, Nat.zero_le, and_self, Nat.one_ne_zero, Nat.reduceEqDiff, reduceCtorEq, Bool.not_true, Bool.not_false, decide_true, decide_false, Bool.and_self, Bool.and_true, Bool.true_and, List.length_cons, List.length_nil, List.replicate, List.append_nil, List.cons_append, List.nil_append, Nat.reduceAdd, Nat.reduceSub, List.getElem?_cons_succ, List.getElem?_cons_zero, Nat.sub_self, List.set_cons_succ, List.set_cons_zero, ↓reduceIte, Nat.reduceLeDiff, Nat.reduceLT, hr, mo]
  simp [kSeq_1, kSeq_2, kSeq_3, kSeq_4, kSet_1, kNx_1, kPar_1, kd2_1, kd1_1, kIf_1, kIf_2, kRt_1, kEx_1, kVar_1, kVar_2, kMov_1, kMov_2, kfz_1, kfz_2, kc_1, k1_1, k2b_1, k2a_1, kt_1, kn_1, kAnd_1, kAnd_2, kOr_1, kOr_2, kmA_1, kmA_2, kmO_1, kmO_2, kmI_1, kmI_2, kh4_1, kh3_1, kh3_2, kh2_1, kh1_1, kcb_1, kca_1, kL5_1, kL4_1, kL3_1, kL2_1, kL1_1, kl2_1, kl1_1, kl3_1, kr_1, krs_1, krs_2, kput_1, kput_2, kpk_1, klst_1, klst_2, kbor_1, ka2_1, ka1_1, ktup_1, kls_1, kB_1, kx3_1, kx2_1, kx1_1, kx4_1, kis2_1, kis_1, kp_1, ks3_1, ks2_1, ks1_1, kF_1, kF2_1, kF2_2, kF2_3, kF2_4, kF1_1, kW2_1, kW2_2, kW2_3, kW2_4, kW_1, kW_2, kg_1, ksa_1, ki_1, ki_2, ki_3, kap2_1, kap_1, ksx4_1, ksx3_1, ksx2_1, ksx1_1, kat_1, ko_1, kfin_1, kfin_2, klc2_1, klc_1, kC4_1, kC3_1, kC2_1, kC2_2, kC1_1, ksum_1, kst2_1, kst_1, kst_2, kRev_1, kRev_2, krg_1, krg2_1, krg1_1, kav_1, kav_2, krc_1, runFn_a, out_n, out_s, ini_a, iniL_n, iniL_0, iniL_e, sSeq_a, sSet_a, sPar_a, dNil_a, dCons_a, setAll_n, setAll_c, sIf_a, sRet_a, sExpr_a, sNext_a, sBreak_a, sCont_a, mC_a, mVar_a, mMove_a, fz_a, m1_a, m2_a, tst_a, tNot_a, tAnd_a, tOr_a, tYes_a, mAnd_a, mOr_a, mIf_a, mChain_a, mCall_a, mCallL_a, lNil_a, lCons_a, lLend_a, res_e, res_v, res_s, slot_0, slot_s, put_a, peek_a, lstAt_a, get_v, get_o, get_b, aNil_a, aCons_a, aStar_a, mTup_a, mLst_a, mB_a, mIxS_a, mLenS_a, mIsi_a, pNone_a, pSome_a, mSl_a, sFor_a, forL_n, forL_c, whN_s, gN_a, gT_a, gsC_a, gsN_a, sAsg_a, iSeq_a, sApp_a, sSetIx_a, mLc_a, lcL_n, lcL_c, wipe_n, wipe_c, rest_n, rest_c, allVal_n, allVal_c, mRev_a, mLRg_a, mLRg2_a, lt_int, le_int, gt_int, ge_int, sub_int, add_int, mod_int, fdiv_int, pow_int', mul_ok, eq_int, ne_int, neg_int, not_bl, abs_int, int_int, int_bl, max_2, min_2, max_3, min_3, len_l, len_t, len_s, lenB_l, lenB_t, lenB_s, ix_s, ixV_a, tuple_l, tuple_t, list_l, list_t, sum_l, isi_int, isi_bool, isi_tup, ix_fr0, ix_fr1, mul_l, cat_l, cat_t, sl_l, sl_t, sl_s, line, Nat.reduceLeDiff, Nat.zero_le, and_self, Nat.one_ne_zero, Nat.reduceEqDiff, reduceCtorEq, Bool.not_true, Bool.not_false, decide_true, decide_false, Bool.and_self, Bool.and_true, Bool.true_and, List.length_cons, List.length_nil, List.replicate, List.append_nil, List.cons_append, List.nil_append, Nat.reduceAdd, Nat.reduceSub, List.getElem?_cons_succ, List.getElem?_cons_zero, Nat.sub_self, List.set_cons_succ, List.set_cons_zero, ↓reduceIte, Nat.reduceLeDiff, Nat.reduceLT]
theorem mean_times_ok {ks : List (Nat × Nat)} (h : Ki ks) (hW : W ks ≤ 1000) {d : Nat} (hd : d ≤ 200) : f_mean_times [dK ks, .int (d + 1 : Nat), .int 1] = ok (fr (ks.map (tm (W ks) d)).sum) := by
  have h0 := W_pos h
  obtain ⟨p5, p6, p7, hl⟩ := tm_loop hW h0 hd (some (.val (dK ks))) ks [] none none none h.rw (by have := h.len; simp; omega)
  have s := shares_ok (ks := ks) (fun k hk => ⟨(h.w k hk).2, by have := (h.m k hk).2; omega⟩) (by have := h.len; omega) h0 hW
  have c := c_draws_ok (d := d + 1) (m := 400) (by omega)
  have c' := c_draws_ok (d := 1) (m := d + 1) (by omega)
  have N : Nice (W ks ^ (d + 1)) (10 * (d + 1) + 1) 20 (ks.map (tm (W ks) d)) := nice_of (fun x hx => by
    obtain ⟨k, hk, rfl⟩ := List.mem_map.mp hx
    exact (tm_fact (h.rw k hk) hW h0 hd).2) (by rw [List.length_map]; exact h.len) (Nat.pow_pos h0) (wpow hW _)
  have t := total_of_ok N (by omega) (by rw [List.length_map]; have := h.len; omega)
  have e4 : ((400 : Nat) : Int) = 400 := rfl
  have k1 : ((1 : Nat) : Int) = 1 := rfl
  rw [e4] at c
  rw [k1] at c'
  rw [List.nil_append, List.map_nil] at hl
  have fa := falling_1 (d + 1) (by omega)
  have fb := falling_1 1 (by omega)
  rw [k1] at fb
  have d1 : DivOk 1 := by decide
  have fd : ((d + 1 : Nat) : Int).fdiv 1 = ((d + 1 : Nat) : Int) := Int.fdiv_one _
  simp only [f_mean_times, b_mean_times, e_check_draws, e_power_of, e_minus_of, e_times_of, e_total_of, e_falling_of, kSeq_1, kSeq_2, kSeq_3, kSeq_4, kSet_1, kNx_1, kPar_1, kd2_1, kd1_1, kIf_1, kIf_2, kRt_1, kEx_1, kVar_1, kVar_2, kMov_1, kMov_2, kfz_1, kfz_2, kc_1, k1_1, k2b_1, k2a_1, kt_1, kn_1, kAnd_1, kAnd_2, kOr_1, kOr_2, kmA_1, kmA_2, kmO_1, kmO_2, kmI_1, kmI_2, kh4_1, kh3_1, kh3_2, kh2_1, kh1_1, kcb_1, kca_1, kL5_1, kL4_1, kL3_1, kL2_1, kL1_1, kl2_1, kl1_1, kl3_1, kr_1, krs_1, krs_2, kput_1, kput_2, kpk_1, klst_1, klst_2, kbor_1, ka2_1, ka1_1, ktup_1, kls_1, kB_1, kx3_1, kx2_1, kx1_1, kx4_1, kis2_1, kis_1, kp_1, ks3_1, ks2_1, ks1_1, kF_1, kF2_1, kF2_2, kF2_3, kF2_4, kF1_1, kW2_1, kW2_2, kW2_3, kW2_4, kW_1, kW_2, kg_1, ksa_1, ki_1, ki_2, ki_3, kap2_1, kap_1, ksx4_1, ksx3_1, ksx2_1, ksx1_1, kat_1, ko_1, kfin_1, kfin_2, klc2_1, klc_1, kC4_1, kC3_1, kC2_1, kC2_2, kC1_1, ksum_1, kst2_1, kst_1, kst_2, kRev_1, kRev_2, krg_1, krg2_1, krg1_1, kav_1, kav_2, krc_1, runFn_a, out_n, out_s, ini_a, iniL_n, iniL_0, iniL_e, sSeq_a, sSet_a, sPar_a, dNil_a, dCons_a, setAll_n, setAll_c, sIf_a, sRet_a, sExpr_a, sNext_a, sBreak_a, sCont_a, mC_a, mVar_a, mMove_a, fz_a, m1_a, m2_a, tst_a, tNot_a, tAnd_a, tOr_a, tYes_a, mAnd_a, mOr_a, mIf_a, mChain_a, mCall_a, mCallL_a, lNil_a, lCons_a, lLend_a, res_e, res_v, res_s, slot_0, slot_s, put_a, peek_a, lstAt_a, get_v, get_o, get_b, aNil_a, aCons_a, aStar_a, mTup_a, mLst_a, mB_a, mIxS_a, mLenS_a, mIsi_a, pNone_a, pSome_a, mSl_a, sFor_a, forL_n, forL_c, whN_s, gN_a, gT_a, gsC_a, gsN_a, sAsg_a, iSeq_a, sApp_a, sSetIx_a, mLc_a, lcL_n, lcL_c, wipe_n, wipe_c, rest_n, rest_c, allVal_n, allVal_c, mRev_a, mLRg_a, mLRg2_a, lt_int, le_int, gt_int, ge_int, sub_int, add_int, mod_int, fdiv_int, pow_int', mul_ok, eq_int, ne_int, neg_int, not_bl, abs_int, int_int, int_bl, max_2, min_2, max_3, min_3, len_l, len_t, len_s, lenB_l, lenB_t, lenB_s, ix_s, ixV_a, tuple_l, tuple_t, list_l, list_t, sum_l, isi_int, isi_bool, isi_tup, ix_fr0, ix_fr1, mul_l, cat_l, cat_t, sl_l, sl_t, sl_s, line, kq4_1, kq3_1, kq2_1, kq1_1, mSl3_a, kz2_1, kz_1, iZipM_a, ken2_1, ken_1, iEnM_a, kgt_1, gTM_a, seq_l, seq_t, ksrt_1, sorted_a, kpo4_1, kpo3_1, kpo2_1, kpo1_1, mPopAt_a, Nat.reduceLeDiff, Nat.zero_le, and_self, Nat.one_ne_zero, Nat.reduceEqDiff, reduceCtorEq, Bool.not_true, Bool.not_false, decide_true, decide_false, Bool.and_self, Bool.and_true, Bool.true_and, List.length_cons, List.length_nil, List.replicate, List.append_nil, List.cons_append, List.nil_append, Nat.reduceAdd, Nat.reduceSub, List.getElem?_cons_succ, List.getElem?_cons_zero, Nat.sub_self, List.set_cons_succ, List.set_cons_zero, ↓reduceIte, Nat.reduceLeDiff, Nat.reduceLT, check_kinds_ok h, c, c', fa, fb, d1, fd, s, hl, t]
end
end Wk64

set_option Elab.async false
set_option linter.all false
set_option maxRecDepth 100000
set_option maxHeartbeats 2000000
namespace Wk64
open PySem Cb
noncomputable section
def nf (d m : Nat) (q : Rat) : Rat := (1 - q) ^ d - (1 - q) ^ (d + m)
theorem nf_fact {w d m : Nat} {q : Rat} (h : Sh w q) (hw : w ≤ 1000) (h0 : 0 < w) : Dv (w ^ (d + m)) (nf d m q) ∧ 0 ≤ nf d m q ∧ nf d m q ≤ 1 := by
  obtain ⟨a, b, c, e⟩ := rest_pow h hw h0 d
  obtain ⟨a', b', c', e'⟩ := rest_pow h hw h0 (d + m)
  obtain ⟨_, _, r0, r1⟩ := h.rest hw h0
  have an := pow_anti r0 r1 d m
  refine ⟨(b.mono (Nat.pow_dvd_pow _ (by omega))).sub b', by unfold nf; grind, by unfold nf; grind⟩
theorem nf_fs {w d m : Nat} {q : Rat} (h : Sh w q) (hw : w ≤ 1000) (h0 : 0 < w) : Fs (10 * (d + m) + 1) (nf d m q) := by
  obtain ⟨a, b, c⟩ := nf_fact (d := d) (m := m) h hw h0
  exact a.fs (m := 0) (Nat.pow_pos h0) (wpow hw _) (by rw [two0]; exact c) (by rw [two0]; grind)
theorem new_of_ok {w d m : Nat} {q : Rat} (h : Sh w q) (hw : w ≤ 1000) (h0 : 0 < w) (hd : d + m ≤ 200) : f_new_of_share [fr q, .int d, .int m] = ok (fr (nf d m q)) := by
  have m1 := minus1_ok h hw h0
  have p1 := restpow_ok h hw h0 (d := d) (by omega)
  have p2 := restpow_ok h hw h0 (d := d + m) (by omega)
  have m2' := minus_of_ok (rest_pow h hw h0 d).1 (rest_pow h hw h0 (d + m)).1 (by omega)
  have e : (d : Int) + (m : Int) = ((d + m : Nat) : Int) := by omega
  simp only [f_new_of_share, b_new_of_share, e_minus_of, e_power_of, kSeq_1, kSeq_2, kSeq_3, kSeq_4, kSet_1, kNx_1, kPar_1, kd2_1, kd1_1, kIf_1, kIf_2, kRt_1, kEx_1, kVar_1, kVar_2, kMov_1, kMov_2, kfz_1, kfz_2, kc_1, k1_1, k2b_1, k2a_1, kt_1, kn_1, kAnd_1, kAnd_2, kOr_1, kOr_2, kmA_1, kmA_2, kmO_1, kmO_2, kmI_1, kmI_2, kh4_1, kh3_1, kh3_2, kh2_1, kh1_1, kcb_1, kca_1, kL5_1, kL4_1, kL3_1, kL2_1, kL1_1, kl2_1, kl1_1, kl3_1, kr_1, krs_1, krs_2, kput_1, kput_2, kpk_1, klst_1, klst_2, kbor_1, ka2_1, ka1_1, ktup_1, kls_1, kB_1, kx3_1, kx2_1, kx1_1, kx4_1, kis2_1, kis_1, kp_1, ks3_1, ks2_1, ks1_1, kF_1, kF2_1, kF2_2, kF2_3, kF2_4, kF1_1, kW2_1, kW2_2, kW2_3, kW2_4, kW_1, kW_2, kg_1, ksa_1, ki_1, ki_2, ki_3, kap2_1, kap_1, ksx4_1, ksx3_1, ksx2_1, ksx1_1, kat_1, ko_1, kfin_1, kfin_2, klc2_1, klc_1, kC4_1, kC3_1, kC2_1, kC2_2, kC1_1, ksum_1, kst2_1, kst_1, kst_2, kRev_1, kRev_2, krg_1, krg2_1, krg1_1, kav_1, kav_2, krc_1, runFn_a, out_n, out_s, ini_a, iniL_n, iniL_0, iniL_e, sSeq_a, sSet_a, sPar_a, dNil_a, dCons_a, setAll_n, setAll_c, sIf_a, sRet_a, sExpr_a, sNext_a, sBreak_a, sCont_a, mC_a, mVar_a, mMove_a, fz_a, m1_a, m2_a, tst_a, tNot_a, tAnd_a, tOr_a, tYes_a, mAnd_a, mOr_a, mIf_a, mChain_a, mCall_a, mCallL_a, lNil_a, lCons_a, lLend_a, res_e, res_v, res_s, slot_0, slot_s, put_a, peek_a, lstAt_a, get_v, get_o, get_b, aNil_a, aCons_a, aStar_a, mTup_a, mLst_a, mB_a, mIxS_a, mLenS_a, mIsi_a, pNone_a, pSome_a, mSl_a, sFor_a, forL_n, forL_c, whN_s, gN_a, gT_a, gsC_a, gsN_a, sAsg_a, iSeq_a, sApp_a, sSetIx_a, mLc_a, lcL_n, lcL_c, wipe_n, wipe_c, rest_n, rest_c, allVal_n, allVal_c, mRev_a, mLRg_a, mLRg2_a, lt_int, le_int, gt_int, ge_int, sub_int, add_int, mod_int, fdiv_int, pow_int', mul_ok, eq_int, ne_int, neg_int, not_bl, abs_int, int_int, int_bl, max_2, min_2, max_3, min_3, len_l, len_t, len_s, lenB_l, lenB_t, lenB_s, ix_s, ixV_a, tuple_l, tuple_t, list_l, list_t, sum_l, isi_int, isi_bool, isi_tup, ix_fr0, ix_fr1, mul_l, cat_l, cat_t, sl_l, sl_t, sl_s, line, kq4_1, kq3_1, kq2_1, kq1_1, mSl3_a, kz2_1, kz_1, iZipM_a, ken2_1, ken_1, iEnM_a, kgt_1, gTM_a, seq_l, seq_t, ksrt_1, sorted_a, kpo4_1, kpo3_1, kpo2_1, kpo1_1, mPopAt_a, Nat.reduceLeDiff, Nat.zero_le, and_self, Nat.one_ne_zero, Nat.reduceEqDiff, reduceCtorEq, Bool.not_true, Bool.not_false, decide_true, decide_false, Bool.and_self, Bool.and_true, Bool.true_and, List.length_cons, List.length_nil, List.replicate, List.append_nil, List.cons_append, List.nil_append, Nat.reduceAdd, Nat.reduceSub, List.getElem?_cons_succ, List.getElem?_cons_zero, Nat.sub_self, List.set_cons_succ, List.set_cons_zero, ↓reduceIte, Nat.reduceLeDiff, Nat.reduceLT, fr_one, m1, p1, p2, m2', e, nf]
structure Qs (w : Nat) (qs : List Rat) : Prop where
  ne : qs ≠ []
  len : qs.length ≤ 12
  sh : ∀ q ∈ qs, Sh w q
  up : qs.Pairwise (· < ·)
theorem sh_num {w : Nat} {q : Rat} (h : Sh w q) : 0 < q.num ∧ q.num ≤ q.den := by
  have p := (Rat.lt_iff _ _).mp h.pos
  have l := (Rat.le_iff _ _).mp h.le
  simp at p l
  exact ⟨p, l⟩
theorem are_shares_ok {w : Nat} {qs : List Rat} (h : Qs w qs) (hw : w ≤ 1000) (h0 : 0 < w) : f_are_shares [.tup (qs.map fr)] = ok (.bl true) := by
  have hl : 1 ≤ qs.length := List.length_pos_iff.mpr h.ne
  have hl2 := h.len
  have e1 : decide ((1 : Int) ≤ ((qs.map fr).length : Int) ∧ ((qs.map fr).length : Int) ≤ 12) = true := by simp; omega
  have l0 : (qs.map fr).length ≤ 16777216 := by simp; omega
  have c1 : ∀ x0 x2, lcL (gN 1) tYesM (mAnd (mCall c_is_share (aCons (mVar 1) aNil)) (mChain dLt dLe (mC (.int 0)) (mIxS 1 (mC (.int 0))) (mIxS 1 (mC (.int 1))))) [1] (qs.map fr) [x0, none, x2] = some (qs.map fun _ => .bl true, [x0, none, x2]) := fun x0 x2 =>
    lc_map fun q hq ds => by
      have hs := h.sh q hq
      have hn := sh_num hs
      have s := is_share_ok ((hs.fs hw h0).fz (by decide)) (by omega) hn.2
      have a1 : decide ((0 : Int) < q.num) = true := by simpa using hn.1
      have a2 : decide (q.num ≤ (q.den : Int)) = true := by simpa using hn.2
      simp only [kSeq_1, kSeq_2, kSeq_3, kSeq_4, kSet_1, kNx_1, kPar_1, kd2_1, kd1_1, kIf_1, kIf_2, kRt_1, kEx_1, kVar_1, kVar_2, kMov_1, kMov_2, kfz_1, kfz_2, kc_1, k1_1, k2b_1, k2a_1, kt_1, kn_1, kAnd_1, kAnd_2, kOr_1, kOr_2, kmA_1, kmA_2, kmO_1, kmO_2, kmI_1, kmI_2, kh4_1, kh3_1, kh3_2, kh2_1, kh1_1, kcb_1, kca_1, kL5_1, kL4_1, kL3_1, kL2_1, kL1_1, kl2_1, kl1_1, kl3_1, kr_1, krs_1, krs_2, kput_1, kput_2, kpk_1, klst_1, klst_2, kbor_1, ka2_1, ka1_1, ktup_1, kls_1, kB_1, kx3_1, kx2_1, kx1_1, kx4_1, kis2_1, kis_1, kp_1, ks3_1, ks2_1, ks1_1, kF_1, kF2_1, kF2_2, kF2_3, kF2_4, kF1_1, kW2_1, kW2_2, kW2_3, kW2_4, kW_1, kW_2, kg_1, ksa_1, ki_1, ki_2, ki_3, kap2_1, kap_1, ksx4_1, ksx3_1, ksx2_1, ksx1_1, kat_1, ko_1, kfin_1, kfin_2, klc2_1, klc_1, kC4_1, kC3_1, kC2_1, kC2_2, kC1_1, ksum_1, kst2_1, kst_1, kst_2, kRev_1, kRev_2, krg_1, krg2_1, krg1_1, kav_1, kav_2, krc_1, runFn_a, out_n, out_s, ini_a, iniL_n, iniL_0, iniL_e, sSeq_a, sSet_a, sPar_a, dNil_a, dCons_a, setAll_n, setAll_c, sIf_a, sRet_a, sExpr_a, sNext_a, sBreak_a, sCont_a, mC_a, mVar_a, mMove_a, fz_a, m1_a, m2_a, tst_a, tNot_a, tAnd_a, tOr_a, tYes_a, mAnd_a, mOr_a, mIf_a, mChain_a, mCall_a, mCallL_a, lNil_a, lCons_a, lLend_a, res_e, res_v, res_s, slot_0, slot_s, put_a, peek_a, lstAt_a, get_v, get_o, get_b, aNil_a, aCons_a, aStar_a, mTup_a, mLst_a, mB_a, mIxS_a, mLenS_a, mIsi_a, pNone_a, pSome_a, mSl_a, sFor_a, forL_n, forL_c, whN_s, gN_a, gT_a, gsC_a, gsN_a, sAsg_a, iSeq_a, sApp_a, sSetIx_a, mLc_a, lcL_n, lcL_c, wipe_n, wipe_c, rest_n, rest_c, allVal_n, allVal_c, mRev_a, mLRg_a, mLRg2_a, lt_int, le_int, gt_int, ge_int, sub_int, add_int, mod_int, fdiv_int, pow_int', mul_ok, eq_int, ne_int, neg_int, not_bl, abs_int, int_int, int_bl, max_2, min_2, max_3, min_3, len_l, len_t, len_s, lenB_l, lenB_t, lenB_s, ix_s, ixV_a, tuple_l, tuple_t, list_l, list_t, sum_l, isi_int, isi_bool, isi_tup, ix_fr0, ix_fr1, mul_l, cat_l, cat_t, sl_l, sl_t, sl_s, line, kq4_1, kq3_1, kq2_1, kq1_1, mSl3_a, kz2_1, kz_1, iZipM_a, ken2_1, ken_1, iEnM_a, kgt_1, gTM_a, seq_l, seq_t, ksrt_1, sorted_a, kpo4_1, kpo3_1, kpo2_1, kpo1_1, mPopAt_a, Nat.reduceLeDiff, Nat.zero_le, and_self, Nat.one_ne_zero, Nat.reduceEqDiff, reduceCtorEq, Bool.not_true, Bool.not_false, decide_true, decide_false, Bool.and_self, Bool.and_true, Bool.true_and, List.length_cons, List.length_nil, List.replicate, List.append_nil, List.cons_append, List.nil_append, Nat.reduceAdd, Nat.reduceSub, List.getElem?_cons_succ, List.getElem?_cons_zero, Nat.sub_self, List.set_cons_succ, List.set_cons_zero, ↓reduceIte, Nat.reduceLeDiff, Nat.reduceLT, s, a1, a2]
  have c2 : ∀ x0 x2, lcL (gN 1) tYesM (m2 dLe (mIxS 1 (mC (.int 1))) (mC (.int 1000))) [1] (qs.map fr) [x0, none, x2] = some (qs.map fun _ => .bl true, [x0, none, x2]) := fun x0 x2 =>
    lc_map fun q hq ds => by
      have hs := h.sh q hq
      have : q.den ≤ w := Nat.le_of_dvd h0 hs.dv
      have a1 : decide ((q.den : Int) ≤ 1000) = true := by simp; omega
      simp only [kSeq_1, kSeq_2, kSeq_3, kSeq_4, kSet_1, kNx_1, kPar_1, kd2_1, kd1_1, kIf_1, kIf_2, kRt_1, kEx_1, kVar_1, kVar_2, kMov_1, kMov_2, kfz_1, kfz_2, kc_1, k1_1, k2b_1, k2a_1, kt_1, kn_1, kAnd_1, kAnd_2, kOr_1, kOr_2, kmA_1, kmA_2, kmO_1, kmO_2, kmI_1, kmI_2, kh4_1, kh3_1, kh3_2, kh2_1, kh1_1, kcb_1, kca_1, kL5_1, kL4_1, kL3_1, kL2_1, kL1_1, kl2_1, kl1_1, kl3_1, kr_1, krs_1, krs_2, kput_1, kput_2, kpk_1, klst_1, klst_2, kbor_1, ka2_1, ka1_1, ktup_1, kls_1, kB_1, kx3_1, kx2_1, kx1_1, kx4_1, kis2_1, kis_1, kp_1, ks3_1, ks2_1, ks1_1, kF_1, kF2_1, kF2_2, kF2_3, kF2_4, kF1_1, kW2_1, kW2_2, kW2_3, kW2_4, kW_1, kW_2, kg_1, ksa_1, ki_1, ki_2, ki_3, kap2_1, kap_1, ksx4_1, ksx3_1, ksx2_1, ksx1_1, kat_1, ko_1, kfin_1, kfin_2, klc2_1, klc_1, kC4_1, kC3_1, kC2_1, kC2_2, kC1_1, ksum_1, kst2_1, kst_1, kst_2, kRev_1, kRev_2, krg_1, krg2_1, krg1_1, kav_1, kav_2, krc_1, runFn_a, out_n, out_s, ini_a, iniL_n, iniL_0, iniL_e, sSeq_a, sSet_a, sPar_a, dNil_a, dCons_a, setAll_n, setAll_c, sIf_a, sRet_a, sExpr_a, sNext_a, sBreak_a, sCont_a, mC_a, mVar_a, mMove_a, fz_a, m1_a, m2_a, tst_a, tNot_a, tAnd_a, tOr_a, tYes_a, mAnd_a, mOr_a, mIf_a, mChain_a, mCall_a, mCallL_a, lNil_a, lCons_a, lLend_a, res_e, res_v, res_s, slot_0, slot_s, put_a, peek_a, lstAt_a, get_v, get_o, get_b, aNil_a, aCons_a, aStar_a, mTup_a, mLst_a, mB_a, mIxS_a, mLenS_a, mIsi_a, pNone_a, pSome_a, mSl_a, sFor_a, forL_n, forL_c, whN_s, gN_a, gT_a, gsC_a, gsN_a, sAsg_a, iSeq_a, sApp_a, sSetIx_a, mLc_a, lcL_n, lcL_c, wipe_n, wipe_c, rest_n, rest_c, allVal_n, allVal_c, mRev_a, mLRg_a, mLRg2_a, lt_int, le_int, gt_int, ge_int, sub_int, add_int, mod_int, fdiv_int, pow_int', mul_ok, eq_int, ne_int, neg_int, not_bl, abs_int, int_int, int_bl, max_2, min_2, max_3, min_3, len_l, len_t, len_s, lenB_l, lenB_t, lenB_s, ix_s, ixV_a, tuple_l, tuple_t, list_l, list_t, sum_l, isi_int, isi_bool, isi_tup, ix_fr0, ix_fr1, mul_l, cat_l, cat_t, sl_l, sl_t, sl_s, line, kq4_1, kq3_1, kq2_1, kq1_1, mSl3_a, kz2_1, kz_1, iZipM_a, ken2_1, ken_1, iEnM_a, kgt_1, gTM_a, seq_l, seq_t, ksrt_1, sorted_a, kpo4_1, kpo3_1, kpo2_1, kpo1_1, mPopAt_a, Nat.reduceLeDiff, Nat.zero_le, and_self, Nat.one_ne_zero, Nat.reduceEqDiff, reduceCtorEq, Bool.not_true, Bool.not_false, decide_true, decide_false, Bool.and_self, Bool.and_true, Bool.true_and, List.length_cons, List.length_nil, List.replicate, List.append_nil, List.cons_append, List.nil_append, Nat.reduceAdd, Nat.reduceSub, List.getElem?_cons_succ, List.getElem?_cons_zero, Nat.sub_self, List.set_cons_succ, List.set_cons_zero, ↓reduceIte, Nat.reduceLeDiff, Nat.reduceLT, a1]
  have ez : zipD (qs.map fr) ((qs.map fr).drop 1) = (List.zip qs (qs.drop 1)).map fun p => .tup [fr p.1, fr p.2] := by
    rw [← List.map_drop, zipD_map]
  have lz : (zipD (qs.map fr) ((qs.map fr).drop 1)).length ≤ 16777216 := by
    rw [zipD_length, List.length_map]; omega
  have c3 : ∀ x0, lcL (gTM (gsCons (gN 1) (gsCons (gN 2) gsNil))) tYesM (mCall c__law_below (aCons (mVar 1) (aCons (mVar 2) aNil))) [1, 2] ((List.zip qs (qs.drop 1)).map fun p => D.tup [fr p.1, fr p.2]) [x0, none, none] = some ((List.zip qs (qs.drop 1)).map fun _ => .bl true, [x0, none, none]) := fun x0 =>
    lc_map fun p hp ds => by
      have := adj_mem h.up p hp
      have hz := List.of_mem_zip hp
      have b := law_below_ok ((h.sh _ hz.1).fs hw h0) ((h.sh _ (List.mem_of_mem_drop hz.2)).fs hw h0) (by decide)
      have e : decide (p.1 < p.2) = true := by simpa using this
      simp only [kSeq_1, kSeq_2, kSeq_3, kSeq_4, kSet_1, kNx_1, kPar_1, kd2_1, kd1_1, kIf_1, kIf_2, kRt_1, kEx_1, kVar_1, kVar_2, kMov_1, kMov_2, kfz_1, kfz_2, kc_1, k1_1, k2b_1, k2a_1, kt_1, kn_1, kAnd_1, kAnd_2, kOr_1, kOr_2, kmA_1, kmA_2, kmO_1, kmO_2, kmI_1, kmI_2, kh4_1, kh3_1, kh3_2, kh2_1, kh1_1, kcb_1, kca_1, kL5_1, kL4_1, kL3_1, kL2_1, kL1_1, kl2_1, kl1_1, kl3_1, kr_1, krs_1, krs_2, kput_1, kput_2, kpk_1, klst_1, klst_2, kbor_1, ka2_1, ka1_1, ktup_1, kls_1, kB_1, kx3_1, kx2_1, kx1_1, kx4_1, kis2_1, kis_1, kp_1, ks3_1, ks2_1, ks1_1, kF_1, kF2_1, kF2_2, kF2_3, kF2_4, kF1_1, kW2_1, kW2_2, kW2_3, kW2_4, kW_1, kW_2, kg_1, ksa_1, ki_1, ki_2, ki_3, kap2_1, kap_1, ksx4_1, ksx3_1, ksx2_1, ksx1_1, kat_1, ko_1, kfin_1, kfin_2, klc2_1, klc_1, kC4_1, kC3_1, kC2_1, kC2_2, kC1_1, ksum_1, kst2_1, kst_1, kst_2, kRev_1, kRev_2, krg_1, krg2_1, krg1_1, kav_1, kav_2, krc_1, runFn_a, out_n, out_s, ini_a, iniL_n, iniL_0, iniL_e, sSeq_a, sSet_a, sPar_a, dNil_a, dCons_a, setAll_n, setAll_c, sIf_a, sRet_a, sExpr_a, sNext_a, sBreak_a, sCont_a, mC_a, mVar_a, mMove_a, fz_a, m1_a, m2_a, tst_a, tNot_a, tAnd_a, tOr_a, tYes_a, mAnd_a, mOr_a, mIf_a, mChain_a, mCall_a, mCallL_a, lNil_a, lCons_a, lLend_a, res_e, res_v, res_s, slot_0, slot_s, put_a, peek_a, lstAt_a, get_v, get_o, get_b, aNil_a, aCons_a, aStar_a, mTup_a, mLst_a, mB_a, mIxS_a, mLenS_a, mIsi_a, pNone_a, pSome_a, mSl_a, sFor_a, forL_n, forL_c, whN_s, gN_a, gT_a, gsC_a, gsN_a, sAsg_a, iSeq_a, sApp_a, sSetIx_a, mLc_a, lcL_n, lcL_c, wipe_n, wipe_c, rest_n, rest_c, allVal_n, allVal_c, mRev_a, mLRg_a, mLRg2_a, lt_int, le_int, gt_int, ge_int, sub_int, add_int, mod_int, fdiv_int, pow_int', mul_ok, eq_int, ne_int, neg_int, not_bl, abs_int, int_int, int_bl, max_2, min_2, max_3, min_3, len_l, len_t, len_s, lenB_l, lenB_t, lenB_s, ix_s, ixV_a, tuple_l, tuple_t, list_l, list_t, sum_l, isi_int, isi_bool, isi_tup, ix_fr0, ix_fr1, mul_l, cat_l, cat_t, sl_l, sl_t, sl_s, line, kq4_1, kq3_1, kq2_1, kq1_1, mSl3_a, kz2_1, kz_1, iZipM_a, ken2_1, ken_1, iEnM_a, kgt_1, gTM_a, seq_l, seq_t, ksrt_1, sorted_a, kpo4_1, kpo3_1, kpo2_1, kpo1_1, mPopAt_a, Nat.reduceLeDiff, Nat.zero_le, and_self, Nat.one_ne_zero, Nat.reduceEqDiff, reduceCtorEq, Bool.not_true, Bool.not_false, decide_true, decide_false, Bool.and_self, Bool.and_true, Bool.true_and, List.length_cons, List.length_nil, List.replicate, List.append_nil, List.cons_append, List.nil_append, Nat.reduceAdd, Nat.reduceSub, List.getElem?_cons_succ, List.getElem?_cons_zero, Nat.sub_self, List.set_cons_succ, List.set_cons_zero, ↓reduceIte, Nat.reduceLeDiff, Nat.reduceLT, b, e]
  rw [ez] at lz
  simp only [f_are_shares, b_are_shares, kSeq_1, kSeq_2, kSeq_3, kSeq_4, kSet_1, kNx_1, kPar_1, kd2_1, kd1_1, kIf_1, kIf_2, kRt_1, kEx_1, kVar_1, kVar_2, kMov_1, kMov_2, kfz_1, kfz_2, kc_1, k1_1, k2b_1, k2a_1, kt_1, kn_1, kAnd_1, kAnd_2, kOr_1, kOr_2, kmA_1, kmA_2, kmO_1, kmO_2, kmI_1, kmI_2, kh4_1, kh3_1, kh3_2, kh2_1, kh1_1, kcb_1, kca_1, kL5_1, kL4_1, kL3_1, kL2_1, kL1_1, kl2_1, kl1_1, kl3_1, kr_1, krs_1, krs_2, kput_1, kput_2, kpk_1, klst_1, klst_2, kbor_1, ka2_1, ka1_1, ktup_1, kls_1, kB_1, kx3_1, kx2_1, kx1_1, kx4_1, kis2_1, kis_1, kp_1, ks3_1, ks2_1, ks1_1, kF_1, kF2_1, kF2_2, kF2_3, kF2_4, kF1_1, kW2_1, kW2_2, kW2_3, kW2_4, kW_1, kW_2, kg_1, ksa_1, ki_1, ki_2, ki_3, kap2_1, kap_1, ksx4_1, ksx3_1, ksx2_1, ksx1_1, kat_1, ko_1, kfin_1, kfin_2, klc2_1, klc_1, kC4_1, kC3_1, kC2_1, kC2_2, kC1_1, ksum_1, kst2_1, kst_1, kst_2, kRev_1, kRev_2, krg_1, krg2_1, krg1_1, kav_1, kav_2, krc_1, runFn_a, out_n, out_s, ini_a, iniL_n, iniL_0, iniL_e, sSeq_a, sSet_a, sPar_a, dNil_a, dCons_a, setAll_n, setAll_c, sIf_a, sRet_a, sExpr_a, sNext_a, sBreak_a, sCont_a, mC_a, mVar_a, mMove_a, fz_a, m1_a, m2_a, tst_a, tNot_a, tAnd_a, tOr_a, tYes_a, mAnd_a, mOr_a, mIf_a, mChain_a, mCall_a, mCallL_a, lNil_a, lCons_a, lLend_a, res_e, res_v, res_s, slot_0, slot_s, put_a, peek_a, lstAt_a, get_v, get_o, get_b, aNil_a, aCons_a, aStar_a, mTup_a, mLst_a, mB_a, mIxS_a, mLenS_a, mIsi_a, pNone_a, pSome_a, mSl_a, sFor_a, forL_n, forL_c, whN_s, gN_a, gT_a, gsC_a, gsN_a, sAsg_a, iSeq_a, sApp_a, sSetIx_a, mLc_a, lcL_n, lcL_c, wipe_n, wipe_c, rest_n, rest_c, allVal_n, allVal_c, mRev_a, mLRg_a, mLRg2_a, lt_int, le_int, gt_int, ge_int, sub_int, add_int, mod_int, fdiv_int, pow_int', mul_ok, eq_int, ne_int, neg_int, not_bl, abs_int, int_int, int_bl, max_2, min_2, max_3, min_3, len_l, len_t, len_s, lenB_l, lenB_t, lenB_s, ix_s, ixV_a, tuple_l, tuple_t, list_l, list_t, sum_l, isi_int, isi_bool, isi_tup, ix_fr0, ix_fr1, mul_l, cat_l, cat_t, sl_l, sl_t, sl_s, line, kq4_1, kq3_1, kq2_1, kq1_1, mSl3_a, kz2_1, kz_1, iZipM_a, ken2_1, ken_1, iEnM_a, kgt_1, gTM_a, seq_l, seq_t, ksrt_1, sorted_a, kpo4_1, kpo3_1, kpo2_1, kpo1_1, mPopAt_a, Nat.reduceLeDiff, Nat.zero_le, and_self, Nat.one_ne_zero, Nat.reduceEqDiff, reduceCtorEq, Bool.not_true, Bool.not_false, decide_true, decide_false, Bool.and_self, Bool.and_true, Bool.true_and, List.length_cons, List.length_nil, List.replicate, List.append_nil, List.cons_append, List.nil_append, Nat.reduceAdd, Nat.reduceSub, List.getElem?_cons_succ, List.getElem?_cons_zero, Nat.sub_self, List.set_cons_succ, List.set_cons_zero, ↓reduceIte, Nat.reduceLeDiff, Nat.reduceLT, e_is_tuple, e_is_share, e_is_below, is_tuple_ok, e1, l0, c1, c2, c3, all_l1, sl_t, cut_1, ez, lz]
theorem mem_zw {f : Rat → Rat → Rat} : ∀ {ps qs : List Rat} {x : Rat}, x ∈ List.zipWith f ps qs → ∃ p ∈ ps, ∃ q ∈ qs, x = f p q
  | [], qs, x, h => by simp at h
  | p :: ps, [], x, h => by simp at h
  | p :: ps, q :: qs, x, h => by
    rcases List.mem_cons.mp (show x ∈ f p q :: List.zipWith f ps qs from h) with rfl | h
    · exact ⟨p, by simp, q, by simp, rfl⟩
    · obtain ⟨a, ha, b, hb, e⟩ := mem_zw h
      exact ⟨a, by simp [ha], b, by simp [hb], e⟩
structure Ns (V : Nat) (ns : List Rat) : Prop where
  dv : ∀ n ∈ ns, Dv V n
  nn : ∀ n ∈ ns, 0 ≤ n
  le : ∀ n ∈ ns, n ≤ 2048
  v0 : 0 < V
  v : V < 2 ^ 24
theorem two11 : (2 : Rat) ^ 11 = 2048 := by decide +kernel
theorem Ns.fs {V : Nat} {ns : List Rat} (h : Ns V ns) : ∀ n ∈ ns, Fs 35 n := fun n hn => by
  have a := h.nn n hn
  have b := h.le n hn
  exact (h.dv n hn).fs (n := 24) (m := 11) h.v0 h.v (by rw [two11]; exact b) (by rw [two11]; grind)
def NS (d m : Nat) (qs ns : List Rat) : Rat := (List.zipWith (fun q n => nf d m q * n) qs ns).sum
theorem new_by_ok {w V d m : Nat} {qs ns : List Rat} (h : Qs w qs) (hw : w ≤ 1000) (h0 : 0 < w) (hn : Ns V ns) (hl : ns.length = qs.length) (h1 : (List.zipWith (· * ·) qs ns).sum = 1) (hd : d + m ≤ 200) :
    f_new_by_kinds [.tup (qs.map fr), .tup (ns.map fr), .int d, .int m] = ok (fr (NS d m qs ns)) := by
  have hl2 := h.len
  have a1 := are_shares_ok h hw h0
  have e1 : decide (((qs.map fr).length : Int) ≤ ((ns.map fr).length : Int) ∧ ((ns.map fr).length : Int) ≤ ((qs.map fr).length : Int)) = true := by simp; omega
  have l0 : (qs.map fr).length ≤ 16777216 := by simp; omega
  have l1 : (ns.map fr).length ≤ 16777216 := by simp; omega
  have c1 : ∀ x0 x1 x2 x3 x5, lcL (gN 4) tYesM (mAnd (mCall c_is_fraction (aCons (mVar 4) aNil)) (m2 dGe (mIxS 4 (mC (.int 0))) (mC (.int 0)))) [4] (ns.map fr) [x0, x1, x2, x3, none, x5] = some (ns.map fun _ => .bl true, [x0, x1, x2, x3, none, x5]) := fun x0 x1 x2 x3 x5 =>
    lc_map fun n hn' ds => by
      have f := is_fraction_ok ((hn.fs n hn').fz (by decide))
      have g : decide ((0 : Int) ≤ n.num) = true := by simpa using Rat.num_nonneg.mpr (hn.nn n hn')
      simp only [kSeq_1, kSeq_2, kSeq_3, kSeq_4, kSet_1, kNx_1, kPar_1, kd2_1, kd1_1, kIf_1, kIf_2, kRt_1, kEx_1, kVar_1, kVar_2, kMov_1, kMov_2, kfz_1, kfz_2, kc_1, k1_1, k2b_1, k2a_1, kt_1, kn_1, kAnd_1, kAnd_2, kOr_1, kOr_2, kmA_1, kmA_2, kmO_1, kmO_2, kmI_1, kmI_2, kh4_1, kh3_1, kh3_2, kh2_1, kh1_1, kcb_1, kca_1, kL5_1, kL4_1, kL3_1, kL2_1, kL1_1, kl2_1, kl1_1, kl3_1, kr_1, krs_1, krs_2, kput_1, kput_2, kpk_1, klst_1, klst_2, kbor_1, ka2_1, ka1_1, ktup_1, kls_1, kB_1, kx3_1, kx2_1, kx1_1, kx4_1, kis2_1, kis_1, kp_1, ks3_1, ks2_1, ks1_1, kF_1, kF2_1, kF2_2, kF2_3, kF2_4, kF1_1, kW2_1, kW2_2, kW2_3, kW2_4, kW_1, kW_2, kg_1, ksa_1, ki_1, ki_2, ki_3, kap2_1, kap_1, ksx4_1, ksx3_1, ksx2_1, ksx1_1, kat_1, ko_1, kfin_1, kfin_2, klc2_1, klc_1, kC4_1, kC3_1, kC2_1, kC2_2, kC1_1, ksum_1, kst2_1, kst_1, kst_2, kRev_1, kRev_2, krg_1, krg2_1, krg1_1, kav_1, kav_2, krc_1, runFn_a, out_n, out_s, ini_a, iniL_n, iniL_0, iniL_e, sSeq_a, sSet_a, sPar_a, dNil_a, dCons_a, setAll_n, setAll_c, sIf_a, sRet_a, sExpr_a, sNext_a, sBreak_a, sCont_a, mC_a, mVar_a, mMove_a, fz_a, m1_a, m2_a, tst_a, tNot_a, tAnd_a, tOr_a, tYes_a, mAnd_a, mOr_a, mIf_a, mChain_a, mCall_a, mCallL_a, lNil_a, lCons_a, lLend_a, res_e, res_v, res_s, slot_0, slot_s, put_a, peek_a, lstAt_a, get_v, get_o, get_b, aNil_a, aCons_a, aStar_a, mTup_a, mLst_a, mB_a, mIxS_a, mLenS_a, mIsi_a, pNone_a, pSome_a, mSl_a, sFor_a, forL_n, forL_c, whN_s, gN_a, gT_a, gsC_a, gsN_a, sAsg_a, iSeq_a, sApp_a, sSetIx_a, mLc_a, lcL_n, lcL_c, wipe_n, wipe_c, rest_n, rest_c, allVal_n, allVal_c, mRev_a, mLRg_a, mLRg2_a, lt_int, le_int, gt_int, ge_int, sub_int, add_int, mod_int, fdiv_int, pow_int', mul_ok, eq_int, ne_int, neg_int, not_bl, abs_int, int_int, int_bl, max_2, min_2, max_3, min_3, len_l, len_t, len_s, lenB_l, lenB_t, lenB_s, ix_s, ixV_a, tuple_l, tuple_t, list_l, list_t, sum_l, isi_int, isi_bool, isi_tup, ix_fr0, ix_fr1, mul_l, cat_l, cat_t, sl_l, sl_t, sl_s, line, kq4_1, kq3_1, kq2_1, kq1_1, mSl3_a, kz2_1, kz_1, iZipM_a, ken2_1, ken_1, iEnM_a, kgt_1, gTM_a, seq_l, seq_t, ksrt_1, sorted_a, kpo4_1, kpo3_1, kpo2_1, kpo1_1, mPopAt_a, Nat.reduceLeDiff, Nat.zero_le, and_self, Nat.one_ne_zero, Nat.reduceEqDiff, reduceCtorEq, Bool.not_true, Bool.not_false, decide_true, decide_false, Bool.and_self, Bool.and_true, Bool.true_and, List.length_cons, List.length_nil, List.replicate, List.append_nil, List.cons_append, List.nil_append, Nat.reduceAdd, Nat.reduceSub, List.getElem?_cons_succ, List.getElem?_cons_zero, Nat.sub_self, List.set_cons_succ, List.set_cons_zero, ↓reduceIte, Nat.reduceLeDiff, Nat.reduceLT, f, g]
  have c2 : ∀ x0 x1 x4, lcL (gN 5) tYesM (mCall f_new_of_share (aCons (mVar 5) (aCons (mVar 2) (aCons (mVar 3) aNil)))) [5] (qs.map fr) [x0, x1, some (.val (.int d)), some (.val (.int m)), x4, none] = some (qs.map fun q => fr (nf d m q), [x0, x1, some (.val (.int d)), some (.val (.int m)), x4, none]) := fun x0 x1 x4 =>
    lc_map fun q hq ds => by
      have f := new_of_ok (h.sh q hq) hw h0 hd
      simp only [kSeq_1, kSeq_2, kSeq_3, kSeq_4, kSet_1, kNx_1, kPar_1, kd2_1, kd1_1, kIf_1, kIf_2, kRt_1, kEx_1, kVar_1, kVar_2, kMov_1, kMov_2, kfz_1, kfz_2, kc_1, k1_1, k2b_1, k2a_1, kt_1, kn_1, kAnd_1, kAnd_2, kOr_1, kOr_2, kmA_1, kmA_2, kmO_1, kmO_2, kmI_1, kmI_2, kh4_1, kh3_1, kh3_2, kh2_1, kh1_1, kcb_1, kca_1, kL5_1, kL4_1, kL3_1, kL2_1, kL1_1, kl2_1, kl1_1, kl3_1, kr_1, krs_1, krs_2, kput_1, kput_2, kpk_1, klst_1, klst_2, kbor_1, ka2_1, ka1_1, ktup_1, kls_1, kB_1, kx3_1, kx2_1, kx1_1, kx4_1, kis2_1, kis_1, kp_1, ks3_1, ks2_1, ks1_1, kF_1, kF2_1, kF2_2, kF2_3, kF2_4, kF1_1, kW2_1, kW2_2, kW2_3, kW2_4, kW_1, kW_2, kg_1, ksa_1, ki_1, ki_2, ki_3, kap2_1, kap_1, ksx4_1, ksx3_1, ksx2_1, ksx1_1, kat_1, ko_1, kfin_1, kfin_2, klc2_1, klc_1, kC4_1, kC3_1, kC2_1, kC2_2, kC1_1, ksum_1, kst2_1, kst_1, kst_2, kRev_1, kRev_2, krg_1, krg2_1, krg1_1, kav_1, kav_2, krc_1, runFn_a, out_n, out_s, ini_a, iniL_n, iniL_0, iniL_e, sSeq_a, sSet_a, sPar_a, dNil_a, dCons_a, setAll_n, setAll_c, sIf_a, sRet_a, sExpr_a, sNext_a, sBreak_a, sCont_a, mC_a, mVar_a, mMove_a, fz_a, m1_a, m2_a, tst_a, tNot_a, tAnd_a, tOr_a, tYes_a, mAnd_a, mOr_a, mIf_a, mChain_a, mCall_a, mCallL_a, lNil_a, lCons_a, lLend_a, res_e, res_v, res_s, slot_0, slot_s, put_a, peek_a, lstAt_a, get_v, get_o, get_b, aNil_a, aCons_a, aStar_a, mTup_a, mLst_a, mB_a, mIxS_a, mLenS_a, mIsi_a, pNone_a, pSome_a, mSl_a, sFor_a, forL_n, forL_c, whN_s, gN_a, gT_a, gsC_a, gsN_a, sAsg_a, iSeq_a, sApp_a, sSetIx_a, mLc_a, lcL_n, lcL_c, wipe_n, wipe_c, rest_n, rest_c, allVal_n, allVal_c, mRev_a, mLRg_a, mLRg2_a, lt_int, le_int, gt_int, ge_int, sub_int, add_int, mod_int, fdiv_int, pow_int', mul_ok, eq_int, ne_int, neg_int, not_bl, abs_int, int_int, int_bl, max_2, min_2, max_3, min_3, len_l, len_t, len_s, lenB_l, lenB_t, lenB_s, ix_s, ixV_a, tuple_l, tuple_t, list_l, list_t, sum_l, isi_int, isi_bool, isi_tup, ix_fr0, ix_fr1, mul_l, cat_l, cat_t, sl_l, sl_t, sl_s, line, kq4_1, kq3_1, kq2_1, kq1_1, mSl3_a, kz2_1, kz_1, iZipM_a, ken2_1, ken_1, iEnM_a, kgt_1, gTM_a, seq_l, seq_t, ksrt_1, sorted_a, kpo4_1, kpo3_1, kpo2_1, kpo1_1, mPopAt_a, Nat.reduceLeDiff, Nat.zero_le, and_self, Nat.one_ne_zero, Nat.reduceEqDiff, reduceCtorEq, Bool.not_true, Bool.not_false, decide_true, decide_false, Bool.and_self, Bool.and_true, Bool.true_and, List.length_cons, List.length_nil, List.replicate, List.append_nil, List.cons_append, List.nil_append, Nat.reduceAdd, Nat.reduceSub, List.getElem?_cons_succ, List.getElem?_cons_zero, Nat.sub_self, List.set_cons_succ, List.set_cons_zero, ↓reduceIte, Nat.reduceLeDiff, Nat.reduceLT, f]
  have b64 : (2048 : Rat) ≤ 65536 := by decide +kernel
  have N1 : Nice (w * V) 34 20 (List.zipWith (· * ·) qs ns) := nice_of (fun x hx => by
    obtain ⟨q, hq, n, hn', rfl⟩ := mem_zw hx
    have s := h.sh q hq
    have n0 := hn.nn n hn'
    have nl := hn.le n hn'
    have p := s.pos
    have g : q * n ≤ 1 * n := Rat.mul_le_mul_of_nonneg_right s.le n0
    exact ⟨s.dv.mul (hn.dv n hn'), Rat.mul_nonneg (by grind) n0, by grind⟩) (by rw [List.length_zipWith]; omega) (Nat.mul_pos h0 hn.v0) (by
      have := hn.v
      have : w * V ≤ 1000 * V := Nat.mul_le_mul_right _ hw
      omega)
  have s1 := summed_ok (x := .tup (qs.map fr)) (y := .tup (ns.map fr)) (n := 10) (m := 35) rfl rfl (fun q hq => (h.sh q hq).fs hw h0) hn.fs (by decide) N1 (by decide) (by omega)
  rw [h1] at s1
  have N2 : Nice (w ^ (d + m) * V) (10 * (d + m) + 1 + 24) 20 (List.zipWith (· * ·) (qs.map (nf d m)) ns) := nice_of (fun x hx => by
    obtain ⟨z, hz, n, hn', rfl⟩ := mem_zw hx
    obtain ⟨q, hq, rfl⟩ := List.mem_map.mp hz
    obtain ⟨a, b, c⟩ := nf_fact (d := d) (m := m) (h.sh q hq) hw h0
    have n0 := hn.nn n hn'
    have nl := hn.le n hn'
    have g : nf d m q * n ≤ 1 * n := Rat.mul_le_mul_of_nonneg_right c n0
    exact ⟨a.mul (hn.dv n hn'), Rat.mul_nonneg b n0, by grind⟩) (by rw [List.length_zipWith, List.length_map]; omega) (Nat.mul_pos (Nat.pow_pos h0) hn.v0) (by
      have := Nat.mul_lt_mul'' (wpow hw (d + m)) hn.v
      rwa [← Nat.pow_add] at this)
  have s2 := summed_ok (x := .lst ((qs.map (nf d m)).map fr)) (y := .tup (ns.map fr)) (n := 10 * (d + m) + 1) (m := 35) rfl rfl (fun z hz => by
    obtain ⟨q, hq, rfl⟩ := List.mem_map.mp hz
    exact nf_fs (h.sh q hq) hw h0) hn.fs (by omega) N2 (by omega) (by rw [List.length_map]; omega)
  have ez : (List.zipWith (· * ·) (qs.map (nf d m)) ns) = List.zipWith (fun q n => nf d m q * n) qs ns := by rw [List.zipWith_map_left]
  rw [ez, List.map_map] at s2
  have ed1 := c_draws_ok (d := d) (m := 400) (by omega)
  have ed2 := c_draws_ok (d := m) (m := 400) (by omega)
  have e4 : ((400 : Nat) : Int) = 400 := rfl
  rw [e4] at ed1 ed2
  have ef : (fr ∘ nf d m) = fun q => fr (nf d m q) := rfl
  rw [ef] at s2
  simp only [f_new_by_kinds, b_new_by_kinds, kSeq_1, kSeq_2, kSeq_3, kSeq_4, kSet_1, kNx_1, kPar_1, kd2_1, kd1_1, kIf_1, kIf_2, kRt_1, kEx_1, kVar_1, kVar_2, kMov_1, kMov_2, kfz_1, kfz_2, kc_1, k1_1, k2b_1, k2a_1, kt_1, kn_1, kAnd_1, kAnd_2, kOr_1, kOr_2, kmA_1, kmA_2, kmO_1, kmO_2, kmI_1, kmI_2, kh4_1, kh3_1, kh3_2, kh2_1, kh1_1, kcb_1, kca_1, kL5_1, kL4_1, kL3_1, kL2_1, kL1_1, kl2_1, kl1_1, kl3_1, kr_1, krs_1, krs_2, kput_1, kput_2, kpk_1, klst_1, klst_2, kbor_1, ka2_1, ka1_1, ktup_1, kls_1, kB_1, kx3_1, kx2_1, kx1_1, kx4_1, kis2_1, kis_1, kp_1, ks3_1, ks2_1, ks1_1, kF_1, kF2_1, kF2_2, kF2_3, kF2_4, kF1_1, kW2_1, kW2_2, kW2_3, kW2_4, kW_1, kW_2, kg_1, ksa_1, ki_1, ki_2, ki_3, kap2_1, kap_1, ksx4_1, ksx3_1, ksx2_1, ksx1_1, kat_1, ko_1, kfin_1, kfin_2, klc2_1, klc_1, kC4_1, kC3_1, kC2_1, kC2_2, kC1_1, ksum_1, kst2_1, kst_1, kst_2, kRev_1, kRev_2, krg_1, krg2_1, krg1_1, kav_1, kav_2, krc_1, runFn_a, out_n, out_s, ini_a, iniL_n, iniL_0, iniL_e, sSeq_a, sSet_a, sPar_a, dNil_a, dCons_a, setAll_n, setAll_c, sIf_a, sRet_a, sExpr_a, sNext_a, sBreak_a, sCont_a, mC_a, mVar_a, mMove_a, fz_a, m1_a, m2_a, tst_a, tNot_a, tAnd_a, tOr_a, tYes_a, mAnd_a, mOr_a, mIf_a, mChain_a, mCall_a, mCallL_a, lNil_a, lCons_a, lLend_a, res_e, res_v, res_s, slot_0, slot_s, put_a, peek_a, lstAt_a, get_v, get_o, get_b, aNil_a, aCons_a, aStar_a, mTup_a, mLst_a, mB_a, mIxS_a, mLenS_a, mIsi_a, pNone_a, pSome_a, mSl_a, sFor_a, forL_n, forL_c, whN_s, gN_a, gT_a, gsC_a, gsN_a, sAsg_a, iSeq_a, sApp_a, sSetIx_a, mLc_a, lcL_n, lcL_c, wipe_n, wipe_c, rest_n, rest_c, allVal_n, allVal_c, mRev_a, mLRg_a, mLRg2_a, lt_int, le_int, gt_int, ge_int, sub_int, add_int, mod_int, fdiv_int, pow_int', mul_ok, eq_int, ne_int, neg_int, not_bl, abs_int, int_int, int_bl, max_2, min_2, max_3, min_3, len_l, len_t, len_s, lenB_l, lenB_t, lenB_s, ix_s, ixV_a, tuple_l, tuple_t, list_l, list_t, sum_l, isi_int, isi_bool, isi_tup, ix_fr0, ix_fr1, mul_l, cat_l, cat_t, sl_l, sl_t, sl_s, line, kq4_1, kq3_1, kq2_1, kq1_1, mSl3_a, kz2_1, kz_1, iZipM_a, ken2_1, ken_1, iEnM_a, kgt_1, gTM_a, seq_l, seq_t, ksrt_1, sorted_a, kpo4_1, kpo3_1, kpo2_1, kpo1_1, mPopAt_a, Nat.reduceLeDiff, Nat.zero_le, and_self, Nat.one_ne_zero, Nat.reduceEqDiff, reduceCtorEq, Bool.not_true, Bool.not_false, decide_true, decide_false, Bool.and_self, Bool.and_true, Bool.true_and, List.length_cons, List.length_nil, List.replicate, List.append_nil, List.cons_append, List.nil_append, Nat.reduceAdd, Nat.reduceSub, List.getElem?_cons_succ, List.getElem?_cons_zero, Nat.sub_self, List.set_cons_succ, List.set_cons_zero, ↓reduceIte, Nat.reduceLeDiff, Nat.reduceLT, e_is_tuple, e_is_fraction, e_summed, e_check_draws, a1, is_tuple_ok, e1, l0, l1, c1, c2, all_l1, s1, s2, fr_one, ne_fr, ne_eq, not_true_eq_false, ed1, ed2, NS]
end
end Wk64

set_option Elab.async false
set_option linter.all false
set_option maxRecDepth 100000
set_option maxHeartbeats 2000000
namespace Wk64
open PySem Cb
noncomputable section
theorem kinds_lc {most : Nat} (hm0 : 0 < most) (hm : most ≤ 200) (x1 x3 : Option DV) : ∀ (ws : List Nat) (n : Nat) (p : D), Pot n p → n + ws.length < 10000 → ∃ (ks : List (Nat × Nat)) (p' : D),
    lcL (gN 4) tYesM (mTup (aCons (mVar 4) (aCons (m2 dAdd (mC (.int 1)) (mB dInt (aCons (mCallL 0 (c__law_take 215987 7957 6911) (lLend 0 (lCons (mVar 2) lNil))) aNil))) aNil))) [4] (ws.map fun w : Nat => D.int w) [some (.bor p), x1, some (.val (.int most)), x3, none] =
      some (ks.map row, [some (.bor p'), x1, some (.val (.int most)), x3, none]) ∧ Pot (n + ws.length) p' ∧ ks.map (·.1) = ws ∧ ∀ k ∈ ks, 1 ≤ k.2 ∧ k.2 ≤ most
  | [], n, p, hp, hn => ⟨[], p, by simp only [List.map_nil, lcL_n], hp, rfl, by simp⟩
  | w :: ws, n, p, hp, hn => by
    simp only [List.length_cons] at hn
    obtain ⟨i, p1, e1, hp1, i0, i1⟩ := law_take_ok (F := 215987) (G := 7957) (H := 6911) (u := (most : Int)) (m := 10) hp (by omega) (by unfold Sz; omega) (by decide) (by omega)
    obtain ⟨ks, p', ih, hP, h1, h2⟩ := kinds_lc hm0 hm x1 x3 ws (n + 1) p1 hp1 (by omega)
    obtain ⟨j, rfl⟩ : ∃ j : Nat, i = j := ⟨i.toNat, by omega⟩
    refine ⟨(w, j + 1) :: ks, p', ?_, by rw [show n + (w :: ws).length = n + 1 + ws.length by simp; omega]; exact hP, by simp [h1], fun k hk => ?_⟩
    · have e : (1 : Int) + (j : Int) = ((j + 1 : Nat) : Int) := by omega
      simp only [List.map_cons, row, kSeq_1, kSeq_2, kSeq_3, kSeq_4, kSet_1, kNx_1, kPar_1, kd2_1, kd1_1, kIf_1, kIf_2, kRt_1, kEx_1, kVar_1, kVar_2, kMov_1, kMov_2, kfz_1, kfz_2, kc_1, k1_1, k2b_1, k2a_1, kt_1, kn_1, kAnd_1, kAnd_2, kOr_1, kOr_2, kmA_1, kmA_2, kmO_1, kmO_2, kmI_1, kmI_2, kh4_1, kh3_1, kh3_2, kh2_1, kh1_1, kcb_1, kca_1, kL5_1, kL4_1, kL3_1, kL2_1, kL1_1, kl2_1, kl1_1, kl3_1, kr_1, krs_1, krs_2, kput_1, kput_2, kpk_1, klst_1, klst_2, kbor_1, ka2_1, ka1_1, ktup_1, kls_1, kB_1, kx3_1, kx2_1, kx1_1, kx4_1, kis2_1, kis_1, kp_1, ks3_1, ks2_1, ks1_1, kF_1, kF2_1, kF2_2, kF2_3, kF2_4, kF1_1, kW2_1, kW2_2, kW2_3, kW2_4, kW_1, kW_2, kg_1, ksa_1, ki_1, ki_2, ki_3, kap2_1, kap_1, ksx4_1, ksx3_1, ksx2_1, ksx1_1, kat_1, ko_1, kfin_1, kfin_2, klc2_1, klc_1, kC4_1, kC3_1, kC2_1, kC2_2, kC1_1, ksum_1, kst2_1, kst_1, kst_2, kRev_1, kRev_2, krg_1, krg2_1, krg1_1, kav_1, kav_2, krc_1, runFn_a, out_n, out_s, ini_a, iniL_n, iniL_0, iniL_e, sSeq_a, sSet_a, sPar_a, dNil_a, dCons_a, setAll_n, setAll_c, sIf_a, sRet_a, sExpr_a, sNext_a, sBreak_a, sCont_a, mC_a, mVar_a, mMove_a, fz_a, m1_a, m2_a, tst_a, tNot_a, tAnd_a, tOr_a, tYes_a, mAnd_a, mOr_a, mIf_a, mChain_a, mCall_a, mCallL_a, lNil_a, lCons_a, lLend_a, res_e, res_v, res_s, slot_0, slot_s, put_a, peek_a, lstAt_a, get_v, get_o, get_b, aNil_a, aCons_a, aStar_a, mTup_a, mLst_a, mB_a, mIxS_a, mLenS_a, mIsi_a, pNone_a, pSome_a, mSl_a, sFor_a, forL_n, forL_c, whN_s, gN_a, gT_a, gsC_a, gsN_a, sAsg_a, iSeq_a, sApp_a, sSetIx_a, mLc_a, lcL_n, lcL_c, wipe_n, wipe_c, rest_n, rest_c, allVal_n, allVal_c, mRev_a, mLRg_a, mLRg2_a, lt_int, le_int, gt_int, ge_int, sub_int, add_int, mod_int, fdiv_int, pow_int', mul_ok, eq_int, ne_int, neg_int, not_bl, abs_int, int_int, int_bl, max_2, min_2, max_3, min_3, len_l, len_t, len_s, lenB_l, lenB_t, lenB_s, ix_s, ixV_a, tuple_l, tuple_t, list_l, list_t, sum_l, isi_int, isi_bool, isi_tup, ix_fr0, ix_fr1, mul_l, cat_l, cat_t, sl_l, sl_t, sl_s, line, kq4_1, kq3_1, kq2_1, kq1_1, mSl3_a, kz2_1, kz_1, iZipM_a, ken2_1, ken_1, iEnM_a, kgt_1, gTM_a, seq_l, seq_t, ksrt_1, sorted_a, kpo4_1, kpo3_1, kpo2_1, kpo1_1, mPopAt_a, Nat.reduceLeDiff, Nat.zero_le, and_self, Nat.one_ne_zero, Nat.reduceEqDiff, reduceCtorEq, Bool.not_true, Bool.not_false, decide_true, decide_false, Bool.and_self, Bool.and_true, Bool.true_and, List.length_cons, List.length_nil, List.replicate, List.append_nil, List.cons_append, List.nil_append, Nat.reduceAdd, Nat.reduceSub, List.getElem?_cons_succ, List.getElem?_cons_zero, Nat.sub_self, List.set_cons_succ, List.set_cons_zero, ↓reduceIte, Nat.reduceLeDiff, Nat.reduceLT, e1, e, ih]
    · rcases List.mem_cons.mp hk with rfl | hk
      · exact ⟨by show 1 ≤ j + 1; omega, by show j + 1 ≤ most; omega⟩
      · exact h2 k hk
def WL : List Int := [1, 2, 3, 4, 7, 10, 64, 99, 500, 1000]
theorem wl_nodup : WL.Nodup := by decide
theorem wl_rng : ∀ w ∈ WL, 1 ≤ w ∧ w ≤ 1000 := by decide
theorem ints_nat {ws : List Int} (h : ∀ w ∈ ws, 0 ≤ w) : ws.map D.int = (ws.map Int.toNat).map fun w : Nat => D.int w := by
  rw [List.map_map]
  apply List.map_congr_left
  intro w hw
  have := h w hw
  show D.int w = D.int (w.toNat : Int)
  congr 1; omega
/-- what was drawn: rows with rising weights -/
structure Dr (ks : List (Nat × Nat)) (L : Nat) (most wm : Nat) : Prop where
  l0 : 1 ≤ ks.length
  l1 : ks.length ≤ L
  w : ∀ k ∈ ks, 1 ≤ k.1 ∧ k.1 ≤ wm
  m : ∀ k ∈ ks, 1 ≤ k.2 ∧ k.2 ≤ most
  up : ks.Pairwise fun a b => a.1 < b.1
theorem dr_of {xs : List Int} {wm : Nat} (hnd : xs.Nodup) (hr : ∀ w ∈ xs, 1 ≤ w ∧ w ≤ (wm : Int)) {left found : List Int} (hp : (left ++ found).Perm xs) {ks : List (Nat × Nat)} {L most : Nat} (h0 : 1 ≤ found.length) (hL : found.length ≤ L)
    (hk : ks.map (·.1) = (sortI found).map Int.toNat) (hm : ∀ k ∈ ks, 1 ≤ k.2 ∧ k.2 ≤ most) : Dr ks L most wm := by
  obtain ⟨u1, u2, u3⟩ := sorted_up hnd hp
  have hl : ks.length = found.length := by
    have := congrArg List.length hk
    simpa [u3] using this
  have hw : ∀ k ∈ ks, ∃ w ∈ sortI found, k.1 = w.toNat := fun k hkm => by
    have : k.1 ∈ ks.map (·.1) := List.mem_map.mpr ⟨k, hkm, rfl⟩
    rw [hk] at this
    obtain ⟨w, hw, e⟩ := List.mem_map.mp this
    exact ⟨w, hw, e.symm⟩
  refine ⟨by omega, by omega, fun k hkm => ?_, hm, ?_⟩
  · obtain ⟨w, hw, e⟩ := hw k hkm
    have := hr w (u2 w hw)
    omega
  · have p1 : ((sortI found).map Int.toNat).Pairwise (· < ·) := by
      refine List.pairwise_map.mpr ?_
      refine List.Pairwise.imp_of_mem ?_ u1
      intro a b ha hb hab
      have := hr a (u2 a ha)
      have := hr b (u2 b hb)
      omega
    rw [← hk] at p1
    exact List.pairwise_map.mp p1
theorem law_kinds_ok {n : Nat} {p : D} (hp : Pot n p) (hn : n < 1000) {most : Nat} (hm0 : 0 < most) (hm : most ≤ 200) : ∃ (ks : List (Nat × Nat)) (p' : D),
    f__law_kinds [p, .int 4, .int most] = some (.val (dK ks), p') ∧ Pot (n + 9) p' ∧ Dr ks 4 most 1000 := by
  obtain ⟨i, p1, e1, hp1, i0, i1⟩ := law_take_ok (F := 215987) (G := 7957) (H := 6911) (u := 4) (m := 10) hp (by omega) (by decide) (by decide) (by omega)
  obtain ⟨j, rfl⟩ : ∃ j : Nat, i = j := ⟨i.toNat, by omega⟩
  obtain ⟨p2, left, found, e2, hp2, hperm, hlen⟩ := law_some_ok (F := 215987) (G := 7957) (H := 6911) (k := j + 1) (xs := WL) hp1 (by omega) (by simp [WL]; omega) (by decide)
  have u := sorted_up wl_nodup hperm
  have hnn : ∀ w ∈ sortI found, 0 ≤ w := fun w hw => by have := wl_rng w (u.2.1 w hw); omega
  obtain ⟨ks, p3, e3, hp3, h1, h2⟩ := kinds_lc hm0 hm (some (.val (.int 4))) (some (.val (.lst (((sortI found).map Int.toNat).map fun w : Nat => D.int w)))) ((sortI found).map Int.toNat) _ p2 hp2 (by rw [List.length_map, u.2.2]; omega)
  have hl : ks.length ≤ 16777216 := by
    have := congrArg List.length h1
    simp [u.2.2] at this; omega
  refine ⟨ks, p3, ?_, hp3.mono (by rw [List.length_map, u.2.2]; omega), dr_of wl_nodup (fun w hw => by have := wl_rng w hw; omega) hperm (by omega) (by omega) h1 h2⟩
  have si : intsOf (found.map D.int) = some found := intsOf_map _
  have ei := ints_nat hnn
  have l2 : (((sortI found).map Int.toNat).map fun w : Nat => D.int w).length ≤ 16777216 := by simp [u.2.2]; omega
  have ej : (1 : Int) + (j : Int) = ((j + 1 : Nat) : Int) := by omega
  have eW : [D.int 1, .int 2, .int 3, .int 4, .int 7, .int 10, .int 64, .int 99, .int 500, .int 1000] = WL.map D.int := rfl
  rw [← eW] at e2
  simp only [f__law_kinds, b__law_kinds, e__law_take, e__law_some, kSeq_1, kSeq_2, kSeq_3, kSeq_4, kSet_1, kNx_1, kPar_1, kd2_1, kd1_1, kIf_1, kIf_2, kRt_1, kEx_1, kVar_1, kVar_2, kMov_1, kMov_2, kfz_1, kfz_2, kc_1, k1_1, k2b_1, k2a_1, kt_1, kn_1, kAnd_1, kAnd_2, kOr_1, kOr_2, kmA_1, kmA_2, kmO_1, kmO_2, kmI_1, kmI_2, kh4_1, kh3_1, kh3_2, kh2_1, kh1_1, kcb_1, kca_1, kL5_1, kL4_1, kL3_1, kL2_1, kL1_1, kl2_1, kl1_1, kl3_1, kr_1, krs_1, krs_2, kput_1, kput_2, kpk_1, klst_1, klst_2, kbor_1, ka2_1, ka1_1, ktup_1, kls_1, kB_1, kx3_1, kx2_1, kx1_1, kx4_1, kis2_1, kis_1, kp_1, ks3_1, ks2_1, ks1_1, kF_1, kF2_1, kF2_2, kF2_3, kF2_4, kF1_1, kW2_1, kW2_2, kW2_3, kW2_4, kW_1, kW_2, kg_1, ksa_1, ki_1, ki_2, ki_3, kap2_1, kap_1, ksx4_1, ksx3_1, ksx2_1, ksx1_1, kat_1, ko_1, kfin_1, kfin_2, klc2_1, klc_1, kC4_1, kC3_1, kC2_1, kC2_2, kC1_1, ksum_1, kst2_1, kst_1, kst_2, kRev_1, kRev_2, krg_1, krg2_1, krg1_1, kav_1, kav_2, krc_1, runFn_a, out_n, out_s, ini_a, iniL_n, iniL_0, iniL_e, sSeq_a, sSet_a, sPar_a, dNil_a, dCons_a, setAll_n, setAll_c, sIf_a, sRet_a, sExpr_a, sNext_a, sBreak_a, sCont_a, mC_a, mVar_a, mMove_a, fz_a, m1_a, m2_a, tst_a, tNot_a, tAnd_a, tOr_a, tYes_a, mAnd_a, mOr_a, mIf_a, mChain_a, mCall_a, mCallL_a, lNil_a, lCons_a, lLend_a, res_e, res_v, res_s, slot_0, slot_s, put_a, peek_a, lstAt_a, get_v, get_o, get_b, aNil_a, aCons_a, aStar_a, mTup_a, mLst_a, mB_a, mIxS_a, mLenS_a, mIsi_a, pNone_a, pSome_a, mSl_a, sFor_a, forL_n, forL_c, whN_s, gN_a, gT_a, gsC_a, gsN_a, sAsg_a, iSeq_a, sApp_a, sSetIx_a, mLc_a, lcL_n, lcL_c, wipe_n, wipe_c, rest_n, rest_c, allVal_n, allVal_c, mRev_a, mLRg_a, mLRg2_a, lt_int, le_int, gt_int, ge_int, sub_int, add_int, mod_int, fdiv_int, pow_int', mul_ok, eq_int, ne_int, neg_int, not_bl, abs_int, int_int, int_bl, max_2, min_2, max_3, min_3, len_l, len_t, len_s, lenB_l, lenB_t, lenB_s, ix_s, ixV_a, tuple_l, tuple_t, list_l, list_t, sum_l, isi_int, isi_bool, isi_tup, ix_fr0, ix_fr1, mul_l, cat_l, cat_t, sl_l, sl_t, sl_s, line, kq4_1, kq3_1, kq2_1, kq1_1, mSl3_a, kz2_1, kz_1, iZipM_a, ken2_1, ken_1, iEnM_a, kgt_1, gTM_a, seq_l, seq_t, ksrt_1, sorted_a, kpo4_1, kpo3_1, kpo2_1, kpo1_1, mPopAt_a, Nat.reduceLeDiff, Nat.zero_le, and_self, Nat.one_ne_zero, Nat.reduceEqDiff, reduceCtorEq, Bool.not_true, Bool.not_false, decide_true, decide_false, Bool.and_self, Bool.and_true, Bool.true_and, List.length_cons, List.length_nil, List.replicate, List.append_nil, List.cons_append, List.nil_append, Nat.reduceAdd, Nat.reduceSub, List.getElem?_cons_succ, List.getElem?_cons_zero, Nat.sub_self, List.set_cons_succ, List.set_cons_zero, ↓reduceIte, Nat.reduceLeDiff, Nat.reduceLT, e1, ej, e2, si, ei, l2, e3, dK]
end
end Wk64

set_option Elab.async false
set_option linter.all false
set_option maxRecDepth 100000
set_option maxHeartbeats 2000000
namespace Wk64
open PySem Cb
noncomputable section
/-! ### the identities -/
theorem NS_cons (d m : Nat) (q n : Rat) (qs ns : List Rat) : NS d m (q :: qs) (n :: ns) = nf d m q * n + NS d m qs ns := rfl
theorem NS_nil1 (d m : Nat) (ns : List Rat) : NS d m [] ns = 0 := rfl
theorem NS_nil2 (d m : Nat) (qs : List Rat) : NS d m qs [] = 0 := by cases qs <;> rfl
theorem nf_add (d a b : Nat) (q : Rat) : nf d (a + b) q = nf d a q + nf (d + a) b q := by
  unfold nf
  rw [show d + (a + b) = d + a + b by omega]; grind
theorem NS_add (d a b : Nat) : ∀ qs ns : List Rat, NS d (a + b) qs ns = NS d a qs ns + NS (d + a) b qs ns
  | [], ns => by simp only [NS_nil1]; grind
  | q :: qs, [] => by simp only [NS_nil2]; grind
  | q :: qs, n :: ns => by
    rw [NS_cons, NS_cons, NS_cons, NS_add d a b qs ns, nf_add]; grind
def num (k : Nat × Nat) : Rat := (k.2 : Rat)
theorem NS_mk (w d m : Nat) : ∀ ks : List (Nat × Nat), NS d m (ks.map (q1 w)) (ks.map num) = (ks.map (mk w (d + m))).sum - (ks.map (mk w d)).sum
  | [] => by simp only [List.map_nil, NS_nil1, List.sum_nil]; grind
  | k :: ks => by
    simp only [List.map_cons, NS_cons, List.sum_cons, NS_mk w d m ks]
    unfold nf mk num; grind
theorem NS_un (w d : Nat) : ∀ ks : List (Nat × Nat), NS d 1 (ks.map (q1 w)) (ks.map num) = (ks.map (un w d)).sum
  | [] => rfl
  | k :: ks => by
    simp only [List.map_cons, NS_cons, List.sum_cons, NS_un w d ks]
    unfold nf un num
    rw [Rat.pow_succ]; grind
theorem tm_un (w d : Nat) : ∀ ks : List (Nat × Nat), (ks.map (tm w d)).sum = ((d + 1 : Nat) : Rat) * (ks.map (un w d)).sum
  | [] => by simp only [List.map_nil, List.sum_nil]; grind
  | k :: ks => by
    simp only [List.map_cons, List.sum_cons, tm_un w d ks]
    unfold tm un
    rw [Rat.natCast_mul, Rat.pow_one]; grind
theorem rpow_add (a : Rat) (d : Nat) : ∀ m : Nat, a ^ (d + m) = a ^ d * a ^ m
  | 0 => by rw [Rat.pow_zero, Nat.add_zero]; grind
  | m + 1 => by
    have e : a ^ (d + (m + 1)) = a ^ (d + m) * a := Rat.pow_succ a (d + m)
    rw [e, rpow_add a d m, Rat.pow_succ]; grind
theorem nf_anti {w d b a : Nat} {q : Rat} (h : Sh w q) : nf (d + b) a q ≤ nf d a q := by
  have p := h.pos
  have l := h.le
  have r0 : 0 ≤ 1 - q := by grind
  have r1 : 1 - q ≤ 1 := by grind
  have x := pow_le1 r0 r1 a
  have y := pow_anti r0 r1 d b
  have e1 := rpow_add (1 - q) d a
  have e2 := rpow_add (1 - q) (d + b) a
  unfold nf
  rw [e1, e2]
  have g : (1 - q) ^ (d + b) * (1 - (1 - q) ^ a) ≤ (1 - q) ^ d * (1 - (1 - q) ^ a) := Rat.mul_le_mul_of_nonneg_right y (by grind)
  grind
theorem NS_anti {w d b a : Nat} : ∀ {qs ns : List Rat}, (∀ q ∈ qs, Sh w q) → (∀ n ∈ ns, 0 ≤ n) → NS (d + b) a qs ns ≤ NS d a qs ns
  | [], ns, _, _ => by simp only [NS_nil1]; exact Rat.le_refl
  | q :: qs, [], _, _ => by simp only [NS_nil2]; exact Rat.le_refl
  | q :: qs, n :: ns, h, g => by
    rw [NS_cons, NS_cons]
    have ih := NS_anti (d := d) (b := b) (a := a) (qs := qs) (ns := ns) (fun x hx => h x (List.mem_cons_of_mem _ hx)) (fun x hx => g x (List.mem_cons_of_mem _ hx))
    have t := nf_anti (d := d) (b := b) (a := a) (h q (List.mem_cons_self ..))
    have u : nf (d + b) a q * n ≤ nf d a q * n := Rat.mul_le_mul_of_nonneg_right t (g n (List.mem_cons_self ..))
    grind
def hf (x y : Rat) : Rat := (1 / 2) * (x + y)
theorem NS_half (d m : Nat) : ∀ qs xs ys : List Rat, xs.length = qs.length → ys.length = qs.length → NS d m qs (List.zipWith hf xs ys) = (1 / 2) * (NS d m qs xs + NS d m qs ys)
  | [], xs, ys, _, _ => by simp only [NS_nil1]; grind
  | q :: qs, x :: xs, y :: ys, h1, h2 => by
    rw [List.zipWith_cons_cons, NS_cons, NS_cons, NS_cons, NS_half d m qs xs ys (by simpa using h1) (by simpa using h2)]
    unfold hf; grind
  | q :: qs, [], ys, h1, _ => by simp at h1
  | q :: qs, x :: xs, [], _, h2 => by simp at h2
theorem dot_half : ∀ qs xs ys : List Rat, xs.length = qs.length → ys.length = qs.length → (List.zipWith (· * ·) qs (List.zipWith hf xs ys)).sum = (1 / 2) * ((List.zipWith (· * ·) qs xs).sum + (List.zipWith (· * ·) qs ys).sum)
  | [], xs, ys, _, _ => by simp only [List.zipWith_nil_left, List.sum_nil]; grind
  | q :: qs, x :: xs, y :: ys, h1, h2 => by
    simp only [List.zipWith_cons_cons, List.sum_cons, dot_half qs xs ys (by simpa using h1) (by simpa using h2)]
    unfold hf; grind
  | q :: qs, [], ys, h1, _ => by simp at h1
  | q :: qs, x :: xs, [], _, h2 => by simp at h2
/-- one share alone told: as often as it goes into one -/
def rowAt (at_ : Nat) : Nat → List Rat → List Rat
  | _, [] => []
  | i, q :: qs => (if i = at_ then 1 / q else 0) :: rowAt at_ (i + 1) qs
theorem rowAt_len (a : Nat) : ∀ (i : Nat) (qs : List Rat), (rowAt a i qs).length = qs.length
  | _, [] => rfl
  | i, q :: qs => by show (rowAt a (i + 1) qs).length + 1 = _; rw [rowAt_len a (i + 1) qs]; rfl
theorem rowAt_past (a : Nat) : ∀ (i : Nat) (qs : List Rat), a < i → (List.zipWith (· * ·) qs (rowAt a i qs)).sum = 0
  | _, [], _ => rfl
  | i, q :: qs, h => by
    have e : rowAt a i (q :: qs) = 0 :: rowAt a (i + 1) qs := by
      show (if i = a then 1 / q else 0) :: _ = _
      rw [if_neg (by omega)]
    rw [e, List.zipWith_cons_cons, List.sum_cons, rowAt_past a (i + 1) qs (by omega)]; grind
theorem rowAt_dot (a : Nat) : ∀ (i : Nat) (qs : List Rat), i ≤ a → a < i + qs.length → (∀ q ∈ qs, 0 < q) → (List.zipWith (· * ·) qs (rowAt a i qs)).sum = 1
  | i, [], h1, h2, _ => by simp at h2; omega
  | i, q :: qs, h1, h2, h3 => by
    by_cases h : i = a
    · have e : rowAt a i (q :: qs) = (1 / q) :: rowAt a (i + 1) qs := by
        show (if i = a then 1 / q else 0) :: _ = _
        rw [if_pos h]
      have := h3 q (List.mem_cons_self ..)
      rw [e, List.zipWith_cons_cons, List.sum_cons, rowAt_past a (i + 1) qs (by omega)]
      have hq : q ≠ 0 := by grind
      have : q * (1 / q) = 1 := by grind
      rw [this]; grind
    · have e : rowAt a i (q :: qs) = 0 :: rowAt a (i + 1) qs := by
        show (if i = a then 1 / q else 0) :: _ = _
        rw [if_neg h]
      rw [e, List.zipWith_cons_cons, List.sum_cons, rowAt_dot a (i + 1) qs (by omega) (by simp at h2; omega) (fun x hx => h3 x (List.mem_cons_of_mem _ hx))]; grind
theorem dot_num {w : Nat} (h0 : 0 < w) : ∀ ks : List (Nat × Nat), (List.zipWith (· * ·) (ks.map (q1 w)) (ks.map num)).sum = ((W ks : Nat) : Rat) / (w : Rat)
  | [] => by
    show (0 : Rat) = ((0 : Nat) : Rat) / (w : Rat)
    rw [Rat.div_def]; simp
  | k :: ks => by
    have e : W (k :: ks) = k.1 * k.2 + W ks := rfl
    have hw := nat_ne h0
    rw [e]
    simp only [List.map_cons, List.zipWith_cons_cons, List.sum_cons, dot_num h0 ks, Rat.natCast_add, Rat.natCast_mul]
    unfold q1 num; grind
end
end Wk64

set_option Elab.async false
set_option linter.all false
set_option maxRecDepth 100000
set_option maxHeartbeats 2000000
namespace Wk64
open PySem Cb
noncomputable section
theorem q1_lt {w : Nat} (h0 : 0 < w) {a b : Nat × Nat} (h : a.1 < b.1) : q1 w a < q1 w b := by
  unfold q1
  rw [Rat.div_def, Rat.div_def]
  exact Rat.mul_lt_mul_of_pos_right (Rat.natCast_lt_natCast.mpr h) (Rat.inv_pos.mpr (Rat.natCast_pos.mpr h0))
theorem qs_ks {ks : List (Nat × Nat)} (h : Ki ks) : Qs (W ks) (ks.map (q1 (W ks))) where
  ne := by simpa using h.ne
  len := by rw [List.length_map]; exact h.len
  sh := fun q hq => by
    obtain ⟨k, hk, rfl⟩ := List.mem_map.mp hq
    exact (h.rw k hk).sh
  up := List.pairwise_map.mpr (h.up.imp fun hab => q1_lt (W_pos h) hab)
theorem c256 : ((256 : Nat) : Rat) ≤ 2048 := by decide +kernel
theorem ns_ks {ks : List (Nat × Nat)} (h : Ki ks) : Ns 1 (ks.map num) where
  dv := fun n hn => by
    obtain ⟨k, hk, rfl⟩ := List.mem_map.mp hn
    exact natdv _
  nn := fun n hn => by
    obtain ⟨k, hk, rfl⟩ := List.mem_map.mp hn
    exact Rat.natCast_nonneg
  le := fun n hn => by
    obtain ⟨k, hk, rfl⟩ := List.mem_map.mp hn
    exact Rat.le_trans (Rat.natCast_le_natCast.mpr (h.m k hk).2) c256
  v0 := by decide
  v := by decide
theorem dot_ks {ks : List (Nat × Nat)} (h : Ki ks) : (List.zipWith (· * ·) (ks.map (q1 (W ks))) (ks.map num)).sum = 1 := by
  have h0 := W_pos h
  rw [dot_num h0, Rat.div_def, Rat.mul_inv_cancel _ (nat_ne h0)]
theorem inv_fact {w : Nat} {q : Rat} (h : Sh w q) (h0 : 0 < w) : Dv q.num.toNat (1 / q) ∧ 0 ≤ 1 / q ∧ 1 / q ≤ (w : Rat) ∧ 0 < q.num.toNat ∧ q.num.toNat ≤ w := by
  have hn := sh_num h
  have hd : q.den ≤ w := Nat.le_of_dvd h0 h.dv
  have e : 1 / q = q⁻¹ := by rw [Rat.div_def, Rat.one_mul]
  have dp := q.den_pos
  rw [e]
  have h1 : (q⁻¹).den = q.num.toNat := by rw [Rat.den_inv, if_neg (by omega)]; omega
  have h2 : (q⁻¹).num = q.den := by rw [Rat.num_inv, Int.sign_eq_one_of_pos hn.1, Int.one_mul]
  refine ⟨by unfold Dv; rw [h1]; exact Nat.dvd_refl _, ?_, ?_, by omega, by omega⟩
  · have := Rat.inv_pos.mpr h.pos
    grind
  · rw [Rat.le_iff, h1, h2]
    have e1 : ((w : Rat)).num = w := rfl
    have e2 : ((w : Rat)).den = 1 := rfl
    rw [e1, e2]
    have : (w : Int) * 1 ≤ (w : Int) * (q.num.toNat : Int) := Int.mul_le_mul_of_nonneg_left (by omega) (by omega)
    omega
theorem rowAt_zero (a : Nat) : ∀ (i : Nat) (qs : List Rat), a < i → ∀ n ∈ rowAt a i qs, n = 0
  | _, [], _, n, hn => by cases hn
  | i, q :: qs, h, n, hn => by
    have e : rowAt a i (q :: qs) = 0 :: rowAt a (i + 1) qs := by
      show (if i = a then 1 / q else 0) :: _ = _
      rw [if_neg (by omega)]
    rw [e] at hn
    rcases List.mem_cons.mp hn with rfl | hn
    · rfl
    · exact rowAt_zero a (i + 1) qs (by omega) n hn
theorem zero_dv {V : Nat} : Dv V (0 : Rat) := by unfold Dv; simp
theorem rowAt_dv {w : Nat} (h0 : 0 < w) (a : Nat) : ∀ (i : Nat) (qs : List Rat), (∀ q ∈ qs, Sh w q) → ∃ V, 0 < V ∧ V ≤ w ∧ ∀ n ∈ rowAt a i qs, Dv V n ∧ 0 ≤ n ∧ n ≤ (w : Rat)
  | i, [], _ => ⟨1, by decide, h0, by intro n hn; cases hn⟩
  | i, q :: qs, h => by
    have w0 : (0 : Rat) ≤ (w : Rat) := Rat.natCast_nonneg
    by_cases hi : i = a
    · obtain ⟨a1, a2, a3, a4, a5⟩ := inv_fact (h q (List.mem_cons_self ..)) h0
      refine ⟨q.num.toNat, a4, a5, fun n hn => ?_⟩
      have e : rowAt a i (q :: qs) = (1 / q) :: rowAt a (i + 1) qs := by
        show (if i = a then 1 / q else 0) :: _ = _
        rw [if_pos hi]
      rw [e] at hn
      rcases List.mem_cons.mp hn with rfl | hn
      · exact ⟨a1, a2, a3⟩
      · rw [rowAt_zero a (i + 1) qs (by omega) n hn]; exact ⟨zero_dv, Rat.le_refl, w0⟩
    · obtain ⟨V, v1, v2, v3⟩ := rowAt_dv h0 a (i + 1) qs (fun x hx => h x (List.mem_cons_of_mem _ hx))
      refine ⟨V, v1, v2, fun n hn => ?_⟩
      have e : rowAt a i (q :: qs) = 0 :: rowAt a (i + 1) qs := by
        show (if i = a then 1 / q else 0) :: _ = _
        rw [if_neg hi]
      rw [e] at hn
      rcases List.mem_cons.mp hn with rfl | hn
      · exact ⟨zero_dv, Rat.le_refl, w0⟩
      · exact v3 n hn
theorem c1000 : ((1000 : Nat) : Rat) ≤ 2048 := by decide +kernel
theorem ns_row {w : Nat} (h0 : 0 < w) (hw : w ≤ 1000) (a : Nat) {qs : List Rat} (h : ∀ q ∈ qs, Sh w q) : ∃ V, V ≤ 1000 ∧ Ns V (rowAt a 0 qs) := by
  obtain ⟨V, v1, v2, v3⟩ := rowAt_dv h0 a 0 qs h
  have hw' : (w : Rat) ≤ ((1000 : Nat) : Rat) := Rat.natCast_le_natCast.mpr hw
  have c := c1000
  exact ⟨V, by omega, fun n hn => (v3 n hn).1, fun n hn => (v3 n hn).2.1, fun n hn => by have := (v3 n hn).2.2; grind, v1, by omega⟩
theorem half_dv : Dv 2 ((1 : Rat) / 2) := by
  unfold Dv; rw [(by decide +kernel : ((1 : Rat) / 2).den = 2)]; exact Nat.dvd_refl _
theorem ns_half {V U : Nat} {xs ys : List Rat} (hV : V ≤ 1000) (hU : U ≤ 1000) (h : Ns V xs) (g : Ns U ys) : Ns (2 * (V * U)) (List.zipWith hf xs ys) := by
  have l : V * U ≤ 1000 * 1000 := Nat.mul_le_mul hV hU
  refine ⟨fun n hn => ?_, fun n hn => ?_, fun n hn => ?_, Nat.mul_pos (by decide) (Nat.mul_pos h.v0 g.v0), by omega⟩
  all_goals obtain ⟨x, hx, y, hy, rfl⟩ := mem_zw hn
  · exact half_dv.mul (((h.dv x hx).mono (Nat.dvd_mul_right _ _)).add ((g.dv y hy).mono (Nat.dvd_mul_left _ _)))
  · have a := h.nn x hx
    have b := g.nn y hy
    unfold hf; grind
  · have a := h.le x hx
    have b := g.le y hy
    unfold hf; grind
theorem Nice.sum_fs {V n m : Nat} {ls : List Rat} (h : Nice V n m ls) : Fs (n + m) ls.sum := by
  obtain ⟨h1, h2, h3, h4, h5⟩ := h
  have dv : ∀ ls : List Rat, (∀ q ∈ ls, Dv V q) → Dv V ls.sum := by
    intro ls
    induction ls with
    | nil => intro _; exact zero_dv
    | cons a r ih =>
      intro h
      rw [List.sum_cons]
      exact (h a (List.mem_cons_self ..)).add (ih fun q hq => h q (List.mem_cons_of_mem _ hq))
  have p0 : (0 : Rat) ≤ (2 : Rat) ^ m := Rat.pow_nonneg (by decide)
  have s0 := sum_nonneg h2
  exact (dv ls h1).fs h4 h5 h3 (by grind)
theorem NS_fs {w V d m : Nat} {qs ns : List Rat} (h : Qs w qs) (hw : w ≤ 1000) (h0 : 0 < w) (hn : Ns V ns) : Fs (10 * (d + m) + 45) (NS d m qs ns) := by
  have N2 : Nice (w ^ (d + m) * V) (10 * (d + m) + 1 + 24) 20 (List.zipWith (fun q n => nf d m q * n) qs ns) := nice_of (fun x hx => by
    obtain ⟨q, hq, n, hn', rfl⟩ := mem_zw hx
    obtain ⟨a, b, c⟩ := nf_fact (d := d) (m := m) (h.sh q hq) hw h0
    have n0 := hn.nn n hn'
    have nl := hn.le n hn'
    have g : nf d m q * n ≤ 1 * n := Rat.mul_le_mul_of_nonneg_right c n0
    have b64 : (2048 : Rat) ≤ 65536 := by decide +kernel
    exact ⟨a.mul (hn.dv n hn'), Rat.mul_nonneg b n0, by grind⟩) (by have := h.len; rw [List.length_zipWith]; omega) (Nat.mul_pos (Nat.pow_pos h0) hn.v0) (by
      have := Nat.mul_lt_mul'' (wpow hw (d + m)) hn.v
      rwa [← Nat.pow_add] at this)
  exact (Nice.sum_fs N2).mono (by omega)
theorem mk_fs {ks : List (Nat × Nat)} (h : Ki ks) (hW : W ks ≤ 1000) (d : Nat) : Fs (10 * d + 21) (ks.map (mk (W ks) d)).sum := by
  have N : Nice (W ks ^ d) (10 * d + 1) 20 (ks.map (mk (W ks) d)) := nice_of (fun x hx => by
    obtain ⟨k, hk, rfl⟩ := List.mem_map.mp hx
    exact (mk_fact (h.rw k hk) hW (W_pos h)).2) (by rw [List.length_map]; exact h.len) (Nat.pow_pos (W_pos h)) (wpow hW d)
  exact (Nice.sum_fs N).mono (by omega)
theorem un_fs {ks : List (Nat × Nat)} (h : Ki ks) (hW : W ks ≤ 1000) (d : Nat) : Fs (10 * d + 31) (ks.map (un (W ks) d)).sum := by
  have N : Nice (W ks ^ (d + 1)) (10 * (d + 1) + 1) 20 (ks.map (un (W ks) d)) := nice_of (fun x hx => by
    obtain ⟨k, hk, rfl⟩ := List.mem_map.mp hx
    obtain ⟨a, b, c, e⟩ := un_fact (d := d) (h.rw k hk) hW (W_pos h)
    exact ⟨b, c, by grind⟩) (by rw [List.length_map]; exact h.len) (Nat.pow_pos (W_pos h)) (wpow hW _)
  exact (Nice.sum_fs N).mono (by omega)
theorem sum_ge : ∀ {ns : List Nat} {B : Nat}, (∀ n ∈ ns, n ≤ B) → ns.sum ≤ ns.length * B
  | [], _, _ => by simp
  | n :: ns, B, h => by
    have h1 := h n (List.mem_cons_self ..)
    have h2 := sum_ge (ns := ns) (B := B) fun x hx => h x (List.mem_cons_of_mem _ hx)
    rw [List.sum_cons, List.length_cons, Nat.add_mul]; omega
theorem Dr.ki {ks : List (Nat × Nat)} {most wm : Nat} (h : Dr ks 4 most wm) (hm : most ≤ 60) (hw : wm ≤ 1000) : Ki ks where
  ne := fun z => by have := h.l0; rw [z] at this; simp at this
  len := by have := h.l1; omega
  w := fun k hk => by have := h.w k hk; omega
  m := fun k hk => by have := h.m k hk; omega
  up := h.up
  all := by
    have := sum_ge (ns := ks.map (·.2)) (B := most) fun n hn => by
      obtain ⟨k, hk, rfl⟩ := List.mem_map.mp hn
      exact (h.m k hk).2
    rw [List.length_map] at this
    have l := h.l1
    have : ks.length * most ≤ 4 * 60 := Nat.mul_le_mul l hm
    omega
theorem Dr.small {ks : List (Nat × Nat)} (h : Dr ks 4 5 40) : W ks ≤ 1000 := by
  have := sum_ge (ns := ks.map fun k => k.1 * k.2) (B := 200) fun n hn => by
    obtain ⟨k, hk, rfl⟩ := List.mem_map.mp hn
    have a := (h.m k hk).2
    have b := (h.w k hk).2
    have : k.1 * k.2 ≤ 40 * 5 := Nat.mul_le_mul b a
    omega
  rw [List.length_map] at this
  have l := h.l1
  have : ks.length * 200 ≤ 4 * 200 := Nat.mul_le_mul_right _ l
  unfold W; omega
end
end Wk64

set_option Elab.async false
set_option linter.all false
set_option maxRecDepth 100000
set_option maxHeartbeats 4000000
namespace Wk64
open PySem Cb
noncomputable section
def R17 : MS := (sRet (m2 dEq (mIxS 18 (mC (.int 2))) (mCall f__law_times (aCons (mTup (aCons (mC (.int 1)) (aCons (mC (.int 2)) aNil))) (aCons (mCall f__law_plus (aCons (mIxS 18 (mC (.int 0))) (aCons (mIxS 18 (mC (.int 1))) aNil))) aNil)))))
def R16 : MS := sSeq (sSet 18 (mLc (iSeq (m2 dAdd (mVar 15) (mLst (aCons (mVar 17) aNil)))) (gN 26) tYesM (mCall f_new_by_kinds (aCons (mVar 3) (aCons (mVar 26) (aCons (mVar 5) (aCons (mVar 6) aNil))))) [26])) R17
def R15 : MS := sSeq (sSet 17 (mB dTuple (aCons (mLc (iZipM (aCons (mIxS 15 (mC (.int 0))) (aCons (mIxS 15 (mC (.int 1))) aNil))) (gTM (gsCons (gN 24) (gsCons (gN 25) gsNil))) tYesM (mCall f__law_times (aCons (mTup (aCons (mC (.int 1)) (aCons (mC (.int 2)) aNil))) (aCons (mCall f__law_plus (aCons (mVar 24) (aCons (mVar 25) aNil))) aNil))) [24, 25]) aNil))) R16
def R14 : MS := sSeq (sFor (iSeq (mTup (aCons (mVar 13) (aCons (mVar 14) aNil)))) (gN 16) (sApp 15 (mB dTuple (aCons (mLc (iEnM (aCons (mVar 3) aNil)) (gTM (gsCons (gN 22) (gsCons (gN 23) gsNil))) tYesM (mIf (tst (m2 dEq (mVar 22) (mVar 16))) (mCall f__law_ratio (aCons (mIxS 23 (mC (.int 1))) (aCons (mIxS 23 (mC (.int 0))) aNil))) (mTup (aCons (mC (.int 0)) (aCons (mC (.int 1)) aNil)))) [22, 23]) aNil)))) R15
def R13 : MS := sSeq (sSet 15 (mLst aNil)) R14
def R12 : MS := sSeq (sPar [13, 14] (dCons (mCallL 0 f__law_take (lLend 0 (lCons (mLenS 3) lNil))) (dCons (mCallL 0 f__law_take (lLend 0 (lCons (mLenS 3) lNil))) dNil))) R13
def R11 : MS := sSeq (sIf (tst (m2 dNe (mCall f_mean_times (aCons (mVar 1) (aCons (m2 dAdd (mVar 5) (mC (.int 1))) (aCons (mC (.int 1)) aNil)))) (mCall f__law_times (aCons (mTup (aCons (m2 dAdd (mVar 5) (mC (.int 1))) (aCons (mC (.int 1)) aNil))) (aCons (mCall f_mean_unseen (aCons (mVar 1) (aCons (mVar 5) aNil))) aNil))))) (sRet (mC (.bl false))) sNext) R12
def R10 : MS := sSeq (sIf (tst (m2 dNe (mCall f_new_by_kinds (aCons (mVar 3) (aCons (mVar 4) (aCons (mVar 5) (aCons (mC (.int 1)) aNil))))) (mCall f_mean_unseen (aCons (mVar 1) (aCons (mVar 5) aNil))))) (sRet (mC (.bl false))) sNext) R11
def R9 : MS := sSeq (sIf (tOrm (tst (m2 dNe (mVar 10) (mCall f__law_plus (aCons (mVar 11) (aCons (mVar 12) aNil))))) (tOrm (tst (mCall f__law_below (aCons (mVar 8) (aCons (mVar 12) aNil)))) (tst (mCall f__law_below (aCons (mVar 11) (aCons (mVar 9) aNil)))))) (sRet (mC (.bl false))) sNext) R10
def R8 : MS := sSeq (sPar [11, 12] (dCons (mCall f_new_by_kinds (aCons (mVar 3) (aCons (mVar 4) (aCons (mVar 5) (aCons (mVar 7) aNil))))) (dCons (mCall f_new_by_kinds (aCons (mVar 3) (aCons (mVar 4) (aCons (m2 dAdd (mVar 5) (mVar 7)) (aCons (mVar 6) aNil))))) dNil))) R9
def R7 : MS := sSeq (sIf (tOrm (tst (m2 dNe (mVar 10) (mCall f__law_plus (aCons (mVar 8) (aCons (mVar 9) aNil))))) (tst (m2 dNe (mVar 10) (mCall f__law_less (aCons (mCall f_mean_kinds (aCons (mVar 1) (aCons (m2 dAdd (m2 dAdd (mVar 5) (mVar 6)) (mVar 7)) aNil))) (aCons (mCall f_mean_kinds (aCons (mVar 1) (aCons (mVar 5) aNil))) aNil)))))) (sRet (mC (.bl false))) sNext) R8
def R6 : MS := sSeq (sSet 10 (mCall f_new_by_kinds (aCons (mVar 3) (aCons (mVar 4) (aCons (mVar 5) (aCons (m2 dAdd (mVar 6) (mVar 7)) aNil)))))) R7
def R5 : MS := sSeq (sPar [8, 9] (dCons (mCall f_new_by_kinds (aCons (mVar 3) (aCons (mVar 4) (aCons (mVar 5) (aCons (mVar 6) aNil))))) (dCons (mCall f_new_by_kinds (aCons (mVar 3) (aCons (mVar 4) (aCons (m2 dAdd (mVar 5) (mVar 6)) (aCons (mVar 7) aNil))))) dNil))) R6
def R4 : MS := sSeq (sAsg (mLc (iRng (aCons (mC (.int 3)) aNil)) (gN 21) tYesM (m2 dAdd (mC (.int 1)) (mB dInt (aCons (mCallL 0 f__law_take (lLend 0 (lCons (mCallL 0 f__law_of (lLend 0 (lCons (mLst (aCons (mC (.int 4)) (aCons (mC (.int 30)) aNil))) lNil))) lNil))) aNil))) [21]) (gTM (gsCons (gN 5) (gsCons (gN 6) (gsCons (gN 7) gsNil))))) R5
def R3 : MS := sSeq (sPar [3, 4] (dCons (mB dTuple (aCons (mLc (iSeq (mVar 1)) (gTM (gsCons (gN 19) (gsCons (gN 20) gsNil))) tYesM (mCall f__law_ratio (aCons (mVar 19) (aCons (mVar 2) aNil))) [19, 20]) aNil)) (dCons (mB dTuple (aCons (mLc (iSeq (mVar 1)) (gTM (gsCons (gN 19) (gsCons (gN 20) gsNil))) tYesM (mTup (aCons (mVar 20) (aCons (mC (.int 1)) aNil))) [19, 20]) aNil)) dNil))) R4
def R2 : MS := sSeq (sIf (tst (m2 dGt (mVar 2) (mC (.int 1000)))) (sSeq (sSet 1 (mB dTuple (aCons (mLc (iSeq (mB dSorted (aCons (mCallL 0 f__law_some (lLend 0 (lCons (mLst (aCons (mC (.int 1)) (aCons (mC (.int 2)) (aCons (mC (.int 3)) (aCons (mC (.int 5)) (aCons (mC (.int 8)) (aCons (mC (.int 13)) (aCons (mC (.int 40)) aNil)))))))) (lCons (m2 dAdd (mC (.int 1)) (mCallL 0 f__law_take (lLend 0 (lCons (mC (.int 4)) lNil)))) lNil)))) aNil))) (gN 19) tYesM (mTup (aCons (mVar 19) (aCons (m2 dAdd (mC (.int 1)) (mB dInt (aCons (mCallL 0 f__law_take (lLend 0 (lCons (mC (.int 5)) lNil))) aNil))) aNil))) [19]) aNil)))
    (sSet 2 (mB dSum (aCons (mLc (iSeq (mVar 1)) (gTM (gsCons (gN 19) (gsCons (gN 20) gsNil))) tYesM (m2 dMul (mVar 19) (mVar 20)) [19, 20]) aNil)))) sNext) R3
def R1 : MS := sSeq (sSet 2 (mB dSum (aCons (mLc (iSeq (mVar 1)) (gTM (gsCons (gN 19) (gsCons (gN 20) gsNil))) tYesM (m2 dMul (mVar 19) (mVar 20)) [19, 20]) aNil))) R2
def R0 : MS := sSeq (sSet 1 (mCallL 0 f__law_kinds (lLend 0 (lCons (mC (.int 4)) (lCons (mCallL 0 f__law_of (lLend 0 (lCons (mLst (aCons (mC (.int 2)) (aCons (mC (.int 15)) aNil))) lNil))) lNil))))) R1
theorem R_eq : b__law_right = R0 := rfl

theorem r5 {ks : List (Nat × Nat)} (h : Ki ks) (hW : W ks ≤ 1000) {d a b : Nat} (hd : d + a + b ≤ 100) (d0 : 1 ≤ b) (p : D) (x2 : Option DV) : ∃ y8 y9 y10 y11 y12 : Option DV,
    R5 [some (.bor p), some (.val (dK ks)), x2, some (.val (.tup ((ks.map (q1 (W ks))).map fr))), some (.val (.tup ((ks.map num).map fr))), some (.val (.int d)), some (.val (.int a)), some (.val (.int b)), none, none, none, none, none, none, none, none, none, none, none, none, none, none, none, none, none, none, none] =
    R12 [some (.bor p), some (.val (dK ks)), x2, some (.val (.tup ((ks.map (q1 (W ks))).map fr))), some (.val (.tup ((ks.map num).map fr))), some (.val (.int d)), some (.val (.int a)), some (.val (.int b)), y8, y9, y10, y11, y12, none, none, none, none, none, none, none, none, none, none, none, none, none, none] := by
  have h0 := W_pos h
  have Q := qs_ks h
  have Nn := ns_ks h
  have hl : (ks.map num).length = (ks.map (q1 (W ks))).length := by simp
  have dot := dot_ks h
  have nb := fun (d m : Nat) (hd : d + m ≤ 200) => new_by_ok (d := d) (m := m) Q hW h0 Nn hl dot hd
  have fs := fun (d m : Nat) => NS_fs (d := d) (m := m) Q hW h0 Nn
  have k1 : (d : Int) + (a : Int) = ((d + a : Nat) : Int) := by omega
  have k2 : (a : Int) + (b : Int) = ((a + b : Nat) : Int) := by omega
  have k3 : (d : Int) + (b : Int) = ((d + b : Nat) : Int) := by omega
  have k4 : ((d + a : Nat) : Int) + (b : Int) = ((d + (a + b) : Nat) : Int) := by omega
  have k5 : (d : Int) + 1 = ((d + 1 : Nat) : Int) := by omega
  have n1 := nb d a (by omega)
  have n2 := nb (d + a) b (by omega)
  have n3 := nb d (a + b) (by omega)
  have n4 := nb d b (by omega)
  have n5 := nb (d + b) a (by omega)
  have n6 := nb d 1 (by omega)
  rw [NS_un] at n6
  have kk : ((1 : Nat) : Int) = 1 := rfl
  rw [kk] at n6
  have p1 := law_plus_ok (fs d a) (fs (d + a) b) (by omega)
  rw [← NS_add] at p1
  have p2 := law_plus_ok (fs d b) (fs (d + b) a) (by omega)
  rw [← NS_add, show b + a = a + b by omega] at p2
  have m1' := mean_kinds_ok h hW (d := d + (a + b)) (by omega)
  have m2' := mean_kinds_ok h hW (d := d) (by omega)
  have l1 := law_less_ok (mk_fs h hW (d + (a + b))) (mk_fs h hW d) (by omega)
  rw [← NS_mk] at l1
  have sh : ∀ q ∈ ks.map (q1 (W ks)), Sh (W ks) q := Q.sh
  have b1 := law_below_ok (fs d a) (fs (d + b) a) (by omega)
  have z1 : decide (NS d a (ks.map (q1 (W ks))) (ks.map num) < NS (d + b) a (ks.map (q1 (W ks))) (ks.map num)) = false := by
    rw [decide_eq_false_iff_not]
    have := NS_anti (d := d) (b := b) (a := a) sh Nn.nn
    grind
  rw [z1] at b1
  have b2 := law_below_ok (fs d b) (fs (d + a) b) (by omega)
  have z2 : decide (NS d b (ks.map (q1 (W ks))) (ks.map num) < NS (d + a) b (ks.map (q1 (W ks))) (ks.map num)) = false := by
    rw [decide_eq_false_iff_not]
    have := NS_anti (d := d) (b := a) (a := b) sh Nn.nn
    grind
  rw [z2] at b2
  have u1 := mean_unseen_ok h hW (d := d) (by omega)
  have t1 := mean_times_ok h hW (d := d) (by omega)
  rw [tm_un] at t1
  have t2 := law_times_ok (nat_fs (a := d + 1) (k := 8) (by omega) (by decide)) (un_fs h hW d) (by omega)
  refine ⟨some (.val (fr (NS d a (ks.map (q1 (W ks))) (ks.map num)))), some (.val (fr (NS (d + a) b (ks.map (q1 (W ks))) (ks.map num)))), some (.val (fr (NS d (a + b) (ks.map (q1 (W ks))) (ks.map num)))), some (.val (fr (NS d b (ks.map (q1 (W ks))) (ks.map num)))), some (.val (fr (NS (d + b) a (ks.map (q1 (W ks))) (ks.map num)))), ?_⟩
  simp only [R5, R6, R7, R8, R9, R10, R11, e__law_plus, e__law_less, e__law_below, e__law_times, kSeq_1, kSeq_2, kSeq_3, kSeq_4, kSet_1, kNx_1, kPar_1, kd2_1, kd1_1, kIf_1, kIf_2, kRt_1, kEx_1, kVar_1, kVar_2, kMov_1, kMov_2, kfz_1, kfz_2, kc_1, k1_1, k2b_1, k2a_1, kt_1, kn_1, kAnd_1, kAnd_2, kOr_1, kOr_2, kmA_1, kmA_2, kmO_1, kmO_2, kmI_1, kmI_2, kh4_1, kh3_1, kh3_2, kh2_1, kh1_1, kcb_1, kca_1, kL5_1, kL4_1, kL3_1, kL2_1, kL1_1, kl2_1, kl1_1, kl3_1, kr_1, krs_1, krs_2, kput_1, kput_2, kpk_1, klst_1, klst_2, kbor_1, ka2_1, ka1_1, ktup_1, kls_1, kB_1, kx3_1, kx2_1, kx1_1, kx4_1, kis2_1, kis_1, kp_1, ks3_1, ks2_1, ks1_1, kF_1, kF2_1, kF2_2, kF2_3, kF2_4, kF1_1, kW2_1, kW2_2, kW2_3, kW2_4, kW_1, kW_2, kg_1, ksa_1, ki_1, ki_2, ki_3, kap2_1, kap_1, ksx4_1, ksx3_1, ksx2_1, ksx1_1, kat_1, ko_1, kfin_1, kfin_2, klc2_1, klc_1, kC4_1, kC3_1, kC2_1, kC2_2, kC1_1, ksum_1, kst2_1, kst_1, kst_2, kRev_1, kRev_2, krg_1, krg2_1, krg1_1, kav_1, kav_2, krc_1, runFn_a, out_n, out_s, ini_a, iniL_n, iniL_0, iniL_e, sSeq_a, sSet_a, sPar_a, dNil_a, dCons_a, setAll_n, setAll_c, sIf_a, sRet_a, sExpr_a, sNext_a, sBreak_a, sCont_a, mC_a, mVar_a, mMove_a, fz_a, m1_a, m2_a, tst_a, tNot_a, tAnd_a, tOr_a, tYes_a, mAnd_a, mOr_a, mIf_a, mChain_a, mCall_a, mCallL_a, lNil_a, lCons_a, lLend_a, res_e, res_v, res_s, slot_0, slot_s, put_a, peek_a, lstAt_a, get_v, get_o, get_b, aNil_a, aCons_a, aStar_a, mTup_a, mLst_a, mB_a, mIxS_a, mLenS_a, mIsi_a, pNone_a, pSome_a, mSl_a, sFor_a, forL_n, forL_c, whN_s, gN_a, gT_a, gsC_a, gsN_a, sAsg_a, iSeq_a, sApp_a, sSetIx_a, mLc_a, lcL_n, lcL_c, wipe_n, wipe_c, rest_n, rest_c, allVal_n, allVal_c, mRev_a, mLRg_a, mLRg2_a, lt_int, le_int, gt_int, ge_int, sub_int, add_int, mod_int, fdiv_int, pow_int', mul_ok, eq_int, ne_int, neg_int, not_bl, abs_int, int_int, int_bl, max_2, min_2, max_3, min_3, len_l, len_t, len_s, lenB_l, lenB_t, lenB_s, ix_s, ixV_a, tuple_l, tuple_t, list_l, list_t, sum_l, isi_int, isi_bool, isi_tup, ix_fr0, ix_fr1, mul_l, cat_l, cat_t, sl_l, sl_t, sl_s, line, kq4_1, kq3_1, kq2_1, kq1_1, mSl3_a, kz2_1, kz_1, iZipM_a, ken2_1, ken_1, iEnM_a, kgt_1, gTM_a, seq_l, seq_t, ksrt_1, sorted_a, kpo4_1, kpo3_1, kpo2_1, kpo1_1, mPopAt_a, Nat.reduceLeDiff, Nat.zero_le, and_self, Nat.one_ne_zero, Nat.reduceEqDiff, reduceCtorEq, Bool.not_true, Bool.not_false, decide_true, decide_false, Bool.and_self, Bool.and_true, Bool.true_and, List.length_cons, List.length_nil, List.replicate, List.append_nil, List.cons_append, List.nil_append, Nat.reduceAdd, Nat.reduceSub, List.getElem?_cons_succ, List.getElem?_cons_zero, Nat.sub_self, List.set_cons_succ, List.set_cons_zero, ↓reduceIte, Nat.reduceLeDiff, Nat.reduceLT, k1, k2, k3, k4, k5, n1, n2, n3, n4, n5, n6, p1, p2, m1', m2', l1, b1, b2, u1, t1, fr_nat, t2, ne_fr, ne_eq, not_true_eq_false]
end
end Wk64

set_option Elab.async false
set_option linter.all false
set_option maxRecDepth 100000
set_option maxHeartbeats 4000000
namespace Wk64
open PySem Cb
noncomputable section
theorem inv_ratio {q : Rat} (h : 0 < q.num) : ((q.den : Int) : Rat) / ((q.num : Int) : Rat) = 1 / q := by
  have e := q_num' q
  have d0 : ((q.den : Int) : Rat) ≠ 0 := by
    have := q.den_pos
    intro z
    have : (q.den : Int) = 0 := by exact_mod_cast (Rat.intCast_inj.mp (z.trans Rat.intCast_zero.symm))
    omega
  have n0 : ((q.num : Int) : Rat) ≠ 0 := by
    intro z
    have : q.num = 0 := Rat.intCast_inj.mp (z.trans Rat.intCast_zero.symm)
    omega
  generalize ((q.den : Int) : Rat) = D at *
  generalize ((q.num : Int) : Rat) = N at *
  have q0 : q ≠ 0 := by intro z; rw [z] at e; grind
  grind
theorem row_lc {w : Nat} (hw : w ≤ 1000) (h0 : 0 < w) (at_ : Nat) (z0 z1 z2 z3 z4 z5 z6 z7 z8 z9 z10 z11 z12 z13 z14 z15 z17 z18 z19 z20 z21 z24 z25 z26 : Option DV) : ∀ (qs : List Rat) (i : Nat), (∀ q ∈ qs, Sh w q) →
    lcL (gTM (gsCons (gN 22) (gsCons (gN 23) gsNil))) tYesM (mIf (tst (m2 dEq (mVar 22) (mVar 16))) (mCall c__law_ratio (aCons (mIxS 23 (mC (.int 1))) (aCons (mIxS 23 (mC (.int 0))) aNil))) (mTup (aCons (mC (.int 0)) (aCons (mC (.int 1)) aNil)))) [22, 23] (enumD i (qs.map fr)) [z0, z1, z2, z3, z4, z5, z6, z7, z8, z9, z10, z11, z12, z13, z14, z15, some (.val (.int at_)), z17, z18, z19, z20, z21, none, none, z24, z25, z26] =
    some ((rowAt at_ i qs).map fr, [z0, z1, z2, z3, z4, z5, z6, z7, z8, z9, z10, z11, z12, z13, z14, z15, some (.val (.int at_)), z17, z18, z19, z20, z21, none, none, z24, z25, z26])
  | [], i, _ => rfl
  | q :: qs, i, h => by
    have ih := row_lc hw h0 at_ z0 z1 z2 z3 z4 z5 z6 z7 z8 z9 z10 z11 z12 z13 z14 z15 z17 z18 z19 z20 z21 z24 z25 z26 qs (i + 1) (fun x hx => h x (List.mem_cons_of_mem _ hx))
    have hs := h q (List.mem_cons_self ..)
    have hn := sh_num hs
    have r := law_ratio_ok (a := (q.den : Int)) (b := q.num) (by omega) (hs.fs hw h0).1 (by decide)
    rw [inv_ratio hn.1] at r
    have e : enumD i ((q :: qs).map fr) = .tup [.int i, fr q] :: enumD (i + 1) (qs.map fr) := rfl
    rw [e]
    by_cases hi : i = at_
    · have c : decide ((i : Int) = (at_ : Int)) = true := by simp [hi]
      have er : rowAt at_ i (q :: qs) = (1 / q) :: rowAt at_ (i + 1) qs := by
        show (if i = at_ then 1 / q else 0) :: _ = _
        rw [if_pos hi]
      rw [er]
      simp only [kSeq_1, kSeq_2, kSeq_3, kSeq_4, kSet_1, kNx_1, kPar_1, kd2_1, kd1_1, kIf_1, kIf_2, kRt_1, kEx_1, kVar_1, kVar_2, kMov_1, kMov_2, kfz_1, kfz_2, kc_1, k1_1, k2b_1, k2a_1, kt_1, kn_1, kAnd_1, kAnd_2, kOr_1, kOr_2, kmA_1, kmA_2, kmO_1, kmO_2, kmI_1, kmI_2, kh4_1, kh3_1, kh3_2, kh2_1, kh1_1, kcb_1, kca_1, kL5_1, kL4_1, kL3_1, kL2_1, kL1_1, kl2_1, kl1_1, kl3_1, kr_1, krs_1, krs_2, kput_1, kput_2, kpk_1, klst_1, klst_2, kbor_1, ka2_1, ka1_1, ktup_1, kls_1, kB_1, kx3_1, kx2_1, kx1_1, kx4_1, kis2_1, kis_1, kp_1, ks3_1, ks2_1, ks1_1, kF_1, kF2_1, kF2_2, kF2_3, kF2_4, kF1_1, kW2_1, kW2_2, kW2_3, kW2_4, kW_1, kW_2, kg_1, ksa_1, ki_1, ki_2, ki_3, kap2_1, kap_1, ksx4_1, ksx3_1, ksx2_1, ksx1_1, kat_1, ko_1, kfin_1, kfin_2, klc2_1, klc_1, kC4_1, kC3_1, kC2_1, kC2_2, kC1_1, ksum_1, kst2_1, kst_1, kst_2, kRev_1, kRev_2, krg_1, krg2_1, krg1_1, kav_1, kav_2, krc_1, runFn_a, out_n, out_s, ini_a, iniL_n, iniL_0, iniL_e, sSeq_a, sSet_a, sPar_a, dNil_a, dCons_a, setAll_n, setAll_c, sIf_a, sRet_a, sExpr_a, sNext_a, sBreak_a, sCont_a, mC_a, mVar_a, mMove_a, fz_a, m1_a, m2_a, tst_a, tNot_a, tAnd_a, tOr_a, tYes_a, mAnd_a, mOr_a, mIf_a, mChain_a, mCall_a, mCallL_a, lNil_a, lCons_a, lLend_a, res_e, res_v, res_s, slot_0, slot_s, put_a, peek_a, lstAt_a, get_v, get_o, get_b, aNil_a, aCons_a, aStar_a, mTup_a, mLst_a, mB_a, mIxS_a, mLenS_a, mIsi_a, pNone_a, pSome_a, mSl_a, sFor_a, forL_n, forL_c, whN_s, gN_a, gT_a, gsC_a, gsN_a, sAsg_a, iSeq_a, sApp_a, sSetIx_a, mLc_a, lcL_n, lcL_c, wipe_n, wipe_c, rest_n, rest_c, allVal_n, allVal_c, mRev_a, mLRg_a, mLRg2_a, lt_int, le_int, gt_int, ge_int, sub_int, add_int, mod_int, fdiv_int, pow_int', mul_ok, eq_int, ne_int, neg_int, not_bl, abs_int, int_int, int_bl, max_2, min_2, max_3, min_3, len_l, len_t, len_s, lenB_l, lenB_t, lenB_s, ix_s, ixV_a, tuple_l, tuple_t, list_l, list_t, sum_l, isi_int, isi_bool, isi_tup, ix_fr0, ix_fr1, mul_l, cat_l, cat_t, sl_l, sl_t, sl_s, line, kq4_1, kq3_1, kq2_1, kq1_1, mSl3_a, kz2_1, kz_1, iZipM_a, ken2_1, ken_1, iEnM_a, kgt_1, gTM_a, seq_l, seq_t, ksrt_1, sorted_a, kpo4_1, kpo3_1, kpo2_1, kpo1_1, mPopAt_a, Nat.reduceLeDiff, Nat.zero_le, and_self, Nat.one_ne_zero, Nat.reduceEqDiff, reduceCtorEq, Bool.not_true, Bool.not_false, decide_true, decide_false, Bool.and_self, Bool.and_true, Bool.true_and, List.length_cons, List.length_nil, List.replicate, List.append_nil, List.cons_append, List.nil_append, Nat.reduceAdd, Nat.reduceSub, List.getElem?_cons_succ, List.getElem?_cons_zero, Nat.sub_self, List.set_cons_succ, List.set_cons_zero, ↓reduceIte, Nat.reduceLeDiff, Nat.reduceLT, c, r, ih, List.map_cons]
    · have c : decide ((i : Int) = (at_ : Int)) = false := by simp; omega
      have er : rowAt at_ i (q :: qs) = 0 :: rowAt at_ (i + 1) qs := by
        show (if i = at_ then 1 / q else 0) :: _ = _
        rw [if_neg hi]
      rw [er]
      simp only [kSeq_1, kSeq_2, kSeq_3, kSeq_4, kSet_1, kNx_1, kPar_1, kd2_1, kd1_1, kIf_1, kIf_2, kRt_1, kEx_1, kVar_1, kVar_2, kMov_1, kMov_2, kfz_1, kfz_2, kc_1, k1_1, k2b_1, k2a_1, kt_1, kn_1, kAnd_1, kAnd_2, kOr_1, kOr_2, kmA_1, kmA_2, kmO_1, kmO_2, kmI_1, kmI_2, kh4_1, kh3_1, kh3_2, kh2_1, kh1_1, kcb_1, kca_1, kL5_1, kL4_1, kL3_1, kL2_1, kL1_1, kl2_1, kl1_1, kl3_1, kr_1, krs_1, krs_2, kput_1, kput_2, kpk_1, klst_1, klst_2, kbor_1, ka2_1, ka1_1, ktup_1, kls_1, kB_1, kx3_1, kx2_1, kx1_1, kx4_1, kis2_1, kis_1, kp_1, ks3_1, ks2_1, ks1_1, kF_1, kF2_1, kF2_2, kF2_3, kF2_4, kF1_1, kW2_1, kW2_2, kW2_3, kW2_4, kW_1, kW_2, kg_1, ksa_1, ki_1, ki_2, ki_3, kap2_1, kap_1, ksx4_1, ksx3_1, ksx2_1, ksx1_1, kat_1, ko_1, kfin_1, kfin_2, klc2_1, klc_1, kC4_1, kC3_1, kC2_1, kC2_2, kC1_1, ksum_1, kst2_1, kst_1, kst_2, kRev_1, kRev_2, krg_1, krg2_1, krg1_1, kav_1, kav_2, krc_1, runFn_a, out_n, out_s, ini_a, iniL_n, iniL_0, iniL_e, sSeq_a, sSet_a, sPar_a, dNil_a, dCons_a, setAll_n, setAll_c, sIf_a, sRet_a, sExpr_a, sNext_a, sBreak_a, sCont_a, mC_a, mVar_a, mMove_a, fz_a, m1_a, m2_a, tst_a, tNot_a, tAnd_a, tOr_a, tYes_a, mAnd_a, mOr_a, mIf_a, mChain_a, mCall_a, mCallL_a, lNil_a, lCons_a, lLend_a, res_e, res_v, res_s, slot_0, slot_s, put_a, peek_a, lstAt_a, get_v, get_o, get_b, aNil_a, aCons_a, aStar_a, mTup_a, mLst_a, mB_a, mIxS_a, mLenS_a, mIsi_a, pNone_a, pSome_a, mSl_a, sFor_a, forL_n, forL_c, whN_s, gN_a, gT_a, gsC_a, gsN_a, sAsg_a, iSeq_a, sApp_a, sSetIx_a, mLc_a, lcL_n, lcL_c, wipe_n, wipe_c, rest_n, rest_c, allVal_n, allVal_c, mRev_a, mLRg_a, mLRg2_a, lt_int, le_int, gt_int, ge_int, sub_int, add_int, mod_int, fdiv_int, pow_int', mul_ok, eq_int, ne_int, neg_int, not_bl, abs_int, int_int, int_bl, max_2, min_2, max_3, min_3, len_l, len_t, len_s, lenB_l, lenB_t, lenB_s, ix_s, ixV_a, tuple_l, tuple_t, list_l, list_t, sum_l, isi_int, isi_bool, isi_tup, ix_fr0, ix_fr1, mul_l, cat_l, cat_t, sl_l, sl_t, sl_s, line, kq4_1, kq3_1, kq2_1, kq1_1, mSl3_a, kz2_1, kz_1, iZipM_a, ken2_1, ken_1, iEnM_a, kgt_1, gTM_a, seq_l, seq_t, ksrt_1, sorted_a, kpo4_1, kpo3_1, kpo2_1, kpo1_1, mPopAt_a, Nat.reduceLeDiff, Nat.zero_le, and_self, Nat.one_ne_zero, Nat.reduceEqDiff, reduceCtorEq, Bool.not_true, Bool.not_false, decide_true, decide_false, Bool.and_self, Bool.and_true, Bool.true_and, List.length_cons, List.length_nil, List.replicate, List.append_nil, List.cons_append, List.nil_append, Nat.reduceAdd, Nat.reduceSub, List.getElem?_cons_succ, List.getElem?_cons_zero, Nat.sub_self, List.set_cons_succ, List.set_cons_zero, ↓reduceIte, Nat.reduceLeDiff, Nat.reduceLT, c, fr_zero, ih, List.map_cons]
theorem fr_half : D.tup [.int 1, .int 2] = fr (1 / 2) := by
  unfold fr; rw [(by decide +kernel : ((1 : Rat) / 2).num = 1), (by decide +kernel : ((1 : Rat) / 2).den = 2)]; rfl
theorem half_fs : Fs 2 ((1 : Rat) / 2) := ⟨by decide +kernel, by decide +kernel⟩
theorem hf_lc {V U : Nat} {xs' ys' : List Rat} (hx : Ns V xs') (hy : Ns U ys') (hV : V ≤ 1000) (hU : U ≤ 1000) (z0 z1 z2 z3 z4 z5 z6 z7 z8 z9 z10 z11 z12 z13 z14 z15 z16 z17 z18 z19 z20 z21 z22 z23 z26 : Option DV) : ∀ (xs ys : List Rat), (∀ x ∈ xs, x ∈ xs') → (∀ y ∈ ys, y ∈ ys') →
    lcL (gTM (gsCons (gN 24) (gsCons (gN 25) gsNil))) tYesM (mCall c__law_times (aCons (mTup (aCons (mC (.int 1)) (aCons (mC (.int 2)) aNil))) (aCons (mCall c__law_plus (aCons (mVar 24) (aCons (mVar 25) aNil))) aNil))) [24, 25] (zipD (xs.map fr) (ys.map fr)) [z0, z1, z2, z3, z4, z5, z6, z7, z8, z9, z10, z11, z12, z13, z14, z15, z16, z17, z18, z19, z20, z21, z22, z23, none, none, z26] =
    some ((List.zipWith hf xs ys).map fr, [z0, z1, z2, z3, z4, z5, z6, z7, z8, z9, z10, z11, z12, z13, z14, z15, z16, z17, z18, z19, z20, z21, z22, z23, none, none, z26])
  | [], ys, _, _ => by simp [zipD, lcL_n]
  | x :: xs, [], _, _ => by simp [zipD, lcL_n]
  | x :: xs, y :: ys, h1, h2 => by
    have ih := hf_lc hx hy hV hU z0 z1 z2 z3 z4 z5 z6 z7 z8 z9 z10 z11 z12 z13 z14 z15 z16 z17 z18 z19 z20 z21 z22 z23 z26 xs ys (fun z hz => h1 z (List.mem_cons_of_mem _ hz)) (fun z hz => h2 z (List.mem_cons_of_mem _ hz))
    have e : zipD ((x :: xs).map fr) ((y :: ys).map fr) = .tup [fr x, fr y] :: zipD (xs.map fr) (ys.map fr) := rfl
    have mx := h1 x (List.mem_cons_self ..)
    have my := h2 y (List.mem_cons_self ..)
    have pl := law_plus_ok (hx.fs x mx) (hy.fs y my) (by decide)
    have dv := ((hx.dv x mx).mono (Nat.dvd_mul_right V U)).add ((hy.dv y my).mono (Nat.dvd_mul_left U V))
    have a1 := hx.nn x mx
    have a2 := hx.le x mx
    have b1 := hy.nn y my
    have b2 := hy.le y my
    have t12 : (2 : Rat) ^ 12 = 4096 := by decide +kernel
    have vu : V * U ≤ 1000 * 1000 := Nat.mul_le_mul hV hU
    have fs := dv.fs (n := 24) (m := 12) (Nat.mul_pos hx.v0 hy.v0) (by omega) (by rw [t12]; grind) (by rw [t12]; grind)
    have t := law_times_ok half_fs fs (by decide)
    rw [e]
    simp only [kSeq_1, kSeq_2, kSeq_3, kSeq_4, kSet_1, kNx_1, kPar_1, kd2_1, kd1_1, kIf_1, kIf_2, kRt_1, kEx_1, kVar_1, kVar_2, kMov_1, kMov_2, kfz_1, kfz_2, kc_1, k1_1, k2b_1, k2a_1, kt_1, kn_1, kAnd_1, kAnd_2, kOr_1, kOr_2, kmA_1, kmA_2, kmO_1, kmO_2, kmI_1, kmI_2, kh4_1, kh3_1, kh3_2, kh2_1, kh1_1, kcb_1, kca_1, kL5_1, kL4_1, kL3_1, kL2_1, kL1_1, kl2_1, kl1_1, kl3_1, kr_1, krs_1, krs_2, kput_1, kput_2, kpk_1, klst_1, klst_2, kbor_1, ka2_1, ka1_1, ktup_1, kls_1, kB_1, kx3_1, kx2_1, kx1_1, kx4_1, kis2_1, kis_1, kp_1, ks3_1, ks2_1, ks1_1, kF_1, kF2_1, kF2_2, kF2_3, kF2_4, kF1_1, kW2_1, kW2_2, kW2_3, kW2_4, kW_1, kW_2, kg_1, ksa_1, ki_1, ki_2, ki_3, kap2_1, kap_1, ksx4_1, ksx3_1, ksx2_1, ksx1_1, kat_1, ko_1, kfin_1, kfin_2, klc2_1, klc_1, kC4_1, kC3_1, kC2_1, kC2_2, kC1_1, ksum_1, kst2_1, kst_1, kst_2, kRev_1, kRev_2, krg_1, krg2_1, krg1_1, kav_1, kav_2, krc_1, runFn_a, out_n, out_s, ini_a, iniL_n, iniL_0, iniL_e, sSeq_a, sSet_a, sPar_a, dNil_a, dCons_a, setAll_n, setAll_c, sIf_a, sRet_a, sExpr_a, sNext_a, sBreak_a, sCont_a, mC_a, mVar_a, mMove_a, fz_a, m1_a, m2_a, tst_a, tNot_a, tAnd_a, tOr_a, tYes_a, mAnd_a, mOr_a, mIf_a, mChain_a, mCall_a, mCallL_a, lNil_a, lCons_a, lLend_a, res_e, res_v, res_s, slot_0, slot_s, put_a, peek_a, lstAt_a, get_v, get_o, get_b, aNil_a, aCons_a, aStar_a, mTup_a, mLst_a, mB_a, mIxS_a, mLenS_a, mIsi_a, pNone_a, pSome_a, mSl_a, sFor_a, forL_n, forL_c, whN_s, gN_a, gT_a, gsC_a, gsN_a, sAsg_a, iSeq_a, sApp_a, sSetIx_a, mLc_a, lcL_n, lcL_c, wipe_n, wipe_c, rest_n, rest_c, allVal_n, allVal_c, mRev_a, mLRg_a, mLRg2_a, lt_int, le_int, gt_int, ge_int, sub_int, add_int, mod_int, fdiv_int, pow_int', mul_ok, eq_int, ne_int, neg_int, not_bl, abs_int, int_int, int_bl, max_2, min_2, max_3, min_3, len_l, len_t, len_s, lenB_l, lenB_t, lenB_s, ix_s, ixV_a, tuple_l, tuple_t, list_l, list_t, sum_l, isi_int, isi_bool, isi_tup, ix_fr0, ix_fr1, mul_l, cat_l, cat_t, sl_l, sl_t, sl_s, line, kq4_1, kq3_1, kq2_1, kq1_1, mSl3_a, kz2_1, kz_1, iZipM_a, ken2_1, ken_1, iEnM_a, kgt_1, gTM_a, seq_l, seq_t, ksrt_1, sorted_a, kpo4_1, kpo3_1, kpo2_1, kpo1_1, mPopAt_a, Nat.reduceLeDiff, Nat.zero_le, and_self, Nat.one_ne_zero, Nat.reduceEqDiff, reduceCtorEq, Bool.not_true, Bool.not_false, decide_true, decide_false, Bool.and_self, Bool.and_true, Bool.true_and, List.length_cons, List.length_nil, List.replicate, List.append_nil, List.cons_append, List.nil_append, Nat.reduceAdd, Nat.reduceSub, List.getElem?_cons_succ, List.getElem?_cons_zero, Nat.sub_self, List.set_cons_succ, List.set_cons_zero, ↓reduceIte, Nat.reduceLeDiff, Nat.reduceLT, pl, fr_half, t, ih, List.zipWith_cons_cons, List.map_cons, hf]
theorem fs_add {p q : Rat} {n m : Nat} (hp : Fs n p) (hq : Fs m q) : Fs (n + m + 1) (p + q) := by
  rw [← rat_add]
  exact fs_ratio ((hp.1.mul hq.2).add ((hq.1.mul hp.2).mono (by omega))) ((hp.2.mul hq.2).mono (by omega)) (den_ne2 p q)
theorem r12 {w : Nat} {qs : List Rat} (Q : Qs w qs) (hw : w ≤ 1000) (h0 : 0 < w) {d a : Nat} (hd : d + a ≤ 100) {n : Nat} {p : D} (hp : Pot n p) (hn : n < 1000) (y1 y2 y4 y7 y8 y9 y10 y11 y12 : Option DV) : ∃ (ρ' : En) (p' : D),
    R12 [some (.bor p), y1, y2, some (.val (.tup (qs.map fr))), y4, some (.val (.int d)), some (.val (.int a)), y7, y8, y9, y10, y11, y12, none, none, none, none, none, none, none, none, none, none, none, none, none, none] = some (.rt (.val (.bl true)) ρ') ∧ ρ'[0]? = some (some (.bor p')) ∧ Pot (n + 2) p' := by
  have hq : 1 ≤ qs.length := List.length_pos_iff.mpr Q.ne
  have hq2 := Q.len
  obtain ⟨i1, p1, e1, hp1, i10, i11⟩ := law_take_ok (F := 215987) (G := 7957) (H := 6911) (u := ((qs.map fr).length : Int)) (m := 10) hp (by simp; omega) (by unfold Sz; simp; omega) (by decide) (by omega)
  obtain ⟨i2, p2, e2, hp2, i20, i21⟩ := law_take_ok (F := 215987) (G := 7957) (H := 6911) (u := ((qs.map fr).length : Int)) (m := 10) hp1 (by simp; omega) (by unfold Sz; simp; omega) (by decide) (by omega)
  rw [List.length_map] at i11 i21 e1 e2
  obtain ⟨j1, rfl⟩ : ∃ j : Nat, i1 = j := ⟨i1.toNat, by omega⟩
  obtain ⟨j2, rfl⟩ : ∃ j : Nat, i2 = j := ⟨i2.toNat, by omega⟩
  have q0 : ∀ q ∈ qs, 0 < q := fun q hq => (Q.sh q hq).pos
  obtain ⟨V, hV, N1⟩ := ns_row h0 hw j1 Q.sh
  obtain ⟨U, hU, N2⟩ := ns_row h0 hw j2 Q.sh
  have N3 := ns_half hV hU N1 N2
  have d1 := rowAt_dot j1 0 qs (by omega) (by omega) q0
  have d2 := rowAt_dot j2 0 qs (by omega) (by omega) q0
  have l1 := rowAt_len j1 0 qs
  have l2 := rowAt_len j2 0 qs
  have d3 := dot_half qs (rowAt j1 0 qs) (rowAt j2 0 qs) l1 l2
  rw [d1, d2, show (1 : Rat) / 2 * (1 + 1) = 1 by grind] at d3
  have l3 : (List.zipWith hf (rowAt j1 0 qs) (rowAt j2 0 qs)).length = qs.length := by rw [List.length_zipWith]; omega
  have b1 := new_by_ok (d := d) (m := a) Q hw h0 N1 l1 d1 (by omega)
  have b2 := new_by_ok (d := d) (m := a) Q hw h0 N2 l2 d2 (by omega)
  have b3 := new_by_ok (d := d) (m := a) Q hw h0 N3 l3 d3 (by omega)
  rw [NS_half d a qs _ _ l1 l2] at b3
  have f1 := NS_fs (d := d) (m := a) Q hw h0 N1
  have f2 := NS_fs (d := d) (m := a) Q hw h0 N2
  have pl := law_plus_ok f1 f2 (by omega)
  have t := law_times_ok half_fs (fs_add f1 f2) (by omega)
  have rl1 := fun z0 z1 z2 z3 z4 z5 z6 z7 z8 z9 z10 z11 z12 z13 z14 z15 z17 z18 z19 z20 z21 z24 z25 z26 => row_lc hw h0 j1 z0 z1 z2 z3 z4 z5 z6 z7 z8 z9 z10 z11 z12 z13 z14 z15 z17 z18 z19 z20 z21 z24 z25 z26 qs 0 Q.sh
  have rl2 := fun z0 z1 z2 z3 z4 z5 z6 z7 z8 z9 z10 z11 z12 z13 z14 z15 z17 z18 z19 z20 z21 z24 z25 z26 => row_lc hw h0 j2 z0 z1 z2 z3 z4 z5 z6 z7 z8 z9 z10 z11 z12 z13 z14 z15 z17 z18 z19 z20 z21 z24 z25 z26 qs 0 Q.sh
  have hl := fun z0 z1 z2 z3 z4 z5 z6 z7 z8 z9 z10 z11 z12 z13 z14 z15 z16 z17 z18 z19 z20 z21 z22 z23 z26 => hf_lc N1 N2 hV hU z0 z1 z2 z3 z4 z5 z6 z7 z8 z9 z10 z11 z12 z13 z14 z15 z16 z17 z18 z19 z20 z21 z22 z23 z26 (rowAt j1 0 qs) (rowAt j2 0 qs) (fun x hx => hx) (fun y hy => hy)
  have le : (enumD 0 (qs.map fr)).length ≤ 16777216 := by rw [enumD_length, List.length_map]; omega
  have lz : (zipD ((rowAt j1 0 qs).map fr) ((rowAt j2 0 qs).map fr)).length ≤ 16777216 := by rw [zipD_length, List.length_map]; omega
  have ix2 : ∀ a b : D, dIx (.lst [a, b]) (.int 0) = some a := fun a b => rfl
  have ix3 : ∀ a b : D, dIx (.lst [a, b]) (.int 1) = some b := fun a b => rfl
  have ix4 : ∀ a b c : D, dIx (.lst [a, b, c]) (.int 0) = some a := fun a b c => rfl
  have ix5 : ∀ a b c : D, dIx (.lst [a, b, c]) (.int 1) = some b := fun a b c => rfl
  have ix6 : ∀ a b c : D, dIx (.lst [a, b, c]) (.int 2) = some c := fun a b c => rfl
  have ct : ∀ a b c : D, dAdd (.lst [a, b]) (.lst [c]) = some (.own (.lst [a, b, c])) := fun a b c => cat_l (ds := [a, b]) (es := [c]) (by simp [line])
  refine ⟨[some (.bor p2), y1, y2, some (.val (.tup (qs.map fr))), y4, some (.val (.int d)), some (.val (.int a)), y7, y8, y9, y10, y11, y12, some (.val (.int j1)), some (.val (.int j2)), some (.val (.lst [(.tup ((rowAt j1 0 qs).map fr)), (.tup ((rowAt j2 0 qs).map fr))])), some (.val (.int j2)), some (.val (.tup ((List.zipWith hf (rowAt j1 0 qs) (rowAt j2 0 qs)).map fr))), some (.own (.lst [fr (NS d a qs (rowAt j1 0 qs)), fr (NS d a qs (rowAt j2 0 qs)), fr (1 / 2 * (NS d a qs (rowAt j1 0 qs) + NS d a qs (rowAt j2 0 qs)))])), none, none, none, none, none, none, none, none], p2, ?_, rfl, hp2⟩
  simp only [R12, R13, R14, R15, R16, R17, e__law_take, e__law_ratio, e__law_times, e__law_plus, kSeq_1, kSeq_2, kSeq_3, kSeq_4, kSet_1, kNx_1, kPar_1, kd2_1, kd1_1, kIf_1, kIf_2, kRt_1, kEx_1, kVar_1, kVar_2, kMov_1, kMov_2, kfz_1, kfz_2, kc_1, k1_1, k2b_1, k2a_1, kt_1, kn_1, kAnd_1, kAnd_2, kOr_1, kOr_2, kmA_1, kmA_2, kmO_1, kmO_2, kmI_1, kmI_2, kh4_1, kh3_1, kh3_2, kh2_1, kh1_1, kcb_1, kca_1, kL5_1, kL4_1, kL3_1, kL2_1, kL1_1, kl2_1, kl1_1, kl3_1, kr_1, krs_1, krs_2, kput_1, kput_2, kpk_1, klst_1, klst_2, kbor_1, ka2_1, ka1_1, ktup_1, kls_1, kB_1, kx3_1, kx2_1, kx1_1, kx4_1, kis2_1, kis_1, kp_1, ks3_1, ks2_1, ks1_1, kF_1, kF2_1, kF2_2, kF2_3, kF2_4, kF1_1, kW2_1, kW2_2, kW2_3, kW2_4, kW_1, kW_2, kg_1, ksa_1, ki_1, ki_2, ki_3, kap2_1, kap_1, ksx4_1, ksx3_1, ksx2_1, ksx1_1, kat_1, ko_1, kfin_1, kfin_2, klc2_1, klc_1, kC4_1, kC3_1, kC2_1, kC2_2, kC1_1, ksum_1, kst2_1, kst_1, kst_2, kRev_1, kRev_2, krg_1, krg2_1, krg1_1, kav_1, kav_2, krc_1, runFn_a, out_n, out_s, ini_a, iniL_n, iniL_0, iniL_e, sSeq_a, sSet_a, sPar_a, dNil_a, dCons_a, setAll_n, setAll_c, sIf_a, sRet_a, sExpr_a, sNext_a, sBreak_a, sCont_a, mC_a, mVar_a, mMove_a, fz_a, m1_a, m2_a, tst_a, tNot_a, tAnd_a, tOr_a, tYes_a, mAnd_a, mOr_a, mIf_a, mChain_a, mCall_a, mCallL_a, lNil_a, lCons_a, lLend_a, res_e, res_v, res_s, slot_0, slot_s, put_a, peek_a, lstAt_a, get_v, get_o, get_b, aNil_a, aCons_a, aStar_a, mTup_a, mLst_a, mB_a, mIxS_a, mLenS_a, mIsi_a, pNone_a, pSome_a, mSl_a, sFor_a, forL_n, forL_c, whN_s, gN_a, gT_a, gsC_a, gsN_a, sAsg_a, iSeq_a, sApp_a, sSetIx_a, mLc_a, lcL_n, lcL_c, wipe_n, wipe_c, rest_n, rest_c, allVal_n, allVal_c, mRev_a, mLRg_a, mLRg2_a, lt_int, le_int, gt_int, ge_int, sub_int, add_int, mod_int, fdiv_int, pow_int', mul_ok, eq_int, ne_int, neg_int, not_bl, abs_int, int_int, int_bl, max_2, min_2, max_3, min_3, len_l, len_t, len_s, lenB_l, lenB_t, lenB_s, ix_s, ixV_a, tuple_l, tuple_t, list_l, list_t, sum_l, isi_int, isi_bool, isi_tup, ix_fr0, ix_fr1, mul_l, cat_l, cat_t, sl_l, sl_t, sl_s, line, kq4_1, kq3_1, kq2_1, kq1_1, mSl3_a, kz2_1, kz_1, iZipM_a, ken2_1, ken_1, iEnM_a, kgt_1, gTM_a, seq_l, seq_t, ksrt_1, sorted_a, kpo4_1, kpo3_1, kpo2_1, kpo1_1, mPopAt_a, Nat.reduceLeDiff, Nat.zero_le, and_self, Nat.one_ne_zero, Nat.reduceEqDiff, reduceCtorEq, Bool.not_true, Bool.not_false, decide_true, decide_false, Bool.and_self, Bool.and_true, Bool.true_and, List.length_cons, List.length_nil, List.replicate, List.append_nil, List.cons_append, List.nil_append, Nat.reduceAdd, Nat.reduceSub, List.getElem?_cons_succ, List.getElem?_cons_zero, Nat.sub_self, List.set_cons_succ, List.set_cons_zero, ↓reduceIte, Nat.reduceLeDiff, Nat.reduceLT, List.length_map, e1, e2, rl1, rl2, hl, le, lz, ix2, ix3, ix4, ix5, ix6, ct, b1, b2, b3, pl, fr_half, t, eq_fr]
end
end Wk64

set_option Elab.async false
set_option linter.all false
set_option maxRecDepth 100000
set_option maxHeartbeats 4000000
namespace Wk64
open PySem Cb
noncomputable section
theorem wh_lc (ks : List (Nat × Nat)) (h : ∀ k ∈ ks, k.1 ≤ 1000 ∧ k.2 ≤ 1000) (z0 z1 z2 z3 z4 z5 z6 z7 z8 z9 z10 z11 z12 z13 z14 z15 z16 z17 z18 z21 z22 z23 z24 z25 z26 : Option DV) :
    lcL (gTM (gsCons (gN 19) (gsCons (gN 20) gsNil))) tYesM (m2 dMul (mVar 19) (mVar 20)) [19, 20] (ks.map row) [z0, z1, z2, z3, z4, z5, z6, z7, z8, z9, z10, z11, z12, z13, z14, z15, z16, z17, z18, none, none, z21, z22, z23, z24, z25, z26] = some (ks.map fun k => .int ((k.1 * k.2 : Nat) : Int), [z0, z1, z2, z3, z4, z5, z6, z7, z8, z9, z10, z11, z12, z13, z14, z15, z16, z17, z18, none, none, z21, z22, z23, z24, z25, z26]) :=
  lc_map fun k hk ds => by
    have hm := h k hk
    have mo : MulOk (k.1 : Int) (k.2 : Int) := (sz_nat (n := k.1) 11 (by omega)).mulOk (sz_nat (n := k.2) 11 (by omega))
    simp only [row, kSeq_1, kSeq_2, kSeq_3, kSeq_4, kSet_1, kNx_1, kPar_1, kd2_1, kd1_1, kIf_1, kIf_2, kRt_1, kEx_1, kVar_1, kVar_2, kMov_1, kMov_2, kfz_1, kfz_2, kc_1, k1_1, k2b_1, k2a_1, kt_1, kn_1, kAnd_1, kAnd_2, kOr_1, kOr_2, kmA_1, kmA_2, kmO_1, kmO_2, kmI_1, kmI_2, kh4_1, kh3_1, kh3_2, kh2_1, kh1_1, kcb_1, kca_1, kL5_1, kL4_1, kL3_1, kL2_1, kL1_1, kl2_1, kl1_1, kl3_1, kr_1, krs_1, krs_2, kput_1, kput_2, kpk_1, klst_1, klst_2, kbor_1, ka2_1, ka1_1, ktup_1, kls_1, kB_1, kx3_1, kx2_1, kx1_1, kx4_1, kis2_1, kis_1, kp_1, ks3_1, ks2_1, ks1_1, kF_1, kF2_1, kF2_2, kF2_3, kF2_4, kF1_1, kW2_1, kW2_2, kW2_3, kW2_4, kW_1, kW_2, kg_1, ksa_1, ki_1, ki_2, ki_3, kap2_1, kap_1, ksx4_1, ksx3_1, ksx2_1, ksx1_1, kat_1, ko_1, kfin_1, kfin_2, klc2_1, klc_1, kC4_1, kC3_1, kC2_1, kC2_2, kC1_1, ksum_1, kst2_1, kst_1, kst_2, kRev_1, kRev_2, krg_1, krg2_1, krg1_1, kav_1, kav_2, krc_1, runFn_a, out_n, out_s, ini_a, iniL_n, iniL_0, iniL_e, sSeq_a, sSet_a, sPar_a, dNil_a, dCons_a, setAll_n, setAll_c, sIf_a, sRet_a, sExpr_a, sNext_a, sBreak_a, sCont_a, mC_a, mVar_a, mMove_a, fz_a, m1_a, m2_a, tst_a, tNot_a, tAnd_a, tOr_a, tYes_a, mAnd_a, mOr_a, mIf_a, mChain_a, mCall_a, mCallL_a, lNil_a, lCons_a, lLend_a, res_e, res_v, res_s, slot_0, slot_s, put_a, peek_a, lstAt_a, get_v, get_o, get_b, aNil_a, aCons_a, aStar_a, mTup_a, mLst_a, mB_a, mIxS_a, mLenS_a, mIsi_a, pNone_a, pSome_a, mSl_a, sFor_a, forL_n, forL_c, whN_s, gN_a, gT_a, gsC_a, gsN_a, sAsg_a, iSeq_a, sApp_a, sSetIx_a, mLc_a, lcL_n, lcL_c, wipe_n, wipe_c, rest_n, rest_c, allVal_n, allVal_c, mRev_a, mLRg_a, mLRg2_a, lt_int, le_int, gt_int, ge_int, sub_int, add_int, mod_int, fdiv_int, pow_int', mul_ok, eq_int, ne_int, neg_int, not_bl, abs_int, int_int, int_bl, max_2, min_2, max_3, min_3, len_l, len_t, len_s, lenB_l, lenB_t, lenB_s, ix_s, ixV_a, tuple_l, tuple_t, list_l, list_t, sum_l, isi_int, isi_bool, isi_tup, ix_fr0, ix_fr1, mul_l, cat_l, cat_t, sl_l, sl_t, sl_s, line, kq4_1, kq3_1, kq2_1, kq1_1, mSl3_a, kz2_1, kz_1, iZipM_a, ken2_1, ken_1, iEnM_a, kgt_1, gTM_a, seq_l, seq_t, ksrt_1, sorted_a, kpo4_1, kpo3_1, kpo2_1, kpo1_1, mPopAt_a, Nat.reduceLeDiff, Nat.zero_le, and_self, Nat.one_ne_zero, Nat.reduceEqDiff, reduceCtorEq, Bool.not_true, Bool.not_false, decide_true, decide_false, Bool.and_self, Bool.and_true, Bool.true_and, List.length_cons, List.length_nil, List.replicate, List.append_nil, List.cons_append, List.nil_append, Nat.reduceAdd, Nat.reduceSub, List.getElem?_cons_succ, List.getElem?_cons_zero, Nat.sub_self, List.set_cons_succ, List.set_cons_zero, ↓reduceIte, Nat.reduceLeDiff, Nat.reduceLT, mo, Int.natCast_mul]
theorem sh_lc (ks : List (Nat × Nat)) {w : Nat} (h0 : 0 < w) (hw : w ≤ 1000) (z0 z1 z3 z4 z5 z6 z7 z8 z9 z10 z11 z12 z13 z14 z15 z16 z17 z18 z21 z22 z23 z24 z25 z26 : Option DV) :
    lcL (gTM (gsCons (gN 19) (gsCons (gN 20) gsNil))) tYesM (mCall c__law_ratio (aCons (mVar 19) (aCons (mVar 2) aNil))) [19, 20] (ks.map row) [z0, z1, some (.val (.int w)), z3, z4, z5, z6, z7, z8, z9, z10, z11, z12, z13, z14, z15, z16, z17, z18, none, none, z21, z22, z23, z24, z25, z26] = some (ks.map fun k => fr (q1 w k), [z0, z1, some (.val (.int w)), z3, z4, z5, z6, z7, z8, z9, z10, z11, z12, z13, z14, z15, z16, z17, z18, none, none, z21, z22, z23, z24, z25, z26]) :=
  lc_map fun k hk ds => by
    have r := law_ratio_ok (a := (k.1 : Int)) (b := (w : Int)) (by omega) (sz_nat (n := w) 20 (by omega))
    rw [Rat.intCast_natCast, Rat.intCast_natCast] at r
    simp only [row, kSeq_1, kSeq_2, kSeq_3, kSeq_4, kSet_1, kNx_1, kPar_1, kd2_1, kd1_1, kIf_1, kIf_2, kRt_1, kEx_1, kVar_1, kVar_2, kMov_1, kMov_2, kfz_1, kfz_2, kc_1, k1_1, k2b_1, k2a_1, kt_1, kn_1, kAnd_1, kAnd_2, kOr_1, kOr_2, kmA_1, kmA_2, kmO_1, kmO_2, kmI_1, kmI_2, kh4_1, kh3_1, kh3_2, kh2_1, kh1_1, kcb_1, kca_1, kL5_1, kL4_1, kL3_1, kL2_1, kL1_1, kl2_1, kl1_1, kl3_1, kr_1, krs_1, krs_2, kput_1, kput_2, kpk_1, klst_1, klst_2, kbor_1, ka2_1, ka1_1, ktup_1, kls_1, kB_1, kx3_1, kx2_1, kx1_1, kx4_1, kis2_1, kis_1, kp_1, ks3_1, ks2_1, ks1_1, kF_1, kF2_1, kF2_2, kF2_3, kF2_4, kF1_1, kW2_1, kW2_2, kW2_3, kW2_4, kW_1, kW_2, kg_1, ksa_1, ki_1, ki_2, ki_3, kap2_1, kap_1, ksx4_1, ksx3_1, ksx2_1, ksx1_1, kat_1, ko_1, kfin_1, kfin_2, klc2_1, klc_1, kC4_1, kC3_1, kC2_1, kC2_2, kC1_1, ksum_1, kst2_1, kst_1, kst_2, kRev_1, kRev_2, krg_1, krg2_1, krg1_1, kav_1, kav_2, krc_1, runFn_a, out_n, out_s, ini_a, iniL_n, iniL_0, iniL_e, sSeq_a, sSet_a, sPar_a, dNil_a, dCons_a, setAll_n, setAll_c, sIf_a, sRet_a, sExpr_a, sNext_a, sBreak_a, sCont_a, mC_a, mVar_a, mMove_a, fz_a, m1_a, m2_a, tst_a, tNot_a, tAnd_a, tOr_a, tYes_a, mAnd_a, mOr_a, mIf_a, mChain_a, mCall_a, mCallL_a, lNil_a, lCons_a, lLend_a, res_e, res_v, res_s, slot_0, slot_s, put_a, peek_a, lstAt_a, get_v, get_o, get_b, aNil_a, aCons_a, aStar_a, mTup_a, mLst_a, mB_a, mIxS_a, mLenS_a, mIsi_a, pNone_a, pSome_a, mSl_a, sFor_a, forL_n, forL_c, whN_s, gN_a, gT_a, gsC_a, gsN_a, sAsg_a, iSeq_a, sApp_a, sSetIx_a, mLc_a, lcL_n, lcL_c, wipe_n, wipe_c, rest_n, rest_c, allVal_n, allVal_c, mRev_a, mLRg_a, mLRg2_a, lt_int, le_int, gt_int, ge_int, sub_int, add_int, mod_int, fdiv_int, pow_int', mul_ok, eq_int, ne_int, neg_int, not_bl, abs_int, int_int, int_bl, max_2, min_2, max_3, min_3, len_l, len_t, len_s, lenB_l, lenB_t, lenB_s, ix_s, ixV_a, tuple_l, tuple_t, list_l, list_t, sum_l, isi_int, isi_bool, isi_tup, ix_fr0, ix_fr1, mul_l, cat_l, cat_t, sl_l, sl_t, sl_s, line, kq4_1, kq3_1, kq2_1, kq1_1, mSl3_a, kz2_1, kz_1, iZipM_a, ken2_1, ken_1, iEnM_a, kgt_1, gTM_a, seq_l, seq_t, ksrt_1, sorted_a, kpo4_1, kpo3_1, kpo2_1, kpo1_1, mPopAt_a, Nat.reduceLeDiff, Nat.zero_le, and_self, Nat.one_ne_zero, Nat.reduceEqDiff, reduceCtorEq, Bool.not_true, Bool.not_false, decide_true, decide_false, Bool.and_self, Bool.and_true, Bool.true_and, List.length_cons, List.length_nil, List.replicate, List.append_nil, List.cons_append, List.nil_append, Nat.reduceAdd, Nat.reduceSub, List.getElem?_cons_succ, List.getElem?_cons_zero, Nat.sub_self, List.set_cons_succ, List.set_cons_zero, ↓reduceIte, Nat.reduceLeDiff, Nat.reduceLT, r, q1]
theorem nu_lc (ks : List (Nat × Nat)) (z0 z1 z2 z3 z4 z5 z6 z7 z8 z9 z10 z11 z12 z13 z14 z15 z16 z17 z18 z21 z22 z23 z24 z25 z26 : Option DV) :
    lcL (gTM (gsCons (gN 19) (gsCons (gN 20) gsNil))) tYesM (mTup (aCons (mVar 20) (aCons (mC (.int 1)) aNil))) [19, 20] (ks.map row) [z0, z1, z2, z3, z4, z5, z6, z7, z8, z9, z10, z11, z12, z13, z14, z15, z16, z17, z18, none, none, z21, z22, z23, z24, z25, z26] = some (ks.map fun k => fr (num k), [z0, z1, z2, z3, z4, z5, z6, z7, z8, z9, z10, z11, z12, z13, z14, z15, z16, z17, z18, none, none, z21, z22, z23, z24, z25, z26]) :=
  lc_map fun k hk ds => by
    simp only [row, kSeq_1, kSeq_2, kSeq_3, kSeq_4, kSet_1, kNx_1, kPar_1, kd2_1, kd1_1, kIf_1, kIf_2, kRt_1, kEx_1, kVar_1, kVar_2, kMov_1, kMov_2, kfz_1, kfz_2, kc_1, k1_1, k2b_1, k2a_1, kt_1, kn_1, kAnd_1, kAnd_2, kOr_1, kOr_2, kmA_1, kmA_2, kmO_1, kmO_2, kmI_1, kmI_2, kh4_1, kh3_1, kh3_2, kh2_1, kh1_1, kcb_1, kca_1, kL5_1, kL4_1, kL3_1, kL2_1, kL1_1, kl2_1, kl1_1, kl3_1, kr_1, krs_1, krs_2, kput_1, kput_2, kpk_1, klst_1, klst_2, kbor_1, ka2_1, ka1_1, ktup_1, kls_1, kB_1, kx3_1, kx2_1, kx1_1, kx4_1, kis2_1, kis_1, kp_1, ks3_1, ks2_1, ks1_1, kF_1, kF2_1, kF2_2, kF2_3, kF2_4, kF1_1, kW2_1, kW2_2, kW2_3, kW2_4, kW_1, kW_2, kg_1, ksa_1, ki_1, ki_2, ki_3, kap2_1, kap_1, ksx4_1, ksx3_1, ksx2_1, ksx1_1, kat_1, ko_1, kfin_1, kfin_2, klc2_1, klc_1, kC4_1, kC3_1, kC2_1, kC2_2, kC1_1, ksum_1, kst2_1, kst_1, kst_2, kRev_1, kRev_2, krg_1, krg2_1, krg1_1, kav_1, kav_2, krc_1, runFn_a, out_n, out_s, ini_a, iniL_n, iniL_0, iniL_e, sSeq_a, sSet_a, sPar_a, dNil_a, dCons_a, setAll_n, setAll_c, sIf_a, sRet_a, sExpr_a, sNext_a, sBreak_a, sCont_a, mC_a, mVar_a, mMove_a, fz_a, m1_a, m2_a, tst_a, tNot_a, tAnd_a, tOr_a, tYes_a, mAnd_a, mOr_a, mIf_a, mChain_a, mCall_a, mCallL_a, lNil_a, lCons_a, lLend_a, res_e, res_v, res_s, slot_0, slot_s, put_a, peek_a, lstAt_a, get_v, get_o, get_b, aNil_a, aCons_a, aStar_a, mTup_a, mLst_a, mB_a, mIxS_a, mLenS_a, mIsi_a, pNone_a, pSome_a, mSl_a, sFor_a, forL_n, forL_c, whN_s, gN_a, gT_a, gsC_a, gsN_a, sAsg_a, iSeq_a, sApp_a, sSetIx_a, mLc_a, lcL_n, lcL_c, wipe_n, wipe_c, rest_n, rest_c, allVal_n, allVal_c, mRev_a, mLRg_a, mLRg2_a, lt_int, le_int, gt_int, ge_int, sub_int, add_int, mod_int, fdiv_int, pow_int', mul_ok, eq_int, ne_int, neg_int, not_bl, abs_int, int_int, int_bl, max_2, min_2, max_3, min_3, len_l, len_t, len_s, lenB_l, lenB_t, lenB_s, ix_s, ixV_a, tuple_l, tuple_t, list_l, list_t, sum_l, isi_int, isi_bool, isi_tup, ix_fr0, ix_fr1, mul_l, cat_l, cat_t, sl_l, sl_t, sl_s, line, kq4_1, kq3_1, kq2_1, kq1_1, mSl3_a, kz2_1, kz_1, iZipM_a, ken2_1, ken_1, iEnM_a, kgt_1, gTM_a, seq_l, seq_t, ksrt_1, sorted_a, kpo4_1, kpo3_1, kpo2_1, kpo1_1, mPopAt_a, Nat.reduceLeDiff, Nat.zero_le, and_self, Nat.one_ne_zero, Nat.reduceEqDiff, reduceCtorEq, Bool.not_true, Bool.not_false, decide_true, decide_false, Bool.and_self, Bool.and_true, Bool.true_and, List.length_cons, List.length_nil, List.replicate, List.append_nil, List.cons_append, List.nil_append, Nat.reduceAdd, Nat.reduceSub, List.getElem?_cons_succ, List.getElem?_cons_zero, Nat.sub_self, List.set_cons_succ, List.set_cons_zero, ↓reduceIte, Nat.reduceLeDiff, Nat.reduceLT, fr_nat, num]
theorem re_lc (z1 z2 z3 z4 z5 z6 z7 z8 z9 z10 z11 z12 z13 z14 z15 z16 z17 z18 z20 z21 z22 z23 z24 z25 z26 : Option DV) : ∀ (ws : List Nat) (n : Nat) (p : D), Pot n p → n + ws.length < 10000 → ∃ (ks : List (Nat × Nat)) (p' : D),
    lcL (gN 19) tYesM (mTup (aCons (mVar 19) (aCons (m2 dAdd (mC (.int 1)) (mB dInt (aCons (mCallL 0 (c__law_take 215987 7957 6911) (lLend 0 (lCons (mC (.int 5)) lNil))) aNil))) aNil))) [19] (ws.map fun w : Nat => D.int w) [some (.bor p), z1, z2, z3, z4, z5, z6, z7, z8, z9, z10, z11, z12, z13, z14, z15, z16, z17, z18, none, z20, z21, z22, z23, z24, z25, z26] =
      some (ks.map row, [some (.bor p'), z1, z2, z3, z4, z5, z6, z7, z8, z9, z10, z11, z12, z13, z14, z15, z16, z17, z18, none, z20, z21, z22, z23, z24, z25, z26]) ∧ Pot (n + ws.length) p' ∧ ks.map (·.1) = ws ∧ ∀ k ∈ ks, 1 ≤ k.2 ∧ k.2 ≤ 5
  | [], n, p, hp, hn => ⟨[], p, by simp only [List.map_nil, lcL_n], hp, rfl, by simp⟩
  | w :: ws, n, p, hp, hn => by
    simp only [List.length_cons] at hn
    obtain ⟨i, p1, e1, hp1, i0, i1⟩ := law_take_ok (F := 215987) (G := 7957) (H := 6911) (u := 5) (m := 10) hp (by omega) (by decide) (by decide) (by omega)
    obtain ⟨ks, p', ih, hP, h1, h2⟩ := re_lc z1 z2 z3 z4 z5 z6 z7 z8 z9 z10 z11 z12 z13 z14 z15 z16 z17 z18 z20 z21 z22 z23 z24 z25 z26 ws (n + 1) p1 hp1 (by omega)
    obtain ⟨j, rfl⟩ : ∃ j : Nat, i = j := ⟨i.toNat, by omega⟩
    refine ⟨(w, j + 1) :: ks, p', ?_, by rw [show n + (w :: ws).length = n + 1 + ws.length by simp; omega]; exact hP, by simp [h1], fun k hk => ?_⟩
    · have e : (1 : Int) + (j : Int) = ((j + 1 : Nat) : Int) := by omega
      simp only [List.map_cons, row, kSeq_1, kSeq_2, kSeq_3, kSeq_4, kSet_1, kNx_1, kPar_1, kd2_1, kd1_1, kIf_1, kIf_2, kRt_1, kEx_1, kVar_1, kVar_2, kMov_1, kMov_2, kfz_1, kfz_2, kc_1, k1_1, k2b_1, k2a_1, kt_1, kn_1, kAnd_1, kAnd_2, kOr_1, kOr_2, kmA_1, kmA_2, kmO_1, kmO_2, kmI_1, kmI_2, kh4_1, kh3_1, kh3_2, kh2_1, kh1_1, kcb_1, kca_1, kL5_1, kL4_1, kL3_1, kL2_1, kL1_1, kl2_1, kl1_1, kl3_1, kr_1, krs_1, krs_2, kput_1, kput_2, kpk_1, klst_1, klst_2, kbor_1, ka2_1, ka1_1, ktup_1, kls_1, kB_1, kx3_1, kx2_1, kx1_1, kx4_1, kis2_1, kis_1, kp_1, ks3_1, ks2_1, ks1_1, kF_1, kF2_1, kF2_2, kF2_3, kF2_4, kF1_1, kW2_1, kW2_2, kW2_3, kW2_4, kW_1, kW_2, kg_1, ksa_1, ki_1, ki_2, ki_3, kap2_1, kap_1, ksx4_1, ksx3_1, ksx2_1, ksx1_1, kat_1, ko_1, kfin_1, kfin_2, klc2_1, klc_1, kC4_1, kC3_1, kC2_1, kC2_2, kC1_1, ksum_1, kst2_1, kst_1, kst_2, kRev_1, kRev_2, krg_1, krg2_1, krg1_1, kav_1, kav_2, krc_1, runFn_a, out_n, out_s, ini_a, iniL_n, iniL_0, iniL_e, sSeq_a, sSet_a, sPar_a, dNil_a, dCons_a, setAll_n, setAll_c, sIf_a, sRet_a, sExpr_a, sNext_a, sBreak_a, sCont_a, mC_a, mVar_a, mMove_a, fz_a, m1_a, m2_a, tst_a, tNot_a, tAnd_a, tOr_a, tYes_a, mAnd_a, mOr_a, mIf_a, mChain_a, mCall_a, mCallL_a, lNil_a, lCons_a, lLend_a, res_e, res_v, res_s, slot_0, slot_s, put_a, peek_a, lstAt_a, get_v, get_o, get_b, aNil_a, aCons_a, aStar_a, mTup_a, mLst_a, mB_a, mIxS_a, mLenS_a, mIsi_a, pNone_a, pSome_a, mSl_a, sFor_a, forL_n, forL_c, whN_s, gN_a, gT_a, gsC_a, gsN_a, sAsg_a, iSeq_a, sApp_a, sSetIx_a, mLc_a, lcL_n, lcL_c, wipe_n, wipe_c, rest_n, rest_c, allVal_n, allVal_c, mRev_a, mLRg_a, mLRg2_a, lt_int, le_int, gt_int, ge_int, sub_int, add_int, mod_int, fdiv_int, pow_int', mul_ok, eq_int, ne_int, neg_int, not_bl, abs_int, int_int, int_bl, max_2, min_2, max_3, min_3, len_l, len_t, len_s, lenB_l, lenB_t, lenB_s, ix_s, ixV_a, tuple_l, tuple_t, list_l, list_t, sum_l, isi_int, isi_bool, isi_tup, ix_fr0, ix_fr1, mul_l, cat_l, cat_t, sl_l, sl_t, sl_s, line, kq4_1, kq3_1, kq2_1, kq1_1, mSl3_a, kz2_1, kz_1, iZipM_a, ken2_1, ken_1, iEnM_a, kgt_1, gTM_a, seq_l, seq_t, ksrt_1, sorted_a, kpo4_1, kpo3_1, kpo2_1, kpo1_1, mPopAt_a, Nat.reduceLeDiff, Nat.zero_le, and_self, Nat.one_ne_zero, Nat.reduceEqDiff, reduceCtorEq, Bool.not_true, Bool.not_false, decide_true, decide_false, Bool.and_self, Bool.and_true, Bool.true_and, List.length_cons, List.length_nil, List.replicate, List.append_nil, List.cons_append, List.nil_append, Nat.reduceAdd, Nat.reduceSub, List.getElem?_cons_succ, List.getElem?_cons_zero, Nat.sub_self, List.set_cons_succ, List.set_cons_zero, ↓reduceIte, Nat.reduceLeDiff, Nat.reduceLT, e1, e, ih]
    · rcases List.mem_cons.mp hk with rfl | hk
      · exact ⟨by show 1 ≤ j + 1; omega, by show j + 1 ≤ 5; omega⟩
      · exact h2 k hk
theorem r4 {ks : List (Nat × Nat)} (h : Ki ks) (hW : W ks ≤ 1000) {n : Nat} {p : D} (hp : Pot n p) (hn : n < 500) : ∃ (ρ' : En) (p' : D),
    R4 [some (.bor p), some (.val (dK ks)), some (.val (.int (W ks))), some (.val (.tup ((ks.map (q1 (W ks))).map fr))), some (.val (.tup ((ks.map num).map fr))), none, none, none, none, none, none, none, none, none, none, none, none, none, none, none, none, none, none, none, none, none, none] = some (.rt (.val (.bl true)) ρ') ∧ ρ'[0]? = some (some (.bor p')) ∧ Pot (n + 8) p' := by
  obtain ⟨u1, p1, c1, hq1, hu1⟩ := law_of_ok (F := 215987) (G := 7957) (H := 6911) (ds := [.int 4, .int 30]) hp (by decide) (by decide) (by omega)
  obtain ⟨v1, rfl, w1, x1⟩ : ∃ i : Nat, u1 = .int i ∧ 1 ≤ i ∧ i ≤ 30 := by
    simp at hu1
    rcases hu1 with rfl | rfl
    · exact ⟨4, rfl, by decide, by decide⟩
    · exact ⟨30, rfl, by decide, by decide⟩
  obtain ⟨g1, p2, c2, hq2, s1, t1⟩ := law_take_ok (F := 215987) (G := 7957) (H := 6911) (u := (v1 : Int)) (m := 10) hq1 (by omega) (by unfold Sz; omega) (by decide) (by omega)
  obtain ⟨i1, rfl⟩ : ∃ j : Nat, g1 = j := ⟨g1.toNat, by omega⟩
  obtain ⟨u2, p3, c3, hq3, hu2⟩ := law_of_ok (F := 215987) (G := 7957) (H := 6911) (ds := [.int 4, .int 30]) hq2 (by decide) (by decide) (by omega)
  obtain ⟨v2, rfl, w2, x2⟩ : ∃ i : Nat, u2 = .int i ∧ 1 ≤ i ∧ i ≤ 30 := by
    simp at hu2
    rcases hu2 with rfl | rfl
    · exact ⟨4, rfl, by decide, by decide⟩
    · exact ⟨30, rfl, by decide, by decide⟩
  obtain ⟨g2, p4, c4, hq4, s2, t2⟩ := law_take_ok (F := 215987) (G := 7957) (H := 6911) (u := (v2 : Int)) (m := 10) hq3 (by omega) (by unfold Sz; omega) (by decide) (by omega)
  obtain ⟨i2, rfl⟩ : ∃ j : Nat, g2 = j := ⟨g2.toNat, by omega⟩
  obtain ⟨u3, p5, c5, hq5, hu3⟩ := law_of_ok (F := 215987) (G := 7957) (H := 6911) (ds := [.int 4, .int 30]) hq4 (by decide) (by decide) (by omega)
  obtain ⟨v3, rfl, w3, x3⟩ : ∃ i : Nat, u3 = .int i ∧ 1 ≤ i ∧ i ≤ 30 := by
    simp at hu3
    rcases hu3 with rfl | rfl
    · exact ⟨4, rfl, by decide, by decide⟩
    · exact ⟨30, rfl, by decide, by decide⟩
  obtain ⟨g3, p6, c6, hq6, s3, t3⟩ := law_take_ok (F := 215987) (G := 7957) (H := 6911) (u := (v3 : Int)) (m := 10) hq5 (by omega) (by unfold Sz; omega) (by decide) (by omega)
  obtain ⟨i3, rfl⟩ : ∃ j : Nat, g3 = j := ⟨g3.toNat, by omega⟩
  obtain ⟨y8, y9, y10, y11, y12, h5⟩ := r5 h hW (d := i1 + 1) (a := i2 + 1) (b := i3 + 1) (by omega) (by omega) p6 (some (.val (.int (W ks))))
  obtain ⟨ρ', p', h12, hr, hP⟩ := r12 (qs_ks h) hW (W_pos h) (d := i1 + 1) (a := i2 + 1) (by omega) hq6 (by omega) (some (.val (dK ks))) (some (.val (.int (W ks)))) (some (.val (.tup ((ks.map num).map fr)))) (some (.val (.int (i3 + 1 : Nat)))) y8 y9 y10 y11 y12
  refine ⟨ρ', p', ?_, hr, hP⟩
  rw [← h12, ← h5]
  have hrg := fun (ρ : En) e => range_D 3 (by omega) ρ ρ (aCons (mC (.int 3)) aNil) e
  have er : rangeD 0 3 = [.int 0, .int 1, .int 2] := rfl
  rw [er] at hrg
  have k3 : ((3 : Nat) : Int) = 3 := rfl
  rw [k3] at hrg
  have a1 : (1 : Int) + (i1 : Int) = ((i1 + 1 : Nat) : Int) := by omega
  have a2 : (1 : Int) + (i2 : Int) = ((i2 + 1 : Nat) : Int) := by omega
  have a3 : (1 : Int) + (i3 : Int) = ((i3 + 1 : Nat) : Int) := by omega
  simp only [R4, e__law_take, e__law_of, kSeq_1, kSeq_2, kSeq_3, kSeq_4, kSet_1, kNx_1, kPar_1, kd2_1, kd1_1, kIf_1, kIf_2, kRt_1, kEx_1, kVar_1, kVar_2, kMov_1, kMov_2, kfz_1, kfz_2, kc_1, k1_1, k2b_1, k2a_1, kt_1, kn_1, kAnd_1, kAnd_2, kOr_1, kOr_2, kmA_1, kmA_2, kmO_1, kmO_2, kmI_1, kmI_2, kh4_1, kh3_1, kh3_2, kh2_1, kh1_1, kcb_1, kca_1, kL5_1, kL4_1, kL3_1, kL2_1, kL1_1, kl2_1, kl1_1, kl3_1, kr_1, krs_1, krs_2, kput_1, kput_2, kpk_1, klst_1, klst_2, kbor_1, ka2_1, ka1_1, ktup_1, kls_1, kB_1, kx3_1, kx2_1, kx1_1, kx4_1, kis2_1, kis_1, kp_1, ks3_1, ks2_1, ks1_1, kF_1, kF2_1, kF2_2, kF2_3, kF2_4, kF1_1, kW2_1, kW2_2, kW2_3, kW2_4, kW_1, kW_2, kg_1, ksa_1, ki_1, ki_2, ki_3, kap2_1, kap_1, ksx4_1, ksx3_1, ksx2_1, ksx1_1, kat_1, ko_1, kfin_1, kfin_2, klc2_1, klc_1, kC4_1, kC3_1, kC2_1, kC2_2, kC1_1, ksum_1, kst2_1, kst_1, kst_2, kRev_1, kRev_2, krg_1, krg2_1, krg1_1, kav_1, kav_2, krc_1, runFn_a, out_n, out_s, ini_a, iniL_n, iniL_0, iniL_e, sSeq_a, sSet_a, sPar_a, dNil_a, dCons_a, setAll_n, setAll_c, sIf_a, sRet_a, sExpr_a, sNext_a, sBreak_a, sCont_a, mC_a, mVar_a, mMove_a, fz_a, m1_a, m2_a, tst_a, tNot_a, tAnd_a, tOr_a, tYes_a, mAnd_a, mOr_a, mIf_a, mChain_a, mCall_a, mCallL_a, lNil_a, lCons_a, lLend_a, res_e, res_v, res_s, slot_0, slot_s, put_a, peek_a, lstAt_a, get_v, get_o, get_b, aNil_a, aCons_a, aStar_a, mTup_a, mLst_a, mB_a, mIxS_a, mLenS_a, mIsi_a, pNone_a, pSome_a, mSl_a, sFor_a, forL_n, forL_c, whN_s, gN_a, gT_a, gsC_a, gsN_a, sAsg_a, iSeq_a, sApp_a, sSetIx_a, mLc_a, lcL_n, lcL_c, wipe_n, wipe_c, rest_n, rest_c, allVal_n, allVal_c, mRev_a, mLRg_a, mLRg2_a, lt_int, le_int, gt_int, ge_int, sub_int, add_int, mod_int, fdiv_int, pow_int', mul_ok, eq_int, ne_int, neg_int, not_bl, abs_int, int_int, int_bl, max_2, min_2, max_3, min_3, len_l, len_t, len_s, lenB_l, lenB_t, lenB_s, ix_s, ixV_a, tuple_l, tuple_t, list_l, list_t, sum_l, isi_int, isi_bool, isi_tup, ix_fr0, ix_fr1, mul_l, cat_l, cat_t, sl_l, sl_t, sl_s, line, kq4_1, kq3_1, kq2_1, kq1_1, mSl3_a, kz2_1, kz_1, iZipM_a, ken2_1, ken_1, iEnM_a, kgt_1, gTM_a, seq_l, seq_t, ksrt_1, sorted_a, kpo4_1, kpo3_1, kpo2_1, kpo1_1, mPopAt_a, Nat.reduceLeDiff, Nat.zero_le, and_self, Nat.one_ne_zero, Nat.reduceEqDiff, reduceCtorEq, Bool.not_true, Bool.not_false, decide_true, decide_false, Bool.and_self, Bool.and_true, Bool.true_and, List.length_cons, List.length_nil, List.replicate, List.append_nil, List.cons_append, List.nil_append, Nat.reduceAdd, Nat.reduceSub, List.getElem?_cons_succ, List.getElem?_cons_zero, Nat.sub_self, List.set_cons_succ, List.set_cons_zero, ↓reduceIte, Nat.reduceLeDiff, Nat.reduceLT, hrg, c1, c2, c3, c4, c5, c6, a1, a2, a3]
theorem r3 {ks : List (Nat × Nat)} (h : Ki ks) (hW : W ks ≤ 1000) (p : D) : R3 [some (.bor p), some (.val (dK ks)), some (.val (.int (W ks))), none, none, none, none, none, none, none, none, none, none, none, none, none, none, none, none, none, none, none, none, none, none, none, none] = R4 [some (.bor p), some (.val (dK ks)), some (.val (.int (W ks))), some (.val (.tup ((ks.map (q1 (W ks))).map fr))), some (.val (.tup ((ks.map num).map fr))), none, none, none, none, none, none, none, none, none, none, none, none, none, none, none, none, none, none, none, none, none, none] := by
  have l0 : (ks.map row).length ≤ 16777216 := by have := h.len; simp; omega
  have a := sh_lc ks (W_pos h) hW
  have b := nu_lc ks
  have e1 : (ks.map (q1 (W ks))).map fr = ks.map fun k => fr (q1 (W ks) k) := by rw [List.map_map]; rfl
  have e2 : (ks.map num).map fr = ks.map fun k => fr (num k) := by rw [List.map_map]; rfl
  rw [e1, e2]
  simp only [R3, dK, e__law_ratio, kSeq_1, kSeq_2, kSeq_3, kSeq_4, kSet_1, kNx_1, kPar_1, kd2_1, kd1_1, kIf_1, kIf_2, kRt_1, kEx_1, kVar_1, kVar_2, kMov_1, kMov_2, kfz_1, kfz_2, kc_1, k1_1, k2b_1, k2a_1, kt_1, kn_1, kAnd_1, kAnd_2, kOr_1, kOr_2, kmA_1, kmA_2, kmO_1, kmO_2, kmI_1, kmI_2, kh4_1, kh3_1, kh3_2, kh2_1, kh1_1, kcb_1, kca_1, kL5_1, kL4_1, kL3_1, kL2_1, kL1_1, kl2_1, kl1_1, kl3_1, kr_1, krs_1, krs_2, kput_1, kput_2, kpk_1, klst_1, klst_2, kbor_1, ka2_1, ka1_1, ktup_1, kls_1, kB_1, kx3_1, kx2_1, kx1_1, kx4_1, kis2_1, kis_1, kp_1, ks3_1, ks2_1, ks1_1, kF_1, kF2_1, kF2_2, kF2_3, kF2_4, kF1_1, kW2_1, kW2_2, kW2_3, kW2_4, kW_1, kW_2, kg_1, ksa_1, ki_1, ki_2, ki_3, kap2_1, kap_1, ksx4_1, ksx3_1, ksx2_1, ksx1_1, kat_1, ko_1, kfin_1, kfin_2, klc2_1, klc_1, kC4_1, kC3_1, kC2_1, kC2_2, kC1_1, ksum_1, kst2_1, kst_1, kst_2, kRev_1, kRev_2, krg_1, krg2_1, krg1_1, kav_1, kav_2, krc_1, runFn_a, out_n, out_s, ini_a, iniL_n, iniL_0, iniL_e, sSeq_a, sSet_a, sPar_a, dNil_a, dCons_a, setAll_n, setAll_c, sIf_a, sRet_a, sExpr_a, sNext_a, sBreak_a, sCont_a, mC_a, mVar_a, mMove_a, fz_a, m1_a, m2_a, tst_a, tNot_a, tAnd_a, tOr_a, tYes_a, mAnd_a, mOr_a, mIf_a, mChain_a, mCall_a, mCallL_a, lNil_a, lCons_a, lLend_a, res_e, res_v, res_s, slot_0, slot_s, put_a, peek_a, lstAt_a, get_v, get_o, get_b, aNil_a, aCons_a, aStar_a, mTup_a, mLst_a, mB_a, mIxS_a, mLenS_a, mIsi_a, pNone_a, pSome_a, mSl_a, sFor_a, forL_n, forL_c, whN_s, gN_a, gT_a, gsC_a, gsN_a, sAsg_a, iSeq_a, sApp_a, sSetIx_a, mLc_a, lcL_n, lcL_c, wipe_n, wipe_c, rest_n, rest_c, allVal_n, allVal_c, mRev_a, mLRg_a, mLRg2_a, lt_int, le_int, gt_int, ge_int, sub_int, add_int, mod_int, fdiv_int, pow_int', mul_ok, eq_int, ne_int, neg_int, not_bl, abs_int, int_int, int_bl, max_2, min_2, max_3, min_3, len_l, len_t, len_s, lenB_l, lenB_t, lenB_s, ix_s, ixV_a, tuple_l, tuple_t, list_l, list_t, sum_l, isi_int, isi_bool, isi_tup, ix_fr0, ix_fr1, mul_l, cat_l, cat_t, sl_l, sl_t, sl_s, line, kq4_1, kq3_1, kq2_1, kq1_1, mSl3_a, kz2_1, kz_1, iZipM_a, ken2_1, ken_1, iEnM_a, kgt_1, gTM_a, seq_l, seq_t, ksrt_1, sorted_a, kpo4_1, kpo3_1, kpo2_1, kpo1_1, mPopAt_a, Nat.reduceLeDiff, Nat.zero_le, and_self, Nat.one_ne_zero, Nat.reduceEqDiff, reduceCtorEq, Bool.not_true, Bool.not_false, decide_true, decide_false, Bool.and_self, Bool.and_true, Bool.true_and, List.length_cons, List.length_nil, List.replicate, List.append_nil, List.cons_append, List.nil_append, Nat.reduceAdd, Nat.reduceSub, List.getElem?_cons_succ, List.getElem?_cons_zero, Nat.sub_self, List.set_cons_succ, List.set_cons_zero, ↓reduceIte, Nat.reduceLeDiff, Nat.reduceLT, l0, a, b]
end
end Wk64

set_option Elab.async false
set_option linter.all false
set_option maxRecDepth 100000
set_option maxHeartbeats 4000000
namespace Wk64
open PySem Cb
noncomputable section
theorem W_ints (ks : List (Nat × Nat)) : (ks.map fun k => ((k.1 * k.2 : Nat) : Int)).sum = ((W ks : Nat) : Int) := by
  unfold W; rw [← sum_cast, List.map_map]; rfl
theorem r2a {ks : List (Nat × Nat)} (hW : W ks ≤ 1000) (p : D) : R2 [some (.bor p), some (.val (dK ks)), some (.val (.int (W ks))), none, none, none, none, none, none, none, none, none, none, none, none, none, none, none, none, none, none, none, none, none, none, none, none] = R3 [some (.bor p), some (.val (dK ks)), some (.val (.int (W ks))), none, none, none, none, none, none, none, none, none, none, none, none, none, none, none, none, none, none, none, none, none, none, none, none] := by
  have c : decide ((1000 : Int) < (W ks : Int)) = false := by simp; omega
  simp only [R2, kSeq_1, kSeq_2, kSeq_3, kSeq_4, kSet_1, kNx_1, kPar_1, kd2_1, kd1_1, kIf_1, kIf_2, kRt_1, kEx_1, kVar_1, kVar_2, kMov_1, kMov_2, kfz_1, kfz_2, kc_1, k1_1, k2b_1, k2a_1, kt_1, kn_1, kAnd_1, kAnd_2, kOr_1, kOr_2, kmA_1, kmA_2, kmO_1, kmO_2, kmI_1, kmI_2, kh4_1, kh3_1, kh3_2, kh2_1, kh1_1, kcb_1, kca_1, kL5_1, kL4_1, kL3_1, kL2_1, kL1_1, kl2_1, kl1_1, kl3_1, kr_1, krs_1, krs_2, kput_1, kput_2, kpk_1, klst_1, klst_2, kbor_1, ka2_1, ka1_1, ktup_1, kls_1, kB_1, kx3_1, kx2_1, kx1_1, kx4_1, kis2_1, kis_1, kp_1, ks3_1, ks2_1, ks1_1, kF_1, kF2_1, kF2_2, kF2_3, kF2_4, kF1_1, kW2_1, kW2_2, kW2_3, kW2_4, kW_1, kW_2, kg_1, ksa_1, ki_1, ki_2, ki_3, kap2_1, kap_1, ksx4_1, ksx3_1, ksx2_1, ksx1_1, kat_1, ko_1, kfin_1, kfin_2, klc2_1, klc_1, kC4_1, kC3_1, kC2_1, kC2_2, kC1_1, ksum_1, kst2_1, kst_1, kst_2, kRev_1, kRev_2, krg_1, krg2_1, krg1_1, kav_1, kav_2, krc_1, runFn_a, out_n, out_s, ini_a, iniL_n, iniL_0, iniL_e, sSeq_a, sSet_a, sPar_a, dNil_a, dCons_a, setAll_n, setAll_c, sIf_a, sRet_a, sExpr_a, sNext_a, sBreak_a, sCont_a, mC_a, mVar_a, mMove_a, fz_a, m1_a, m2_a, tst_a, tNot_a, tAnd_a, tOr_a, tYes_a, mAnd_a, mOr_a, mIf_a, mChain_a, mCall_a, mCallL_a, lNil_a, lCons_a, lLend_a, res_e, res_v, res_s, slot_0, slot_s, put_a, peek_a, lstAt_a, get_v, get_o, get_b, aNil_a, aCons_a, aStar_a, mTup_a, mLst_a, mB_a, mIxS_a, mLenS_a, mIsi_a, pNone_a, pSome_a, mSl_a, sFor_a, forL_n, forL_c, whN_s, gN_a, gT_a, gsC_a, gsN_a, sAsg_a, iSeq_a, sApp_a, sSetIx_a, mLc_a, lcL_n, lcL_c, wipe_n, wipe_c, rest_n, rest_c, allVal_n, allVal_c, mRev_a, mLRg_a, mLRg2_a, lt_int, le_int, gt_int, ge_int, sub_int, add_int, mod_int, fdiv_int, pow_int', mul_ok, eq_int, ne_int, neg_int, not_bl, abs_int, int_int, int_bl, max_2, min_2, max_3, min_3, len_l, len_t, len_s, lenB_l, lenB_t, lenB_s, ix_s, ixV_a, tuple_l, tuple_t, list_l, list_t, sum_l, isi_int, isi_bool, isi_tup, ix_fr0, ix_fr1, mul_l, cat_l, cat_t, sl_l, sl_t, sl_s, line, kq4_1, kq3_1, kq2_1, kq1_1, mSl3_a, kz2_1, kz_1, iZipM_a, ken2_1, ken_1, iEnM_a, kgt_1, gTM_a, seq_l, seq_t, ksrt_1, sorted_a, kpo4_1, kpo3_1, kpo2_1, kpo1_1, mPopAt_a, Nat.reduceLeDiff, Nat.zero_le, and_self, Nat.one_ne_zero, Nat.reduceEqDiff, reduceCtorEq, Bool.not_true, Bool.not_false, decide_true, decide_false, Bool.and_self, Bool.and_true, Bool.true_and, List.length_cons, List.length_nil, List.replicate, List.append_nil, List.cons_append, List.nil_append, Nat.reduceAdd, Nat.reduceSub, List.getElem?_cons_succ, List.getElem?_cons_zero, Nat.sub_self, List.set_cons_succ, List.set_cons_zero, ↓reduceIte, Nat.reduceLeDiff, Nat.reduceLT, c]
def W2 : List Int := [1, 2, 3, 5, 8, 13, 40]
theorem w2_nodup : W2.Nodup := by decide
theorem w2_rng : ∀ w ∈ W2, 1 ≤ w ∧ w ≤ 40 := by decide
theorem r2b {ks : List (Nat × Nat)} (hW : 1000 < W ks) {n : Nat} {p : D} (hp : Pot n p) (hn : n < 500) : ∃ (ks' : List (Nat × Nat)) (p' : D), R2 [some (.bor p), some (.val (dK ks)), some (.val (.int (W ks))), none, none, none, none, none, none, none, none, none, none, none, none, none, none, none, none, none, none, none, none, none, none, none, none] = R3 [some (.bor p'), some (.val (dK ks')), some (.val (.int (W ks'))), none, none, none, none, none, none, none, none, none, none, none, none, none, none, none, none, none, none, none, none, none, none, none, none] ∧ Dr ks' 4 5 40 ∧ Pot (n + 9) p' := by
  obtain ⟨i, p1, c1, hp1, i0, i1⟩ := law_take_ok (F := 215987) (G := 7957) (H := 6911) (u := 4) (m := 10) hp (by omega) (by decide) (by decide) (by omega)
  obtain ⟨j, rfl⟩ : ∃ j : Nat, i = j := ⟨i.toNat, by omega⟩
  obtain ⟨p2, left, found, c2, hp2, hperm, hlen⟩ := law_some_ok (F := 215987) (G := 7957) (H := 6911) (k := j + 1) (xs := W2) hp1 (by omega) (by simp [W2]; omega) (by decide)
  have u := sorted_up w2_nodup hperm
  have hnn : ∀ w ∈ sortI found, 0 ≤ w := fun w hw => by have := w2_rng w (u.2.1 w hw); omega
  obtain ⟨ks', p3, c3, hp3, h1, h2⟩ := re_lc (some (.val (dK ks))) (some (.val (.int (W ks)))) none none none none none none none none none none none none none none none none none none none none none none none ((sortI found).map Int.toNat) _ p2 hp2 (by rw [List.length_map, u.2.2]; omega)
  have hl : ks'.length ≤ 16777216 := by
    have := congrArg List.length h1
    simp [u.2.2] at this; omega
  have D' : Dr ks' 4 5 40 := dr_of w2_nodup (fun w hw => by have := w2_rng w hw; omega) hperm (by omega) (by omega) h1 h2
  refine ⟨ks', p3, ?_, D', hp3.mono (by rw [List.length_map, u.2.2]; omega)⟩
  have c : decide ((1000 : Int) < (W ks : Int)) = true := by simp; omega
  have si : intsOf (found.map D.int) = some found := intsOf_map _
  have ei := ints_nat hnn
  have l2 : (((sortI found).map Int.toNat).map fun w : Nat => D.int w).length ≤ 16777216 := by simp [u.2.2]; omega
  have ej : (1 : Int) + (j : Int) = ((j + 1 : Nat) : Int) := by omega
  have eW : [D.int 1, .int 2, .int 3, .int 5, .int 8, .int 13, .int 40] = W2.map D.int := rfl
  rw [← eW] at c2
  have lr : (ks'.map row).length ≤ 16777216 := by simpa using hl
  have wl := wh_lc ks' fun k hk => ⟨by have := (D'.w k hk).2; omega, by have := (D'.m k hk).2; omega⟩
  have s := ints_map (f := fun k : Nat × Nat => ((k.1 * k.2 : Nat) : Int)) (xs := ks')
  have es := W_ints ks'
  unfold dK at c3
  simp only [R2, dK, e__law_take, e__law_some, kSeq_1, kSeq_2, kSeq_3, kSeq_4, kSet_1, kNx_1, kPar_1, kd2_1, kd1_1, kIf_1, kIf_2, kRt_1, kEx_1, kVar_1, kVar_2, kMov_1, kMov_2, kfz_1, kfz_2, kc_1, k1_1, k2b_1, k2a_1, kt_1, kn_1, kAnd_1, kAnd_2, kOr_1, kOr_2, kmA_1, kmA_2, kmO_1, kmO_2, kmI_1, kmI_2, kh4_1, kh3_1, kh3_2, kh2_1, kh1_1, kcb_1, kca_1, kL5_1, kL4_1, kL3_1, kL2_1, kL1_1, kl2_1, kl1_1, kl3_1, kr_1, krs_1, krs_2, kput_1, kput_2, kpk_1, klst_1, klst_2, kbor_1, ka2_1, ka1_1, ktup_1, kls_1, kB_1, kx3_1, kx2_1, kx1_1, kx4_1, kis2_1, kis_1, kp_1, ks3_1, ks2_1, ks1_1, kF_1, kF2_1, kF2_2, kF2_3, kF2_4, kF1_1, kW2_1, kW2_2, kW2_3, kW2_4, kW_1, kW_2, kg_1, ksa_1, ki_1, ki_2, ki_3, kap2_1, kap_1, ksx4_1, ksx3_1, ksx2_1, ksx1_1, kat_1, ko_1, kfin_1, kfin_2, klc2_1, klc_1, kC4_1, kC3_1, kC2_1, kC2_2, kC1_1, ksum_1, kst2_1, kst_1, kst_2, kRev_1, kRev_2, krg_1, krg2_1, krg1_1, kav_1, kav_2, krc_1, runFn_a, out_n, out_s, ini_a, iniL_n, iniL_0, iniL_e, sSeq_a, sSet_a, sPar_a, dNil_a, dCons_a, setAll_n, setAll_c, sIf_a, sRet_a, sExpr_a, sNext_a, sBreak_a, sCont_a, mC_a, mVar_a, mMove_a, fz_a, m1_a, m2_a, tst_a, tNot_a, tAnd_a, tOr_a, tYes_a, mAnd_a, mOr_a, mIf_a, mChain_a, mCall_a, mCallL_a, lNil_a, lCons_a, lLend_a, res_e, res_v, res_s, slot_0, slot_s, put_a, peek_a, lstAt_a, get_v, get_o, get_b, aNil_a, aCons_a, aStar_a, mTup_a, mLst_a, mB_a, mIxS_a, mLenS_a, mIsi_a, pNone_a, pSome_a, mSl_a, sFor_a, forL_n, forL_c, whN_s, gN_a, gT_a, gsC_a, gsN_a, sAsg_a, iSeq_a, sApp_a, sSetIx_a, mLc_a, lcL_n, lcL_c, wipe_n, wipe_c, rest_n, rest_c, allVal_n, allVal_c, mRev_a, mLRg_a, mLRg2_a, lt_int, le_int, gt_int, ge_int, sub_int, add_int, mod_int, fdiv_int, pow_int', mul_ok, eq_int, ne_int, neg_int, not_bl, abs_int, int_int, int_bl, max_2, min_2, max_3, min_3, len_l, len_t, len_s, lenB_l, lenB_t, lenB_s, ix_s, ixV_a, tuple_l, tuple_t, list_l, list_t, sum_l, isi_int, isi_bool, isi_tup, ix_fr0, ix_fr1, mul_l, cat_l, cat_t, sl_l, sl_t, sl_s, line, kq4_1, kq3_1, kq2_1, kq1_1, mSl3_a, kz2_1, kz_1, iZipM_a, ken2_1, ken_1, iEnM_a, kgt_1, gTM_a, seq_l, seq_t, ksrt_1, sorted_a, kpo4_1, kpo3_1, kpo2_1, kpo1_1, mPopAt_a, Nat.reduceLeDiff, Nat.zero_le, and_self, Nat.one_ne_zero, Nat.reduceEqDiff, reduceCtorEq, Bool.not_true, Bool.not_false, decide_true, decide_false, Bool.and_self, Bool.and_true, Bool.true_and, List.length_cons, List.length_nil, List.replicate, List.append_nil, List.cons_append, List.nil_append, Nat.reduceAdd, Nat.reduceSub, List.getElem?_cons_succ, List.getElem?_cons_zero, Nat.sub_self, List.set_cons_succ, List.set_cons_zero, ↓reduceIte, Nat.reduceLeDiff, Nat.reduceLT, c, c1, ej, c2, si, ei, l2, c3, lr, wl, s, es]
theorem r1 {ks : List (Nat × Nat)} (h : Ki ks) (p : D) : R1 [some (.bor p), some (.val (dK ks)), none, none, none, none, none, none, none, none, none, none, none, none, none, none, none, none, none, none, none, none, none, none, none, none, none] = R2 [some (.bor p), some (.val (dK ks)), some (.val (.int (W ks))), none, none, none, none, none, none, none, none, none, none, none, none, none, none, none, none, none, none, none, none, none, none, none, none] := by
  have lr : (ks.map row).length ≤ 16777216 := by have := h.len; simp; omega
  have wl := wh_lc ks fun k hk => ⟨(h.w k hk).2, by have := (h.m k hk).2; omega⟩
  have s := ints_map (f := fun k : Nat × Nat => ((k.1 * k.2 : Nat) : Int)) (xs := ks)
  have es := W_ints ks
  simp only [R1, dK, kSeq_1, kSeq_2, kSeq_3, kSeq_4, kSet_1, kNx_1, kPar_1, kd2_1, kd1_1, kIf_1, kIf_2, kRt_1, kEx_1, kVar_1, kVar_2, kMov_1, kMov_2, kfz_1, kfz_2, kc_1, k1_1, k2b_1, k2a_1, kt_1, kn_1, kAnd_1, kAnd_2, kOr_1, kOr_2, kmA_1, kmA_2, kmO_1, kmO_2, kmI_1, kmI_2, kh4_1, kh3_1, kh3_2, kh2_1, kh1_1, kcb_1, kca_1, kL5_1, kL4_1, kL3_1, kL2_1, kL1_1, kl2_1, kl1_1, kl3_1, kr_1, krs_1, krs_2, kput_1, kput_2, kpk_1, klst_1, klst_2, kbor_1, ka2_1, ka1_1, ktup_1, kls_1, kB_1, kx3_1, kx2_1, kx1_1, kx4_1, kis2_1, kis_1, kp_1, ks3_1, ks2_1, ks1_1, kF_1, kF2_1, kF2_2, kF2_3, kF2_4, kF1_1, kW2_1, kW2_2, kW2_3, kW2_4, kW_1, kW_2, kg_1, ksa_1, ki_1, ki_2, ki_3, kap2_1, kap_1, ksx4_1, ksx3_1, ksx2_1, ksx1_1, kat_1, ko_1, kfin_1, kfin_2, klc2_1, klc_1, kC4_1, kC3_1, kC2_1, kC2_2, kC1_1, ksum_1, kst2_1, kst_1, kst_2, kRev_1, kRev_2, krg_1, krg2_1, krg1_1, kav_1, kav_2, krc_1, runFn_a, out_n, out_s, ini_a, iniL_n, iniL_0, iniL_e, sSeq_a, sSet_a, sPar_a, dNil_a, dCons_a, setAll_n, setAll_c, sIf_a, sRet_a, sExpr_a, sNext_a, sBreak_a, sCont_a, mC_a, mVar_a, mMove_a, fz_a, m1_a, m2_a, tst_a, tNot_a, tAnd_a, tOr_a, tYes_a, mAnd_a, mOr_a, mIf_a, mChain_a, mCall_a, mCallL_a, lNil_a, lCons_a, lLend_a, res_e, res_v, res_s, slot_0, slot_s, put_a, peek_a, lstAt_a, get_v, get_o, get_b, aNil_a, aCons_a, aStar_a, mTup_a, mLst_a, mB_a, mIxS_a, mLenS_a, mIsi_a, pNone_a, pSome_a, mSl_a, sFor_a, forL_n, forL_c, whN_s, gN_a, gT_a, gsC_a, gsN_a, sAsg_a, iSeq_a, sApp_a, sSetIx_a, mLc_a, lcL_n, lcL_c, wipe_n, wipe_c, rest_n, rest_c, allVal_n, allVal_c, mRev_a, mLRg_a, mLRg2_a, lt_int, le_int, gt_int, ge_int, sub_int, add_int, mod_int, fdiv_int, pow_int', mul_ok, eq_int, ne_int, neg_int, not_bl, abs_int, int_int, int_bl, max_2, min_2, max_3, min_3, len_l, len_t, len_s, lenB_l, lenB_t, lenB_s, ix_s, ixV_a, tuple_l, tuple_t, list_l, list_t, sum_l, isi_int, isi_bool, isi_tup, ix_fr0, ix_fr1, mul_l, cat_l, cat_t, sl_l, sl_t, sl_s, line, kq4_1, kq3_1, kq2_1, kq1_1, mSl3_a, kz2_1, kz_1, iZipM_a, ken2_1, ken_1, iEnM_a, kgt_1, gTM_a, seq_l, seq_t, ksrt_1, sorted_a, kpo4_1, kpo3_1, kpo2_1, kpo1_1, mPopAt_a, Nat.reduceLeDiff, Nat.zero_le, and_self, Nat.one_ne_zero, Nat.reduceEqDiff, reduceCtorEq, Bool.not_true, Bool.not_false, decide_true, decide_false, Bool.and_self, Bool.and_true, Bool.true_and, List.length_cons, List.length_nil, List.replicate, List.append_nil, List.cons_append, List.nil_append, Nat.reduceAdd, Nat.reduceSub, List.getElem?_cons_succ, List.getElem?_cons_zero, Nat.sub_self, List.set_cons_succ, List.set_cons_zero, ↓reduceIte, Nat.reduceLeDiff, Nat.reduceLT, lr, wl, s, es]
theorem right_ok {n : Nat} {p : D} (hp : Pot n p) (hn : n < 100) : ∃ p' : D, f__law_right [p] = some (.val (.bl true), p') ∧ Pot (n + 40) p' := by
  obtain ⟨u, p1, c1, hp1, hu⟩ := law_of_ok (F := 215987) (G := 7957) (H := 6911) (ds := [.int 2, .int 15]) hp (by decide) (by decide) (by omega)
  obtain ⟨v, rfl, w1, x1⟩ : ∃ i : Nat, u = .int i ∧ 1 ≤ i ∧ i ≤ 15 := by
    simp at hu
    rcases hu with rfl | rfl
    · exact ⟨2, rfl, by decide, by decide⟩
    · exact ⟨15, rfl, by decide, by decide⟩
  obtain ⟨ks, p2, c2, hp2, D2⟩ := law_kinds_ok hp1 (by omega) (most := v) (by omega) (by omega)
  have K := D2.ki (by omega) (by omega)
  have e0 : R0 [some (.bor p), none, none, none, none, none, none, none, none, none, none, none, none, none, none, none, none, none, none, none, none, none, none, none, none, none, none] = R1 [some (.bor p2), some (.val (dK ks)), none, none, none, none, none, none, none, none, none, none, none, none, none, none, none, none, none, none, none, none, none, none, none, none, none] := by
    simp only [R0, e__law_of, kSeq_1, kSeq_2, kSeq_3, kSeq_4, kSet_1, kNx_1, kPar_1, kd2_1, kd1_1, kIf_1, kIf_2, kRt_1, kEx_1, kVar_1, kVar_2, kMov_1, kMov_2, kfz_1, kfz_2, kc_1, k1_1, k2b_1, k2a_1, kt_1, kn_1, kAnd_1, kAnd_2, kOr_1, kOr_2, kmA_1, kmA_2, kmO_1, kmO_2, kmI_1, kmI_2, kh4_1, kh3_1, kh3_2, kh2_1, kh1_1, kcb_1, kca_1, kL5_1, kL4_1, kL3_1, kL2_1, kL1_1, kl2_1, kl1_1, kl3_1, kr_1, krs_1, krs_2, kput_1, kput_2, kpk_1, klst_1, klst_2, kbor_1, ka2_1, ka1_1, ktup_1, kls_1, kB_1, kx3_1, kx2_1, kx1_1, kx4_1, kis2_1, kis_1, kp_1, ks3_1, ks2_1, ks1_1, kF_1, kF2_1, kF2_2, kF2_3, kF2_4, kF1_1, kW2_1, kW2_2, kW2_3, kW2_4, kW_1, kW_2, kg_1, ksa_1, ki_1, ki_2, ki_3, kap2_1, kap_1, ksx4_1, ksx3_1, ksx2_1, ksx1_1, kat_1, ko_1, kfin_1, kfin_2, klc2_1, klc_1, kC4_1, kC3_1, kC2_1, kC2_2, kC1_1, ksum_1, kst2_1, kst_1, kst_2, kRev_1, kRev_2, krg_1, krg2_1, krg1_1, kav_1, kav_2, krc_1, runFn_a, out_n, out_s, ini_a, iniL_n, iniL_0, iniL_e, sSeq_a, sSet_a, sPar_a, dNil_a, dCons_a, setAll_n, setAll_c, sIf_a, sRet_a, sExpr_a, sNext_a, sBreak_a, sCont_a, mC_a, mVar_a, mMove_a, fz_a, m1_a, m2_a, tst_a, tNot_a, tAnd_a, tOr_a, tYes_a, mAnd_a, mOr_a, mIf_a, mChain_a, mCall_a, mCallL_a, lNil_a, lCons_a, lLend_a, res_e, res_v, res_s, slot_0, slot_s, put_a, peek_a, lstAt_a, get_v, get_o, get_b, aNil_a, aCons_a, aStar_a, mTup_a, mLst_a, mB_a, mIxS_a, mLenS_a, mIsi_a, pNone_a, pSome_a, mSl_a, sFor_a, forL_n, forL_c, whN_s, gN_a, gT_a, gsC_a, gsN_a, sAsg_a, iSeq_a, sApp_a, sSetIx_a, mLc_a, lcL_n, lcL_c, wipe_n, wipe_c, rest_n, rest_c, allVal_n, allVal_c, mRev_a, mLRg_a, mLRg2_a, lt_int, le_int, gt_int, ge_int, sub_int, add_int, mod_int, fdiv_int, pow_int', mul_ok, eq_int, ne_int, neg_int, not_bl, abs_int, int_int, int_bl, max_2, min_2, max_3, min_3, len_l, len_t, len_s, lenB_l, lenB_t, lenB_s, ix_s, ixV_a, tuple_l, tuple_t, list_l, list_t, sum_l, isi_int, isi_bool, isi_tup, ix_fr0, ix_fr1, mul_l, cat_l, cat_t, sl_l, sl_t, sl_s, line, kq4_1, kq3_1, kq2_1, kq1_1, mSl3_a, kz2_1, kz_1, iZipM_a, ken2_1, ken_1, iEnM_a, kgt_1, gTM_a, seq_l, seq_t, ksrt_1, sorted_a, kpo4_1, kpo3_1, kpo2_1, kpo1_1, mPopAt_a, Nat.reduceLeDiff, Nat.zero_le, and_self, Nat.one_ne_zero, Nat.reduceEqDiff, reduceCtorEq, Bool.not_true, Bool.not_false, decide_true, decide_false, Bool.and_self, Bool.and_true, Bool.true_and, List.length_cons, List.length_nil, List.replicate, List.append_nil, List.cons_append, List.nil_append, Nat.reduceAdd, Nat.reduceSub, List.getElem?_cons_succ, List.getElem?_cons_zero, Nat.sub_self, List.set_cons_succ, List.set_cons_zero, ↓reduceIte, Nat.reduceLeDiff, Nat.reduceLT, c1, c2]
  have fin : ∀ {ks : List (Nat × Nat)} {p2 : D} {m : Nat}, Ki ks → W ks ≤ 1000 → Pot m p2 → m < 400 → R0 [some (.bor p), none, none, none, none, none, none, none, none, none, none, none, none, none, none, none, none, none, none, none, none, none, none, none, none, none, none] = R3 [some (.bor p2), some (.val (dK ks)), some (.val (.int (W ks))), none, none, none, none, none, none, none, none, none, none, none, none, none, none, none, none, none, none, none, none, none, none, none, none] → ∃ p' : D, f__law_right [p] = some (.val (.bl true), p') ∧ Pot (m + 8) p' := by
    intro ks p2 m K hW hP hm he
    obtain ⟨ρ', p', h4, hr, hP'⟩ := r4 K hW hP (by omega)
    refine ⟨p', ?_, hP'⟩
    have h3 := r3 K hW p2
    simp only [f__law_right, R_eq, kSeq_1, kSeq_2, kSeq_3, kSeq_4, kSet_1, kNx_1, kPar_1, kd2_1, kd1_1, kIf_1, kIf_2, kRt_1, kEx_1, kVar_1, kVar_2, kMov_1, kMov_2, kfz_1, kfz_2, kc_1, k1_1, k2b_1, k2a_1, kt_1, kn_1, kAnd_1, kAnd_2, kOr_1, kOr_2, kmA_1, kmA_2, kmO_1, kmO_2, kmI_1, kmI_2, kh4_1, kh3_1, kh3_2, kh2_1, kh1_1, kcb_1, kca_1, kL5_1, kL4_1, kL3_1, kL2_1, kL1_1, kl2_1, kl1_1, kl3_1, kr_1, krs_1, krs_2, kput_1, kput_2, kpk_1, klst_1, klst_2, kbor_1, ka2_1, ka1_1, ktup_1, kls_1, kB_1, kx3_1, kx2_1, kx1_1, kx4_1, kis2_1, kis_1, kp_1, ks3_1, ks2_1, ks1_1, kF_1, kF2_1, kF2_2, kF2_3, kF2_4, kF1_1, kW2_1, kW2_2, kW2_3, kW2_4, kW_1, kW_2, kg_1, ksa_1, ki_1, ki_2, ki_3, kap2_1, kap_1, ksx4_1, ksx3_1, ksx2_1, ksx1_1, kat_1, ko_1, kfin_1, kfin_2, klc2_1, klc_1, kC4_1, kC3_1, kC2_1, kC2_2, kC1_1, ksum_1, kst2_1, kst_1, kst_2, kRev_1, kRev_2, krg_1, krg2_1, krg1_1, kav_1, kav_2, krc_1, runFn_a, out_n, out_s, ini_a, iniL_n, iniL_0, iniL_e, sSeq_a, sSet_a, sPar_a, dNil_a, dCons_a, setAll_n, setAll_c, sIf_a, sRet_a, sExpr_a, sNext_a, sBreak_a, sCont_a, mC_a, mVar_a, mMove_a, fz_a, m1_a, m2_a, tst_a, tNot_a, tAnd_a, tOr_a, tYes_a, mAnd_a, mOr_a, mIf_a, mChain_a, mCall_a, mCallL_a, lNil_a, lCons_a, lLend_a, res_e, res_v, res_s, slot_0, slot_s, put_a, peek_a, lstAt_a, get_v, get_o, get_b, aNil_a, aCons_a, aStar_a, mTup_a, mLst_a, mB_a, mIxS_a, mLenS_a, mIsi_a, pNone_a, pSome_a, mSl_a, sFor_a, forL_n, forL_c, whN_s, gN_a, gT_a, gsC_a, gsN_a, sAsg_a, iSeq_a, sApp_a, sSetIx_a, mLc_a, lcL_n, lcL_c, wipe_n, wipe_c, rest_n, rest_c, allVal_n, allVal_c, mRev_a, mLRg_a, mLRg2_a, lt_int, le_int, gt_int, ge_int, sub_int, add_int, mod_int, fdiv_int, pow_int', mul_ok, eq_int, ne_int, neg_int, not_bl, abs_int, int_int, int_bl, max_2, min_2, max_3, min_3, len_l, len_t, len_s, lenB_l, lenB_t, lenB_s, ix_s, ixV_a, tuple_l, tuple_t, list_l, list_t, sum_l, isi_int, isi_bool, isi_tup, ix_fr0, ix_fr1, mul_l, cat_l, cat_t, sl_l, sl_t, sl_s, line, Nat.reduceLeDiff, Nat.zero_le, and_self, Nat.one_ne_zero, Nat.reduceEqDiff, reduceCtorEq, Bool.not_true, Bool.not_false, decide_true, decide_false, Bool.and_self, Bool.and_true, Bool.true_and, List.length_cons, List.length_nil, List.replicate, List.append_nil, List.cons_append, List.nil_append, Nat.reduceAdd, Nat.reduceSub, List.getElem?_cons_succ, List.getElem?_cons_zero, Nat.sub_self, List.set_cons_succ, List.set_cons_zero, ↓reduceIte, Nat.reduceLeDiff, Nat.reduceLT]
    rw [he, h3, h4]
    simp only [kSeq_1, kSeq_2, kSeq_3, kSeq_4, kSet_1, kNx_1, kPar_1, kd2_1, kd1_1, kIf_1, kIf_2, kRt_1, kEx_1, kVar_1, kVar_2, kMov_1, kMov_2, kfz_1, kfz_2, kc_1, k1_1, k2b_1, k2a_1, kt_1, kn_1, kAnd_1, kAnd_2, kOr_1, kOr_2, kmA_1, kmA_2, kmO_1, kmO_2, kmI_1, kmI_2, kh4_1, kh3_1, kh3_2, kh2_1, kh1_1, kcb_1, kca_1, kL5_1, kL4_1, kL3_1, kL2_1, kL1_1, kl2_1, kl1_1, kl3_1, kr_1, krs_1, krs_2, kput_1, kput_2, kpk_1, klst_1, klst_2, kbor_1, ka2_1, ka1_1, ktup_1, kls_1, kB_1, kx3_1, kx2_1, kx1_1, kx4_1, kis2_1, kis_1, kp_1, ks3_1, ks2_1, ks1_1, kF_1, kF2_1, kF2_2, kF2_3, kF2_4, kF1_1, kW2_1, kW2_2, kW2_3, kW2_4, kW_1, kW_2, kg_1, ksa_1, ki_1, ki_2, ki_3, kap2_1, kap_1, ksx4_1, ksx3_1, ksx2_1, ksx1_1, kat_1, ko_1, kfin_1, kfin_2, klc2_1, klc_1, kC4_1, kC3_1, kC2_1, kC2_2, kC1_1, ksum_1, kst2_1, kst_1, kst_2, kRev_1, kRev_2, krg_1, krg2_1, krg1_1, kav_1, kav_2, krc_1, runFn_a, out_n, out_s, ini_a, iniL_n, iniL_0, iniL_e, sSeq_a, sSet_a, sPar_a, dNil_a, dCons_a, setAll_n, setAll_c, sIf_a, sRet_a, sExpr_a, sNext_a, sBreak_a, sCont_a, mC_a, mVar_a, mMove_a, fz_a, m1_a, m2_a, tst_a, tNot_a, tAnd_a, tOr_a, tYes_a, mAnd_a, mOr_a, mIf_a, mChain_a, mCall_a, mCallL_a, lNil_a, lCons_a, lLend_a, res_e, res_v, res_s, slot_0, slot_s, put_a, peek_a, lstAt_a, get_v, get_o, get_b, aNil_a, aCons_a, aStar_a, mTup_a, mLst_a, mB_a, mIxS_a, mLenS_a, mIsi_a, pNone_a, pSome_a, mSl_a, sFor_a, forL_n, forL_c, whN_s, gN_a, gT_a, gsC_a, gsN_a, sAsg_a, iSeq_a, sApp_a, sSetIx_a, mLc_a, lcL_n, lcL_c, wipe_n, wipe_c, rest_n, rest_c, allVal_n, allVal_c, mRev_a, mLRg_a, mLRg2_a, lt_int, le_int, gt_int, ge_int, sub_int, add_int, mod_int, fdiv_int, pow_int', mul_ok, eq_int, ne_int, neg_int, not_bl, abs_int, int_int, int_bl, max_2, min_2, max_3, min_3, len_l, len_t, len_s, lenB_l, lenB_t, lenB_s, ix_s, ixV_a, tuple_l, tuple_t, list_l, list_t, sum_l, isi_int, isi_bool, isi_tup, ix_fr0, ix_fr1, mul_l, cat_l, cat_t, sl_l, sl_t, sl_s, line, Nat.reduceLeDiff, Nat.zero_le, and_self, Nat.one_ne_zero, Nat.reduceEqDiff, reduceCtorEq, Bool.not_true, Bool.not_false, decide_true, decide_false, Bool.and_self, Bool.and_true, Bool.true_and, List.length_cons, List.length_nil, List.replicate, List.append_nil, List.cons_append, List.nil_append, Nat.reduceAdd, Nat.reduceSub, List.getElem?_cons_succ, List.getElem?_cons_zero, Nat.sub_self, List.set_cons_succ, List.set_cons_zero, ↓reduceIte, Nat.reduceLeDiff, Nat.reduceLT, hr]
  by_cases hW : W ks ≤ 1000
  · obtain ⟨p', a, b⟩ := fin K hW hp2 (by omega) (by rw [e0, r1 K, r2a hW])
    exact ⟨p', a, b.mono (by omega)⟩
  · obtain ⟨ks', p3, h2, D3, hp3⟩ := r2b (ks := ks) (by omega) hp2 (by omega)
    obtain ⟨p', a, b⟩ := fin (D3.ki (by omega) (by omega)) D3.small hp3 (by omega) (by rw [e0, r1 K, h2])
    exact ⟨p', a, b.mono (by omega)⟩
def body : MS := (sSeq (sSet 2 (mCall f__law_pot (aCons (mVar 0) (aCons (mVar 1) aNil))))
    (sIf (tNotm (tst (mCallL 0 f__law_right (lLend 2 lNil)))) (sRet (mC (.bl false))) sNext))
theorem body_ok (ns : List Int) (pl : Nat) (h : pl < ns.length ∨ ns.length = 0 ∧ pl = 0) (hl : ns.length < 100) (o2 : Option DV) : ∃ q2, body [some (.val (.scr ns)), some (.val (.int pl)), o2] = some (.nx [some (.val (.scr ns)), some (.val (.int pl)), q2]) := by
  obtain ⟨p, e0, hp⟩ := law_pot_ok (A := 9445) (B := 20957) (C := 164959) (F := 23689) (G := 7365) ns pl h hl
  obtain ⟨p', e1, _⟩ := right_ok hp (by decide)
  refine ⟨some (.own p'), ?_⟩
  simp only [body, kSeq_1, kSeq_2, kSeq_3, kSeq_4, kSet_1, kNx_1, kPar_1, kd2_1, kd1_1, kIf_1, kIf_2, kRt_1, kEx_1, kVar_1, kVar_2, kMov_1, kMov_2, kfz_1, kfz_2, kc_1, k1_1, k2b_1, k2a_1, kt_1, kn_1, kAnd_1, kAnd_2, kOr_1, kOr_2, kmA_1, kmA_2, kmO_1, kmO_2, kmI_1, kmI_2, kh4_1, kh3_1, kh3_2, kh2_1, kh1_1, kcb_1, kca_1, kL5_1, kL4_1, kL3_1, kL2_1, kL1_1, kl2_1, kl1_1, kl3_1, kr_1, krs_1, krs_2, kput_1, kput_2, kpk_1, klst_1, klst_2, kbor_1, ka2_1, ka1_1, ktup_1, kls_1, kB_1, kx3_1, kx2_1, kx1_1, kx4_1, kis2_1, kis_1, kp_1, ks3_1, ks2_1, ks1_1, kF_1, kF2_1, kF2_2, kF2_3, kF2_4, kF1_1, kW2_1, kW2_2, kW2_3, kW2_4, kW_1, kW_2, kg_1, ksa_1, ki_1, ki_2, ki_3, kap2_1, kap_1, ksx4_1, ksx3_1, ksx2_1, ksx1_1, kat_1, ko_1, kfin_1, kfin_2, klc2_1, klc_1, kC4_1, kC3_1, kC2_1, kC2_2, kC1_1, ksum_1, kst2_1, kst_1, kst_2, kRev_1, kRev_2, krg_1, krg2_1, krg1_1, kav_1, kav_2, krc_1, runFn_a, out_n, out_s, ini_a, iniL_n, iniL_0, iniL_e, sSeq_a, sSet_a, sPar_a, dNil_a, dCons_a, setAll_n, setAll_c, sIf_a, sRet_a, sExpr_a, sNext_a, sBreak_a, sCont_a, mC_a, mVar_a, mMove_a, fz_a, m1_a, m2_a, tst_a, tNot_a, tAnd_a, tOr_a, tYes_a, mAnd_a, mOr_a, mIf_a, mChain_a, mCall_a, mCallL_a, lNil_a, lCons_a, lLend_a, res_e, res_v, res_s, slot_0, slot_s, put_a, peek_a, lstAt_a, get_v, get_o, get_b, aNil_a, aCons_a, aStar_a, mTup_a, mLst_a, mB_a, mIxS_a, mLenS_a, mIsi_a, pNone_a, pSome_a, mSl_a, sFor_a, forL_n, forL_c, whN_s, gN_a, gT_a, gsC_a, gsN_a, sAsg_a, iSeq_a, sApp_a, sSetIx_a, mLc_a, lcL_n, lcL_c, wipe_n, wipe_c, rest_n, rest_c, allVal_n, allVal_c, mRev_a, mLRg_a, mLRg2_a, lt_int, le_int, gt_int, ge_int, sub_int, add_int, mod_int, fdiv_int, pow_int', mul_ok, eq_int, ne_int, neg_int, not_bl, abs_int, int_int, int_bl, max_2, min_2, max_3, min_3, len_l, len_t, len_s, lenB_l, lenB_t, lenB_s, ix_s, ixV_a, tuple_l, tuple_t, list_l, list_t, sum_l, isi_int, isi_bool, isi_tup, ix_fr0, ix_fr1, mul_l, cat_l, cat_t, sl_l, sl_t, sl_s, line, kq4_1, kq3_1, kq2_1, kq1_1, mSl3_a, kz2_1, kz_1, iZipM_a, ken2_1, ken_1, iEnM_a, kgt_1, gTM_a, seq_l, seq_t, ksrt_1, sorted_a, kpo4_1, kpo3_1, kpo2_1, kpo1_1, mPopAt_a, Nat.reduceLeDiff, Nat.zero_le, and_self, Nat.one_ne_zero, Nat.reduceEqDiff, reduceCtorEq, Bool.not_true, Bool.not_false, decide_true, decide_false, Bool.and_self, Bool.and_true, Bool.true_and, List.length_cons, List.length_nil, List.replicate, List.append_nil, List.cons_append, List.nil_append, Nat.reduceAdd, Nat.reduceSub, List.getElem?_cons_succ, List.getElem?_cons_zero, Nat.sub_self, List.set_cons_succ, List.set_cons_zero, ↓reduceIte, Nat.reduceLeDiff, Nat.reduceLT, e__law_pot, e0, e1]
theorem loop_ok (ns : List Int) (hl : ns.length < 100) : ∀ (k j : Nat) (o1 o2 : Option DV), j + k ≤ max 1 (min 2 ns.length) → ∃ q1 q2, forL (gN 1) body (rangeD (j : Int) k) [some (.val (.scr ns)), o1, o2] = some (.nx [some (.val (.scr ns)), q1, q2])
  | 0, j, o1, o2, _ => ⟨o1, o2, by simp only [rangeD_0, forL_n]⟩
  | k + 1, j, o1, o2, h => by
    obtain ⟨q2, hb⟩ := body_ok ns j (by omega) hl o2
    obtain ⟨r1, r2, ih⟩ := loop_ok ns hl k (j + 1) (some (.val (.int j))) q2 (by omega)
    refine ⟨r1, r2, ?_⟩
    rw [rangeD_s, show (j : Int) + 1 = ((j + 1 : Nat) : Int) by omega, ← ih]
    simp only [forL_c, gN_a, Nat.reduceLeDiff, Nat.zero_le, and_self, Nat.one_ne_zero, Nat.reduceEqDiff, reduceCtorEq, Bool.not_true, Bool.not_false, decide_true, decide_false, Bool.and_self, Bool.and_true, Bool.true_and, List.length_cons, List.length_nil, List.replicate, List.append_nil, List.cons_append, List.nil_append, Nat.reduceAdd, Nat.reduceSub, List.getElem?_cons_succ, List.getElem?_cons_zero, Nat.sub_self, List.set_cons_succ, List.set_cons_zero, ↓reduceIte, Nat.reduceLeDiff, Nat.reduceLT, kF1_1, hb, kF2_1]
theorem plain (ns : List Int) (h : ns.length ≤ 63) : f_law [.scr ns] = some (.val (.bl true), .non) := by
  obtain ⟨q1, q2, hb⟩ := loop_ok ns (by omega) (max 1 (min 2 ns.length)) 0 none none (by omega)
  have hc := law_cells_ok ns 2 (by decide) (by omega)
  have e : b_law = (sSeq (sFor (iSeq (mCall f__law_cells (aCons (mVar 0) (aCons (mC (.int 2)) aNil)))) (gN 1) body) (sRet (mC (.bl true)))) := rfl
  have k0 : ((0 : Nat) : Int) = 0 := rfl
  have k2 : ((2 : Nat) : Int) = 2 := rfl
  rw [k0] at hb
  rw [k2] at hc
  simp only [f_law, e, kSeq_1, kSeq_2, kSeq_3, kSeq_4, kSet_1, kNx_1, kPar_1, kd2_1, kd1_1, kIf_1, kIf_2, kRt_1, kEx_1, kVar_1, kVar_2, kMov_1, kMov_2, kfz_1, kfz_2, kc_1, k1_1, k2b_1, k2a_1, kt_1, kn_1, kAnd_1, kAnd_2, kOr_1, kOr_2, kmA_1, kmA_2, kmO_1, kmO_2, kmI_1, kmI_2, kh4_1, kh3_1, kh3_2, kh2_1, kh1_1, kcb_1, kca_1, kL5_1, kL4_1, kL3_1, kL2_1, kL1_1, kl2_1, kl1_1, kl3_1, kr_1, krs_1, krs_2, kput_1, kput_2, kpk_1, klst_1, klst_2, kbor_1, ka2_1, ka1_1, ktup_1, kls_1, kB_1, kx3_1, kx2_1, kx1_1, kx4_1, kis2_1, kis_1, kp_1, ks3_1, ks2_1, ks1_1, kF_1, kF2_1, kF2_2, kF2_3, kF2_4, kF1_1, kW2_1, kW2_2, kW2_3, kW2_4, kW_1, kW_2, kg_1, ksa_1, ki_1, ki_2, ki_3, kap2_1, kap_1, ksx4_1, ksx3_1, ksx2_1, ksx1_1, kat_1, ko_1, kfin_1, kfin_2, klc2_1, klc_1, kC4_1, kC3_1, kC2_1, kC2_2, kC1_1, ksum_1, kst2_1, kst_1, kst_2, kRev_1, kRev_2, krg_1, krg2_1, krg1_1, kav_1, kav_2, krc_1, runFn_a, out_n, out_s, ini_a, iniL_n, iniL_0, iniL_e, sSeq_a, sSet_a, sPar_a, dNil_a, dCons_a, setAll_n, setAll_c, sIf_a, sRet_a, sExpr_a, sNext_a, sBreak_a, sCont_a, mC_a, mVar_a, mMove_a, fz_a, m1_a, m2_a, tst_a, tNot_a, tAnd_a, tOr_a, tYes_a, mAnd_a, mOr_a, mIf_a, mChain_a, mCall_a, mCallL_a, lNil_a, lCons_a, lLend_a, res_e, res_v, res_s, slot_0, slot_s, put_a, peek_a, lstAt_a, get_v, get_o, get_b, aNil_a, aCons_a, aStar_a, mTup_a, mLst_a, mB_a, mIxS_a, mLenS_a, mIsi_a, pNone_a, pSome_a, mSl_a, sFor_a, forL_n, forL_c, whN_s, gN_a, gT_a, gsC_a, gsN_a, sAsg_a, iSeq_a, sApp_a, sSetIx_a, mLc_a, lcL_n, lcL_c, wipe_n, wipe_c, rest_n, rest_c, allVal_n, allVal_c, mRev_a, mLRg_a, mLRg2_a, lt_int, le_int, gt_int, ge_int, sub_int, add_int, mod_int, fdiv_int, pow_int', mul_ok, eq_int, ne_int, neg_int, not_bl, abs_int, int_int, int_bl, max_2, min_2, max_3, min_3, len_l, len_t, len_s, lenB_l, lenB_t, lenB_s, ix_s, ixV_a, tuple_l, tuple_t, list_l, list_t, sum_l, isi_int, isi_bool, isi_tup, ix_fr0, ix_fr1, mul_l, cat_l, cat_t, sl_l, sl_t, sl_s, line, kq4_1, kq3_1, kq2_1, kq1_1, mSl3_a, kz2_1, kz_1, iZipM_a, ken2_1, ken_1, iEnM_a, kgt_1, gTM_a, seq_l, seq_t, ksrt_1, sorted_a, kpo4_1, kpo3_1, kpo2_1, kpo1_1, mPopAt_a, Nat.reduceLeDiff, Nat.zero_le, and_self, Nat.one_ne_zero, Nat.reduceEqDiff, reduceCtorEq, Bool.not_true, Bool.not_false, decide_true, decide_false, Bool.and_self, Bool.and_true, Bool.true_and, List.length_cons, List.length_nil, List.replicate, List.append_nil, List.cons_append, List.nil_append, Nat.reduceAdd, Nat.reduceSub, List.getElem?_cons_succ, List.getElem?_cons_zero, Nat.sub_self, List.set_cons_succ, List.set_cons_zero, ↓reduceIte, Nat.reduceLeDiff, Nat.reduceLT, e__law_cells, hc, hb]
end
end Wk64

set_option Elab.async false
set_option linter.all false
set_option maxRecDepth 100000
set_option maxHeartbeats 0
namespace Wk64
open PySem PySem.Spec PyProof.Rows L2 He Cb
def names0 : List PySem.Str := ["is_tuple", "is_whole", "is_integer", "is_rising", "CatchError", "BadNumber", "BadChances", "BadKinds", "common_of", "whole_power", "is_size", "is_fraction", "is_share", "ratio_of", "plus_of", "minus_of", "times_of", "is_below", "total_of", "falling_of"]
def names1 : List PySem.Str := ["is_kinds", "check_kinds", "check_draws", "whole_of", "shares_of", "power_of", "mean_kinds", "mean_times", "mean_unseen", "summed", "are_shares", "new_of_share", "new_by_kinds", "_law_pot", "_law_take", "_law_of", "_law_cells", "_law_some", "_law_gcd", "_law_ratio"]
def names2 : List PySem.Str := ["_law_plus", "_law_times", "_law_below", "_law_kinds", "_law_less", "_law_right", "__name__", "PAIR_fractions", "MOST_SIZE", "NOUGHT", "ONE_WHOLE", "PAIR_kinds", "MOST_ROWS", "MOST_KINDS", "MOST_WEIGHT", "MOST_DRAWS", "MOST_SHARES", "MOST_LOW", "MOST_MORE"]
def names : List PySem.Str := names0 ++ names1 ++ names2
abbrev R : PySem.W.OpenRow := PySem.W.OpenLaw.row PySem.Challenge.rw_caughtbefore_k64_whole_new_kinds_step_by
abbrev hk : PySem.W.Hook := hookC 4 fa cs fn
def ob (s : PySem.W.SharedT) : AlC := obsCG 4 fa cs fn (HandSHeadRun.getT s)
theorem ob_eq (s : PySem.W.SharedT) : ob s = hk.obs s.abs := obsCG_eq (HandSHeadRun.getT_eq s)
theorem run (w : World) : HandSHeadRun.RunEq R (PySem.W.view R.prog [66]) hk ob 4000 names w := by
  intro os
  kernel_rfl
end Wk64
open PySem PySem.W PySem.Calls PyProof.Rows
theorem PySem.Challenge.cw_caughtbefore_k64_whole_new_kinds_step_by_holds : PySem.Challenge.rw_caughtbefore_k64_whole_new_kinds_step_by.Holds := by
  w_on; o_law
  refine HandSHeadRun.head_any (r := OpenLaw.row PySem.Challenge.rw_caughtbefore_k64_whole_new_kinds_step_by) (q := view (OpenLaw.row PySem.Challenge.rw_caughtbefore_k64_whole_new_kinds_step_by).prog [66]) (H := Wk64.hk) (ob := Wk64.ob) (M := 4000) (loose := Wk64.names) (d := HandSHeadRun.topDef (OpenLaw.row PySem.Challenge.rw_caughtbefore_k64_whole_new_kinds_step_by).prog 66) (kwd := []) Wk64.ob_eq
    (by kernel_rfl) (fun s => by kernel_rfl) Wk64.run (by kernel_rfl) (by kernel_rfl) (by kernel_rfl) (by rfl) (by first | assumption | decide +kernel) (by decide +kernel) ⟨rfl, rfl, rfl, rfl, rfl, by decide +kernel⟩ ?hw ?hc
  case hw => w_witness2
  case hc =>
    refine L2.walk_ofE (l := PySem.Challenge.rw_caughtbefore_k64_whole_new_kinds_step_by) (n := 63) (k := 8) (x := "script") (CX := L2.CX0) rfl (by decide) (by kernel_rfl) ⟨rfl, by decide, by decide⟩ ?F (fun _ _ _ _ z => z)
    intro w mg fa h Y G hmg0
    obtain ⟨K, KX, c⟩ := Y
    have hmg : mg ("law" : PySem.Str) = some (.ref fa) := by
      have e : (HandSHeadRun.topDef (OpenLaw.row PySem.Challenge.rw_caughtbefore_k64_whole_new_kinds_step_by).prog 66).name = ("law" : PySem.Str) := by kernel_rfl
      rw [← e]
      exact hmg0
    obtain ⟨fd, hb, hF⟩ := Wk64.lawFn (w := w) KX G hmg c
    exact ⟨K, fd, Cb.spF K none 1 Wk64.f_law, KX, hb, fun H a ns hl _ hS => Cb.law_sp (P := PySem.Challenge.pw_caughtbefore_k64_whole_new_kinds_step_by) (w := w) (mg := mg) (base := h) (Wk64.plain ns hl) hS, hF⟩
