import PyProof.Rows.All
import Wide.All
import OpenK.AllK
import Wide.FinOn
import HandS.ForMost
import HandS.Wide
import HandS.Style
import HandS.Zip
import HandS.TupAny
import HandS.TupMul
import HandS.Conv
import HandS.IsInst
import HandS.Star
import HandS.Defaults
import HandS.Ends
import HandS.More
import HandS.Words
import HandS.WordsExc
import HandS.Head0
import HandS.Head1
import HandS.Head2
import HandS.HeadEnd
import HandS.HeadHook1
import HandS.HeadHook2
import PySem.Challenge.RW_caughtbefore_k61_whole_fresh_draws_mirro
import KE.KStateDown
set_option Elab.async false
set_option linter.all false
set_option maxRecDepth 100000
/-! Core: data D, how a value stands for it, what is owned; expressions, statements, as functions of data. -/
namespace Cb
open PySem PySem.Spec PyProof.Rows L2

/-- data -/
inductive D where
  | non | bl (b : Bool) | int (i : Int) | str (x : Str)
  | tup (ds : List D) | lst (ds : List D) | dk (ks : List Key) (vs : List D) | dt (ks : List (List Key)) (vs : List D) | scr (ns : List Int)

mutual
/-- a value stands for data; F: what never changes again -/
def Rep (K : PySem.W.Frag) (F : Hp) : D → V → Prop
  | .non, v => v = .non
  | .bl b, v => v = .bl b
  | .int i, v => v = .int i
  | .str x, v => v = .str x
  | .tup ds, v => ∃ a xs, v = .ref a ∧ SqT K F a xs ∧ Reps K F ds xs
  | .lst ds, v => ∃ a xs, v = .ref a ∧ F a = some (.lst xs) ∧ Reps K F ds xs
  | .dk ks vs, v => ∃ a kvs, v = .ref a ∧ F a = some (.dK kvs) ∧ kvs.map (·.1) = ks ∧ Reps K F vs (kvs.map (·.2))
  | .dt ks vs, v => ∃ a kvs, v = .ref a ∧ F a = some (.dT kvs) ∧ kvs.map (·.1) = ks ∧ Reps K F vs (kvs.map (·.2))
  | .scr ns, v => ∃ a, v = .ref a ∧ SqL K F a (ns.map V.int)
def Reps (K : PySem.W.Frag) (F : Hp) : List D → List V → Prop
  | [], xs => xs = []
  | d :: ds, xs => ∃ x r, xs = x :: r ∧ Rep K F d x ∧ Reps K F ds r
end

theorem SqT_mono {K : PySem.W.Frag} {F F' : Hp} {a : Addr} {xs : List V} (s : Same F F') (h : SqT K F a xs) : SqT K F' a xs := by
  rcases h with (h | ⟨o, h⟩) | h
  · exact .inl (.inl (s _ _ h))
  · exact .inl (.inr ⟨o, s _ _ h⟩)
  · exact .inr h

section
variable {K : PySem.W.Frag} {F F' : Hp}
mutual
theorem Rep.mono (s : Same F F') : ∀ (d : D) (v : V), Rep K F d v → Rep K F' d v
  | .non, _, h => h
  | .bl _, _, h => h
  | .int _, _, h => h
  | .str _, _, h => h
  | .tup ds, v, h => by
    unfold Rep at h ⊢
    obtain ⟨a, xs, e, h1, h2⟩ := h
    exact ⟨a, xs, e, SqT_mono s h1, Reps.mono s ds xs h2⟩
  | .lst ds, v, h => by
    unfold Rep at h ⊢
    obtain ⟨a, xs, e, h1, h2⟩ := h
    exact ⟨a, xs, e, s _ _ h1, Reps.mono s ds xs h2⟩
  | .dk ks vs, v, h => by
    unfold Rep at h ⊢
    obtain ⟨a, kvs, e, h1, h2, h3⟩ := h
    exact ⟨a, kvs, e, s _ _ h1, h2, Reps.mono s vs _ h3⟩
  | .dt ks vs, v, h => by
    unfold Rep at h ⊢
    obtain ⟨a, kvs, e, h1, h2, h3⟩ := h
    exact ⟨a, kvs, e, s _ _ h1, h2, Reps.mono s vs _ h3⟩
  | .scr ns, v, h => by
    unfold Rep at h ⊢
    obtain ⟨a, e, h1⟩ := h
    exact ⟨a, e, s.seq h1⟩
theorem Reps.mono (s : Same F F') : ∀ (ds : List D) (xs : List V), Reps K F ds xs → Reps K F' ds xs
  | [], _, h => by unfold Reps at h ⊢; exact h
  | d :: ds, _, h => by
    unfold Reps at h ⊢
    obtain ⟨x, r, e, h1, h2⟩ := h
    exact ⟨x, r, e, Rep.mono s d x h1, Reps.mono s ds r h2⟩
end
theorem Reps.nil : Reps K F [] [] := by unfold Reps; rfl
theorem Reps.cons {d : D} {ds : List D} {x : V} {xs : List V} (h : Rep K F d x) (t : Reps K F ds xs) : Reps K F (d :: ds) (x :: xs) := by
  unfold Reps; exact ⟨x, xs, rfl, h, t⟩
theorem Reps.of_cons {d : D} {ds : List D} {xs : List V} (h : Reps K F (d :: ds) xs) : ∃ x r, xs = x :: r ∧ Rep K F d x ∧ Reps K F ds r := by
  unfold Reps at h; exact h
theorem Reps.of_nil {xs : List V} (h : Reps K F [] xs) : xs = [] := by unfold Reps at h; exact h
theorem Reps.length : ∀ {ds : List D} {xs : List V}, Reps K F ds xs → xs.length = ds.length
  | [], _, h => by rw [h.of_nil]; rfl
  | d :: ds, _, h => by
    obtain ⟨x, r, rfl, _, h2⟩ := h.of_cons
    simp [Reps.length h2]
theorem Reps.get : ∀ {ds : List D} {xs : List V} {i : Nat} {d : D}, Reps K F ds xs → ds[i]? = some d → ∃ x, xs[i]? = some x ∧ Rep K F d x
  | [], _, _, _, _, e => by simp at e
  | d :: ds, _, 0, _, h, e => by
    obtain ⟨x, r, rfl, h1, _⟩ := h.of_cons
    simp at e; subst e; exact ⟨x, rfl, h1⟩
  | d :: ds, _, i + 1, _, h, e => by
    obtain ⟨x, r, rfl, _, h2⟩ := h.of_cons
    obtain ⟨y, e1, e2⟩ := Reps.get (i := i) h2 (by simpa using e)
    exact ⟨y, by simpa using e1, e2⟩
theorem Reps.get' : ∀ {ds : List D} {xs : List V} {i : Nat} {x : V}, Reps K F ds xs → xs[i]? = some x → ∃ d, ds[i]? = some d ∧ Rep K F d x
  | [], _, _, _, h, e => by rw [h.of_nil] at e; simp at e
  | d :: ds, _, 0, _, h, e => by
    obtain ⟨x, r, rfl, h1, _⟩ := h.of_cons
    simp at e; subst e; exact ⟨d, rfl, h1⟩
  | d :: ds, _, i + 1, _, h, e => by
    obtain ⟨x, r, rfl, _, h2⟩ := h.of_cons
    obtain ⟨y, e1, e2⟩ := Reps.get' (i := i) h2 (by simpa using e)
    exact ⟨y, by simpa using e1, e2⟩
theorem Reps.append : ∀ {ds es : List D} {xs ys : List V}, Reps K F ds xs → Reps K F es ys → Reps K F (ds ++ es) (xs ++ ys)
  | [], _, _, _, h, g => by rw [h.of_nil]; exact g
  | d :: ds, _, _, _, h, g => by
    obtain ⟨x, r, rfl, h1, h2⟩ := h.of_cons
    exact .cons h1 (Reps.append h2 g)
theorem Reps.one {d : D} {x : V} (h : Rep K F d x) : Reps K F [d] [x] := .cons h .nil
theorem Reps.take : ∀ {ds : List D} {xs : List V} (n : Nat), Reps K F ds xs → Reps K F (ds.take n) (xs.take n)
  | _, _, 0, _ => by simp; exact .nil
  | [], _, n + 1, h => by rw [h.of_nil]; exact .nil
  | d :: ds, _, n + 1, h => by
    obtain ⟨x, r, rfl, h1, h2⟩ := h.of_cons
    exact .cons h1 (Reps.take n h2)
theorem Reps.drop : ∀ {ds : List D} {xs : List V} (n : Nat), Reps K F ds xs → Reps K F (ds.drop n) (xs.drop n)
  | _, _, 0, h => h
  | [], _, n + 1, h => by rw [h.of_nil]; exact .nil
  | d :: ds, _, n + 1, h => by
    obtain ⟨x, r, rfl, h1, h2⟩ := h.of_cons
    exact Reps.drop n h2
theorem Reps.set : ∀ {ds : List D} {xs : List V} (n : Nat) {d : D} {x : V}, Reps K F ds xs → Rep K F d x → Reps K F (ds.set n d) (xs.set n x)
  | [], _, n, _, _, h, _ => by rw [h.of_nil]; exact .nil
  | d :: ds, _, 0, _, _, h, g => by
    obtain ⟨x, r, rfl, h1, h2⟩ := h.of_cons
    exact .cons g h2
  | d :: ds, _, n + 1, _, _, h, g => by
    obtain ⟨x, r, rfl, h1, h2⟩ := h.of_cons
    exact .cons h1 (Reps.set n h2 g)
theorem Reps.eraseIdx : ∀ {ds : List D} {xs : List V} (n : Nat), Reps K F ds xs → Reps K F (ds.eraseIdx n) (xs.eraseIdx n)
  | [], _, n, h => by rw [h.of_nil]; exact .nil
  | d :: ds, _, 0, h => by
    obtain ⟨x, r, rfl, h1, h2⟩ := h.of_cons
    exact h2
  | d :: ds, _, n + 1, h => by
    obtain ⟨x, r, rfl, h1, h2⟩ := h.of_cons
    exact .cons h1 (Reps.eraseIdx n h2)
theorem Reps.reverse : ∀ {ds : List D} {xs : List V}, Reps K F ds xs → Reps K F ds.reverse xs.reverse
  | [], _, h => by rw [h.of_nil]; exact .nil
  | d :: ds, _, h => by
    obtain ⟨x, r, rfl, h1, h2⟩ := h.of_cons
    rw [List.reverse_cons, List.reverse_cons]
    exact (Reps.reverse h2).append (.one h1)
/-- intsOf alone -/
def intsOf : List D → Option (List Int)
  | [] => some []
  | .int i :: r => (intsOf r).map (i :: ·)
  | _ :: _ => none
theorem intsOf_map (ns : List Int) : intsOf (ns.map D.int) = some ns := by
  induction ns with
  | nil => rfl
  | cons n ns ih => simp [intsOf, ih]
theorem Reps.intsOf : ∀ {ds : List D} {xs : List V} {ns : List Int}, Reps K F ds xs → Cb.intsOf ds = some ns → xs = ns.map V.int
  | [], _, _, h, e => by
    rw [h.of_nil]
    simp [Cb.intsOf] at e; subst e; rfl
  | d :: ds, _, ns, h, e => by
    obtain ⟨x, r, rfl, h1, h2⟩ := h.of_cons
    cases d with
    | int i =>
      unfold Rep at h1
      simp only [Cb.intsOf, Option.map_eq_some_iff] at e
      obtain ⟨m, e1, rfl⟩ := e
      rw [h1, Reps.intsOf h2 e1]; rfl
    | _ => simp [Cb.intsOf] at e
def boolsOf : List D → Option (List Bool)
  | [] => some []
  | .bl i :: r => (boolsOf r).map (i :: ·)
  | _ :: _ => none
theorem boolsOf_map (ns : List Bool) : boolsOf (ns.map D.bl) = some ns := by
  induction ns with
  | nil => rfl
  | cons n ns ih => simp [boolsOf, ih]
theorem Reps.boolsOf : ∀ {ds : List D} {xs : List V} {ns : List Bool}, Reps K F ds xs → Cb.boolsOf ds = some ns → xs = ns.map V.bl
  | [], _, _, h, e => by
    rw [h.of_nil]
    simp [Cb.boolsOf] at e; subst e; rfl
  | d :: ds, _, ns, h, e => by
    obtain ⟨x, r, rfl, h1, h2⟩ := h.of_cons
    cases d with
    | bl i =>
      unfold Rep at h1
      simp only [Cb.boolsOf, Option.map_eq_some_iff] at e
      obtain ⟨m, e1, rfl⟩ := e
      rw [h1, Reps.boolsOf h2 e1]; rfl
    | _ => simp [Cb.boolsOf] at e
end

/-- in a slot: a value that never changes, an object that this def made and nobody else knows, one that a caller lent -/
inductive DV where
  | val (d : D) | own (d : D) | bor (d : D)
def DV.owned : DV → Bool
  | .val _ => false
  | _ => true
abbrev En := List (Option DV)

def OwnRep (K : PySem.W.Frag) (H F : Hp) (a : Addr) : D → Prop
  | .lst ds => ∃ xs, H a = some (.lst xs) ∧ Reps K F ds xs
  | .dk ks vs => ∃ kvs, H a = some (.dK kvs) ∧ kvs.map (·.1) = ks ∧ Reps K F vs (kvs.map (·.2))
  | .dt ks vs => ∃ kvs, H a = some (.dT kvs) ∧ kvs.map (·.1) = ks ∧ Reps K F vs (kvs.map (·.2))
  | _ => False
theorem OwnRep.there {K : PySem.W.Frag} {H F : Hp} {a : Addr} {d : D} (h : OwnRep K H F a d) : ∃ o, H a = some o := by
  cases d with
  | lst ds => obtain ⟨_, e, _⟩ := h; exact ⟨_, e⟩
  | dk ks vs => obtain ⟨_, e, _⟩ := h; exact ⟨_, e⟩
  | dt ks vs => obtain ⟨_, e, _⟩ := h; exact ⟨_, e⟩
  | _ => exact h.elim
theorem OwnRep.mono {K : PySem.W.Frag} {H H' F F' : Hp} {a : Addr} {d : D} (h : OwnRep K H F a d) (e : H' a = H a) (s : Same F F') : OwnRep K H' F' a d := by
  cases d with
  | lst ds => obtain ⟨xs, h1, h2⟩ := h; exact ⟨xs, e.trans h1, Reps.mono s _ _ h2⟩
  | dk ks vs => obtain ⟨xs, h1, h2, h3⟩ := h; exact ⟨xs, e.trans h1, h2, Reps.mono s _ _ h3⟩
  | dt ks vs => obtain ⟨xs, h1, h2, h3⟩ := h; exact ⟨xs, e.trans h1, h2, Reps.mono s _ _ h3⟩
  | _ => exact h.elim
/-- the object as it would stand, frozen -/
theorem OwnRep.frozen {K : PySem.W.Frag} {H F : Hp} {a : Addr} {d : D} (h : OwnRep K H F a d) (hn : F a = none) : ∃ o, H a = some o ∧ Same F (upd F a o) ∧ Rep K (upd F a o) d (.ref a) := by
  obtain ⟨o, e⟩ := h.there
  have s : Same F (upd F a o) := fun b u q => by rw [upd_ne (ne_of_none q hn)]; exact q
  refine ⟨o, e, s, ?_⟩
  cases d with
  | lst ds => obtain ⟨xs, h1, h2⟩ := h; rw [e] at h1; cases h1; unfold Rep; exact ⟨a, xs, rfl, upd_same, Reps.mono s _ _ h2⟩
  | dk ks vs => obtain ⟨xs, h1, h2, h3⟩ := h; rw [e] at h1; cases h1; unfold Rep; exact ⟨a, xs, rfl, upd_same, h2, Reps.mono s _ _ h3⟩
  | dt ks vs => obtain ⟨xs, h1, h2, h3⟩ := h; rw [e] at h1; cases h1; unfold Rep; exact ⟨a, xs, rfl, upd_same, h2, Reps.mono s _ _ h3⟩
  | _ => exact h.elim

def SlotOk (K : PySem.W.Frag) (Z : Hp) (B : Nat → Addr) (H F : Hp) (i : Nat) (v : V) : DV → Prop
  | .val d => Rep K F d v
  | .own d => ∃ a, v = .ref a ∧ F a = none ∧ Z a = none ∧ OwnRep K H F a d
  | .bor d => v = .ref (B i) ∧ F (B i) = none ∧ Z (B i) = none ∧ OwnRep K H F (B i) d
/-- F0: what was frozen ahead; Z: what must stay as it is; B: the lent objects' places -/
structure Rel (K : PySem.W.Frag) (F0 Z : Hp) (B : Nat → Addr) (σ : L2.St) (H F : Hp) (ρ : En) : Prop where
  len : ρ.length = σ.length
  sub : Same F H
  zsub : Same Z H
  base : ∀ (a : Addr) (o : HO), F a = some o → F0 a = some o ∨ Z a = none
  slot : ∀ (i : Nat) (dv : DV), ρ[i]? = some (some dv) → ∃ v, σ[i]? = some (some v) ∧ SlotOk K Z B H F i v dv
  apart : ∀ (i j : Nat) (di dj : DV) (a : Addr), i ≠ j → ρ[i]? = some (some di) → ρ[j]? = some (some dj) → di.owned = true → dj.owned = true → σ[i]? = some (some (V.ref a)) → σ[j]? = some (some (V.ref a)) → False
/-- no owned slot lies at a -/
def Off (σ : L2.St) (ρ : En) (a : Addr) : Prop := ∀ (i : Nat) (di : DV), ρ[i]? = some (some di) → di.owned = true → σ[i]? ≠ some (some (V.ref a))
/-- an expression's value -/
def ResOk (K : PySem.W.Frag) (Z : Hp) (σ : L2.St) (ρ : En) (H F : Hp) (v : V) : DV → Prop
  | .val d => Rep K F d v
  | .own d => ∃ a, v = .ref a ∧ F a = none ∧ Z a = none ∧ OwnRep K H F a d ∧ Off σ ρ a
  | .bor _ => False

section
variable {K : PySem.W.Frag} {F0 Z : Hp} {B : Nat → Addr} {σ : L2.St} {H F H' F' : Hp} {ρ : En}
theorem SlotOk.addr {i : Nat} {v : V} {dv : DV} (h : SlotOk K Z B H F i v dv) (o : dv.owned = true) : ∃ a, v = .ref a ∧ F a = none ∧ Z a = none ∧ ∃ u, H a = some u := by
  cases dv with
  | val d => cases o
  | own d => obtain ⟨a, e, h1, h2, h3⟩ := h; exact ⟨a, e, h1, h2, h3.there⟩
  | bor d => obtain ⟨e, h1, h2, h3⟩ := h; exact ⟨_, e, h1, h2, h3.there⟩
theorem SlotOk.move {i : Nat} {v : V} {dv : DV} (h : SlotOk K Z B H F i v dv) (s : Same F F') (g : ∀ a, dv.owned = true → v = .ref a → H' a = H a ∧ F' a = none) : SlotOk K Z B H' F' i v dv := by
  cases dv with
  | val d => exact Rep.mono s d v h
  | own d =>
    obtain ⟨a, e, h1, h2, h3⟩ := h
    obtain ⟨g1, g2⟩ := g a rfl e
    exact ⟨a, e, g2, h2, h3.mono g1 s⟩
  | bor d =>
    obtain ⟨e, h1, h2, h3⟩ := h
    obtain ⟨g1, g2⟩ := g _ rfl e
    exact ⟨e, g2, h2, h3.mono g1 s⟩
theorem Rel.off_new (R : Rel K F0 Z B σ H F ρ) {a : Addr} (hn : H a = none) : Off σ ρ a := fun i di e o q => by
  obtain ⟨v, e1, s⟩ := R.slot i di e
  obtain ⟨b, rfl, _, _, u, hb⟩ := s.addr o
  rw [e1] at q
  have : b = a := by injection Option.some.inj (Option.some.inj q)
  rw [this, hn] at hb
  cases hb
theorem Rel.fnone (R : Rel K F0 Z B σ H F ρ) {a : Addr} (hn : H a = none) : F a = none := R.sub.free hn
theorem Rel.znone (R : Rel K F0 Z B σ H F ρ) {a : Addr} (hn : H a = none) : Z a = none := R.zsub.free hn
/-- a new object that is not frozen -/
theorem Rel.alloc (R : Rel K F0 Z B σ H F ρ) {a : Addr} {o : HO} (hn : H a = none) : Rel K F0 Z B σ (upd H a o) F ρ where
  len := R.len
  sub := fun b u e => by rw [upd_ne (ne_of_none (R.sub _ _ e) hn)]; exact R.sub _ _ e
  zsub := fun b u e => by rw [upd_ne (ne_of_none (R.zsub _ _ e) hn)]; exact R.zsub _ _ e
  base := R.base
  slot := fun i dv e => by
    obtain ⟨v, e1, s⟩ := R.slot i dv e
    refine ⟨v, e1, s.move (Same.refl _) fun b ho eb => ?_⟩
    obtain ⟨c, ec, hF, _, u, hu⟩ := s.addr ho
    rw [eb] at ec; cases ec
    exact ⟨upd_ne (ne_of_none hu hn), hF⟩
  apart := R.apart
/-- an object at which no slot lies is frozen -/
theorem Rel.freeze (R : Rel K F0 Z B σ H F ρ) {a : Addr} {o : HO} (hF : F a = none) (hZ : Z a = none) (hH : H a = some o) (off : Off σ ρ a) : Rel K F0 Z B σ H (upd F a o) ρ where
  len := R.len
  sub := fun b u e => by
    by_cases h : b = a
    · subst h; rw [upd_same] at e; rw [hH]; exact e
    · rw [upd_ne h] at e; exact R.sub _ _ e
  zsub := R.zsub
  base := fun b u e => by
    by_cases h : b = a
    · subst h; exact .inr hZ
    · rw [upd_ne h] at e; exact R.base _ _ e
  slot := fun i dv e => by
    obtain ⟨v, e1, s⟩ := R.slot i dv e
    refine ⟨v, e1, s.move (fun b u q => by rw [upd_ne (ne_of_none q hF)]; exact q) fun b ho eb => ⟨rfl, ?_⟩⟩
    obtain ⟨c, ec, hFc, _, u, hu⟩ := s.addr ho
    rw [eb] at ec; cases ec
    have : b ≠ a := fun z => off i dv e ho (by rw [e1, eb, z])
    rw [upd_ne this]; exact hFc
  apart := R.apart
/-- a new frozen object -/
theorem Rel.allocF (R : Rel K F0 Z B σ H F ρ) {a : Addr} {o : HO} (hn : H a = none) : Rel K F0 Z B σ (upd H a o) (upd F a o) ρ ∧ Same F (upd F a o) :=
  ⟨(R.alloc hn).freeze (R.fnone hn) (R.znone hn) upd_same (R.off_new hn), fun b u q => by rw [upd_ne (ne_of_none q (R.fnone hn))]; exact q⟩
/-- a slot is forgotten -/
theorem get_set_none {ρ : En} {i j : Nat} {dv : DV} (e : (ρ.set i none)[j]? = some (some dv)) : j ≠ i ∧ ρ[j]? = some (some dv) := by
  by_cases h : i = j
  · subst h
    by_cases hl : i < ρ.length
    · rw [List.getElem?_set_self hl] at e; cases e
    · rw [List.getElem?_eq_none (by simpa using hl)] at e; cases e
  · rw [List.getElem?_set_ne h] at e; exact ⟨Ne.symm h, e⟩
theorem Rel.drop (R : Rel K F0 Z B σ H F ρ) (i : Nat) : Rel K F0 Z B σ H F (ρ.set i none) where
  len := by rw [List.length_set]; exact R.len
  sub := R.sub
  zsub := R.zsub
  base := R.base
  slot := fun j dv e => R.slot j dv (get_set_none e).2
  apart := fun j l dj dl a n e1 e2 => R.apart j l dj dl a n (get_set_none e1).2 (get_set_none e2).2
/-- a value, or a new object, comes to a slot -/
theorem Rel.setSlot (R : Rel K F0 Z B σ H F ρ) {i : Nat} {v : V} {dv : DV} (h : ResOk K Z σ ρ H F v dv) : Rel K F0 Z B (σ.set i (some v)) H F (ρ.set i (some dv)) where
  len := by rw [List.length_set, List.length_set]; exact R.len
  sub := R.sub
  zsub := R.zsub
  base := R.base
  slot := fun j dj e => by
    by_cases hij : i = j
    · subst hij
      by_cases hl : i < ρ.length
      · rw [List.getElem?_set_self hl] at e
        have : dv = dj := Option.some.inj (Option.some.inj e)
        subst this
        refine ⟨v, by rw [List.getElem?_set_self (by rw [← R.len]; exact hl)], ?_⟩
        cases dv with
        | val d => exact h
        | own d => obtain ⟨a, e, h1, h2, h3, _⟩ := h; exact ⟨a, e, h1, h2, h3⟩
        | bor d => exact h.elim
      · rw [List.getElem?_eq_none (by simpa using hl)] at e; cases e
    · rw [List.getElem?_set_ne hij] at e
      rw [List.getElem?_set_ne hij]
      exact R.slot j dj e
  apart := fun j l dj dl a n e1 e2 o1 o2 s1 s2 => by
    have key : ∀ {p q : Nat} {dp dq : DV}, i = p → i ≠ q → (ρ.set i (some dv))[p]? = some (some dp) → (ρ.set i (some dv))[q]? = some (some dq) → dp.owned = true → dq.owned = true →
        (σ.set i (some v))[p]? = some (some (.ref a)) → (σ.set i (some v))[q]? = some (some (.ref a)) → False := by
      intro p q dp dq hp hq f1 f2 p1 p2 t1 t2
      subst hp
      have hl : i < ρ.length := by
        by_cases hl : i < ρ.length
        · exact hl
        · rw [List.getElem?_eq_none (by simpa using hl)] at f1; cases f1
      rw [List.getElem?_set_self hl] at f1
      have : dv = dp := Option.some.inj (Option.some.inj f1)
      subst this
      rw [List.getElem?_set_self (by rw [← R.len]; exact hl)] at t1
      have ev : v = .ref a := Option.some.inj (Option.some.inj t1)
      rw [List.getElem?_set_ne hq] at f2 t2
      cases dv with
      | val d => cases p1
      | bor d => exact h.elim
      | own d =>
        obtain ⟨b, eb, _, _, _, off⟩ := h
        rw [ev] at eb; cases eb
        exact off q dq f2 p2 t2
    by_cases hj : i = j
    · exact key hj (fun z => n (hj.symm.trans z)) e1 e2 o1 o2 s1 s2
    · by_cases hl : i = l
      · exact key hl (fun z => hj z) e2 e1 o2 o1 s2 s1
      · rw [List.getElem?_set_ne hj] at e1 s1
        rw [List.getElem?_set_ne hl] at e2 s2
        exact R.apart j l dj dl a n e1 e2 o1 o2 s1 s2
/-- an owned slot's object is written -/
def DV.to : DV → D → DV
  | .val _, d => .val d
  | .own _, d => .own d
  | .bor _, d => .bor d
def DV.get : DV → D
  | .val d => d
  | .own d => d
  | .bor d => d
theorem Rel.write (R : Rel K F0 Z B σ H F ρ) {i : Nat} {dv : DV} {a : Addr} {o : HO} {d' : D} (e : ρ[i]? = some (some dv)) (ho : dv.owned = true) (es : σ[i]? = some (some (.ref a)))
    (new : OwnRep K (upd H a o) F a d') : Rel K F0 Z B σ (upd H a o) F (ρ.set i (some (dv.to d'))) := by
  obtain ⟨v, e1, s⟩ := R.slot i dv e
  obtain ⟨b, eb, hF, hZ, u, hu⟩ := s.addr ho
  rw [e1] at es
  have ev : v = .ref a := Option.some.inj (Option.some.inj es)
  rw [ev] at eb; cases eb
  have hl : i < ρ.length := (List.getElem?_eq_some_iff.mp e).1
  have same : ∀ j dj, i ≠ j → ρ[j]? = some (some dj) → dj.owned = true → ∀ c, σ[j]? = some (some (.ref c)) → c ≠ a := fun j dj n ej oj c ec z => by
    subst z
    exact R.apart i j dv dj c n e ej ho oj (by rw [e1, ev]) ec
  refine ⟨by rw [List.length_set]; exact R.len, fun b u q => ?_, fun b u q => ?_, R.base, fun j dj ej => ?_, fun j l dj dl c n ej el oj ol sj sl => ?_⟩
  · rw [upd_ne (ne_of_none q hF)]; exact R.sub _ _ q
  · rw [upd_ne (ne_of_none q hZ)]; exact R.zsub _ _ q
  · by_cases hij : i = j
    · subst hij
      rw [List.getElem?_set_self hl] at ej
      have : dv.to d' = dj := Option.some.inj (Option.some.inj ej)
      subst this
      refine ⟨v, e1, ?_⟩
      cases dv with
      | val d => cases ho
      | own d => exact ⟨a, ev, hF, hZ, new⟩
      | bor d =>
        obtain ⟨e2, _⟩ := s
        rw [ev] at e2
        have : a = B i := by injection e2
        subst this
        exact ⟨ev, hF, hZ, new⟩
    · rw [List.getElem?_set_ne hij] at ej
      obtain ⟨w, e2, s2⟩ := R.slot j dj ej
      refine ⟨w, e2, s2.move (Same.refl _) fun c oc ec => ?_⟩
      obtain ⟨c', ec', hFc, _, _, _⟩ := s2.addr oc
      rw [ec] at ec'; cases ec'
      exact ⟨upd_ne (same j dj hij ej oc c (by rw [e2, ec])), hFc⟩
  · have low : ∀ {p : Nat} {dp : DV}, (ρ.set i (some (dv.to d')))[p]? = some (some dp) → dp.owned = true → ∃ dq, ρ[p]? = some (some dq) ∧ dq.owned = true := fun {p dp} q oq => by
      by_cases hp : i = p
      · subst hp; exact ⟨dv, e, ho⟩
      · rw [List.getElem?_set_ne hp] at q; exact ⟨dp, q, oq⟩
    obtain ⟨dj', q1, q2⟩ := low ej oj
    obtain ⟨dl', q3, q4⟩ := low el ol
    exact R.apart j l dj' dl' c n q1 q3 q2 q4 sj sl
end

/-! ### expressions as functions -/
abbrev ME := En → Option (DV × En)
abbrev MV := En → Option (D × En)
abbrev MT := En → Option (Bool × En)
def tOf (K : PySem.W.Frag) (m : ME) : TE := fun σ H Q => ∃ F0 Z B F ρ dv ρ', Rel K F0 Z B σ H F ρ ∧ m ρ = some (dv, ρ') ∧
  ∀ v H' F', Rel K F0 Z B σ H' F' ρ' → Same F F' → ResOk K Z σ ρ' H' F' v dv → Q v H'
def tOfV (K : PySem.W.Frag) (m : MV) : TE := fun σ H Q => ∃ F0 Z B F ρ d ρ', Rel K F0 Z B σ H F ρ ∧ m ρ = some (d, ρ') ∧
  ∀ v H' F', Rel K F0 Z B σ H' F' ρ' → Same F F' → Rep K F' d v → Q v H'
def tOfT (K : PySem.W.Frag) (m : MT) : TT := fun σ H Q => ∃ F0 Z B F ρ b ρ', Rel K F0 Z B σ H F ρ ∧ m ρ = some (b, ρ') ∧
  ∀ H' F', Rel K F0 Z B σ H' F' ρ' → Same F F' → Q b H'
theorem PE_imp {X : Cx} {e : Expr} {t t' : TE} (h : PE X e t) (i : ∀ σ H Q, t' σ H Q → t σ H Q) : PE X e t' := ⟨fun pins s σ H Q I q => h.run pins s σ H Q I (i _ _ _ q)⟩
theorem PT_imp {X : Cx} {e : Expr} {t t' : TT} (h : PT X e t) (i : ∀ σ H Q, t' σ H Q → t σ H Q) : PT X e t' := ⟨fun pins s σ H Q I q => h.run pins s σ H Q I (i _ _ _ q)⟩
abbrev Em (X : Cx) (e : Expr) (m : ME) : Prop := PE X e (tOf X.K m)
abbrev Ev (X : Cx) (e : Expr) (m : MV) : Prop := PE X e (tOfV X.K m)
abbrev Et (X : Cx) (e : Expr) (m : MT) : Prop := PT X e (tOfT X.K m)
/-- for use: run a reading -/
theorem tOf_of {K : PySem.W.Frag} {m : ME} {F0 Z : Hp} {B : Nat → Addr} {σ : L2.St} {H F : Hp} {ρ ρ' : En} {dv : DV} {Q : VK} (R : Rel K F0 Z B σ H F ρ) (e : m ρ = some (dv, ρ'))
    (h : ∀ v H' F', Rel K F0 Z B σ H' F' ρ' → Same F F' → ResOk K Z σ ρ' H' F' v dv → Q v H') : tOf K m σ H Q := ⟨F0, Z, B, F, ρ, dv, ρ', R, e, h⟩
theorem tOfV_of {K : PySem.W.Frag} {m : MV} {F0 Z : Hp} {B : Nat → Addr} {σ : L2.St} {H F : Hp} {ρ ρ' : En} {d : D} {Q : VK} (R : Rel K F0 Z B σ H F ρ) (e : m ρ = some (d, ρ'))
    (h : ∀ v H' F', Rel K F0 Z B σ H' F' ρ' → Same F F' → Rep K F' d v → Q v H') : tOfV K m σ H Q := ⟨F0, Z, B, F, ρ, d, ρ', R, e, h⟩
theorem tOfT_of {K : PySem.W.Frag} {m : MT} {F0 Z : Hp} {B : Nat → Addr} {σ : L2.St} {H F : Hp} {ρ ρ' : En} {b : Bool} {Q : Bool → Hp → Prop} (R : Rel K F0 Z B σ H F ρ) (e : m ρ = some (b, ρ'))
    (h : ∀ H' F', Rel K F0 Z B σ H' F' ρ' → Same F F' → Q b H') : tOfT K m σ H Q := ⟨F0, Z, B, F, ρ, b, ρ', R, e, h⟩

/-- an expression's value, frozen -/
def fz (m : ME) : MV := fun ρ => match m ρ with
  | some (.val d, ρ') => some (d, ρ')
  | some (.own d, ρ') => some (d, ρ')
  | _ => none
def vl (m : MV) : ME := fun ρ => match m ρ with
  | some (d, ρ') => some (.val d, ρ')
  | none => none
theorem ResOk.freeze {K : PySem.W.Frag} {F0 Z : Hp} {B : Nat → Addr} {σ : L2.St} {H F : Hp} {ρ : En} {v : V} {d : D} (R : Rel K F0 Z B σ H F ρ) (h : ResOk K Z σ ρ H F v (.own d)) : ∃ F', Rel K F0 Z B σ H F' ρ ∧ Same F F' ∧ Rep K F' d v := by
  obtain ⟨a, rfl, h1, h2, h3, h4⟩ := h
  obtain ⟨o, e, s, r⟩ := h3.frozen h1
  exact ⟨_, R.freeze h1 h2 e h4, s, r⟩
theorem Em.fz {X : Cx} {e : Expr} {m : ME} (h : Em X e m) : Ev X e (Cb.fz m) := PE_imp h fun σ H Q ⟨F0, Z, B, F, ρ, d, ρ', R, e, k⟩ => by
  unfold Cb.fz at e
  split at e
  · rename_i d0 ρ0 e1
    cases e
    exact tOf_of R e1 fun v H' F' R' s r => k v H' F' R' s r
  · rename_i d0 ρ0 e1
    cases e
    refine tOf_of R e1 fun v H' F' R' s r => ?_
    obtain ⟨F2, R2, s2, r2⟩ := r.freeze R'
    exact k v H' F2 R2 (s.trans s2) r2
  · cases e
theorem Ev.vl {X : Cx} {e : Expr} {m : MV} (h : Ev X e m) : Em X e (Cb.vl m) := PE_imp h fun σ H Q ⟨F0, Z, B, F, ρ, d, ρ', R, e, k⟩ => by
  unfold Cb.vl at e
  split at e
  · rename_i d0 ρ0 e1
    cases e
    exact tOfV_of R e1 fun v H' F' R' s r => k v H' F' R' s r
  · cases e
end Cb

set_option Elab.async false
set_option linter.all false
set_option maxRecDepth 100000
/-! Rules: names, constants, operators, comparisons, tests, displays, subscripts, slices. -/
namespace Cb
open PySem PySem.Spec PyProof.Rows L2

section
variable {X : Cx}
/-! ### names, constants -/
def mC (d : D) : ME := fun ρ => some (.val d, ρ)
/-- a name's value: what is owned is frozen -/
def mVar (i : Nat) : ME := fun ρ => match ρ[i]? with
  | some (some (.val d)) => some (.val d, ρ)
  | some (some (.own d)) => some (.val d, ρ.set i (some (.val d)))
  | _ => none
/-- .. it is handed on, the name forgotten -/
def mMove (i : Nat) : ME := fun ρ => match ρ[i]? with
  | some (some (.val d)) => some (.val d, ρ)
  | some (some (.own d)) => some (.own d, ρ.set i none)
  | _ => none
theorem set_len {ρ : En} {i : Nat} {o dv : DV} (e : ρ[i]? = some (some o)) : i < ρ.length := (List.getElem?_eq_some_iff.mp e).1
theorem Rel.fzSlot {K : PySem.W.Frag} {F0 Z : Hp} {B : Nat → Addr} {σ : L2.St} {H F : Hp} {ρ : En} {i : Nat} {d : D} {v : V} (R : Rel K F0 Z B σ H F ρ) (e : ρ[i]? = some (some (.own d))) (ev : σ[i]? = some (some v)) :
    ∃ F', Rel K F0 Z B σ H F' (ρ.set i (some (.val d))) ∧ Same F F' ∧ Rep K F' d v := by
  obtain ⟨w, e1, a, rfl, h1, h2, h3⟩ := R.slot i _ e
  rw [ev] at e1
  have e2 : v = .ref a := Option.some.inj (Option.some.inj e1)
  subst e2
  obtain ⟨o, eo, s, r⟩ := h3.frozen h1
  have off : Off σ (ρ.set i none) a := fun j dj ej oj es => by
    obtain ⟨n, ej⟩ := get_set_none ej
    exact R.apart j i dj (.own d) a n ej e oj rfl es ev
  have R2 := ((R.drop i).freeze h1 h2 eo off).setSlot (i := i) (v := .ref a) (dv := .val d) r
  have hl : i < σ.length := (List.getElem?_eq_some_iff.mp ev).1
  have es : σ.set i (some (.ref a)) = σ := by
    refine List.ext_getElem? fun j => ?_
    by_cases h : i = j
    · subst h; rw [List.getElem?_set_self hl, ev]
    · rw [List.getElem?_set_ne h]
  rw [es, List.set_set] at R2
  exact ⟨_, R2, s, r⟩
theorem em_c {e : Expr} {d : D} {v : V} (h : PE X e (tC v)) (r : ∀ F, Rep X.K F d v) : Em X e (mC d) := PE_imp h fun σ H Q ⟨F0, Z, B, F, ρ, dv, ρ', R, e, k⟩ => by
  cases e
  exact k v H F R (Same.refl _) (r F)
theorem em_int {i j pos} : Em X (.Constant (.int i) j pos) (mC (.int i)) := em_c pe_int fun F => by unfold Rep; rfl
theorem em_bl {i j pos} : Em X (.Constant (.bool i) j pos) (mC (.bl i)) := em_c pe_bl fun F => by unfold Rep; rfl
theorem em_non {j pos} : Em X (.Constant .none j pos) (mC .non) := em_c pe_non fun F => by unfold Rep; rfl
theorem em_str {x j pos} : Em X (.Constant (.str x) j pos) (mC (.str x)) := em_c pe_str fun F => by unfold Rep; rfl
/-- a module's constant -/
structure Glc (K : PySem.W.Frag) (mg : Str → Option Value) (x : Str) (d : D) : Prop where
  ex : ∃ v u, mg x = some u ∧ RelV v u ∧ ∀ F, Rep K F d v
theorem em_glob {x : Str} {d : D} {pos : Pos} (hg : Gl X x) (h : Glc X.K X.mg x d) (hd : (x == ("__debug__" : Str)) = false := by decide) : Em X (.Name x pos) (mC d) := by
  obtain ⟨v, u, hm, r, hr⟩ := h.ex
  exact em_c (pe_glob hg hm r hd) hr
theorem em_var {i : Nat} {x : Str} {pos : Pos} (h : PE X (.Name x pos) (tVar i)) : Em X (.Name x pos) (mVar i) := PE_imp h fun σ H Q ⟨F0, Z, B, F, ρ, dv, ρ', R, e, k⟩ => by
  unfold mVar at e
  split at e
  · rename_i d e1
    cases e
    obtain ⟨v, e2, s⟩ := R.slot i _ e1
    exact ⟨v, e2, k v H F R (Same.refl _) s⟩
  · rename_i d e1
    cases e
    obtain ⟨v, e2, _⟩ := R.slot i _ e1
    obtain ⟨F', R', s, r⟩ := R.fzSlot e1 e2
    exact ⟨v, e2, k v H F' R' s r⟩
  · cases e
theorem em_move {i : Nat} {x : Str} {pos : Pos} (h : PE X (.Name x pos) (tVar i)) : Em X (.Name x pos) (mMove i) := PE_imp h fun σ H Q ⟨F0, Z, B, F, ρ, dv, ρ', R, e, k⟩ => by
  unfold mMove at e
  split at e
  · rename_i d e1
    cases e
    obtain ⟨v, e2, s⟩ := R.slot i _ e1
    exact ⟨v, e2, k v H F R (Same.refl _) s⟩
  · rename_i d e1
    cases e
    obtain ⟨v, e2, a, rfl, h1, h2, h3⟩ := R.slot i _ e1
    refine ⟨_, e2, k _ H F (R.drop i) (Same.refl _) ⟨a, rfl, h1, h2, h3, fun j dj ej oj es => ?_⟩⟩
    obtain ⟨n, ej⟩ := get_set_none ej
    exact R.apart j i dj (.own d) a n ej e1 oj rfl es e2
  · cases e

/-! ### two-place operations -/
def OpS (K : PySem.W.Frag) (r : R2) (f : D → D → Option DV) : Prop := ∀ (F0 Z : Hp) (B : Nat → Addr) (σ : L2.St) (H F : Hp) (ρ : En) (x y : D) (v u : V) (dv : DV) (Q : VK), Rel K F0 Z B σ H F ρ → Rep K F x v → Rep K F y u →
  f x y = some dv → (∀ w H' F', Rel K F0 Z B σ H' F' ρ → Same F F' → ResOk K Z σ ρ H' F' w dv → Q w H') → r v u H Q
def m2 (f : D → D → Option DV) (ma mb : ME) : ME := fun ρ => (fz ma ρ).bind fun p => (fz mb p.2).bind fun q => (f p.1 q.1).map fun dv => (dv, q.2)
theorem run2 {a b : Expr} {ma mb : ME} {K : PySem.W.Frag} {r : R2} {f : D → D → Option DV} (os : OpS K r f) {σ : L2.St} {H : Hp} {Q : VK} (h : tOf K (m2 f ma mb) σ H Q) : tOp r (tOfV K (fz ma)) (tOfV K (fz mb)) σ H Q := by
  obtain ⟨F0, Z, B, F, ρ, dv, ρ', R, e, k⟩ := h
  unfold m2 at e
  obtain ⟨⟨x, ρ1⟩, e1, e⟩ := Option.bind_eq_some_iff.mp e
  obtain ⟨⟨y, ρ2⟩, e2, e⟩ := Option.bind_eq_some_iff.mp e
  obtain ⟨w, e3, e⟩ := Option.map_eq_some_iff.mp e
  cases e
  refine tOfV_of R e1 fun v H1 F1 R1 s1 r1 => tOfV_of R1 e2 fun u H2 F2 R2 s2 r2 => ?_
  exact os F0 Z B σ H2 F2 ρ2 x y v u _ Q R2 (Rep.mono s2 x v r1) r2 e3 fun w H' F' R' s' rr => k w H' F' R' (s1.trans (s2.trans s')) rr
theorem em_op {a b : Expr} {op : Operator} {pos : Pos} {ma mb : ME} {r : R2} {f : D → D → Option DV} (ho : OpR X (binaryOp op) r) (os : OpS X.K r f) (ha : Em X a ma) (hb : Em X b mb) : Em X (.BinOp a op b pos) (m2 f ma mb) :=
  PE_imp (pe_op ho ha.fz hb.fz) fun σ H Q h => run2 (a := a) (b := b) os h
theorem em_cmp {a b : Expr} {op : CmpOp} {pos : Pos} {ma mb : ME} {r : R2} {f : D → D → Option DV} (ho : OpR X (compareOp op) r) (os : OpS X.K r f) (ha : Em X a ma) (hb : Em X b mb) (hm : behindInMarks op b = false) : Em X (.Compare a [op] [b] pos) (m2 f ma mb) :=
  PE_imp (pe_cmpR ho ha.fz hb.fz hm) fun σ H Q h => run2 (a := a) (b := b) os h
/-- a value as a test: a bool -/
def tst (m : ME) : MT := fun ρ => match m ρ with
  | some (.val (.bl b), ρ') => some (b, ρ')
  | _ => none
theorem et_cmp {a b : Expr} {op : CmpOp} {pos : Pos} {ma mb : ME} {r : R2} {f : D → D → Option DV} (ho : OpR X (compareOp op) r) (os : OpS X.K r f) (ha : Em X a ma) (hb : Em X b mb) (hm : behindInMarks op b = false) : Et X (.Compare a [op] [b] pos) (tst (m2 f ma mb)) :=
  PT_imp (pt_cmpR ho ha.fz hb.fz hm) fun σ H Q ⟨F0, Z, B, F, ρ, t, ρ', R, e, k⟩ => by
    unfold tst at e
    split at e
    · rename_i t0 ρ0 e1
      cases e
      refine run2 (a := a) (b := b) os (tOf_of R e1 fun v H' F' R' s rr => ⟨t, ?_, k H' F' R' s⟩)
      have : Rep X.K F' (.bl t) v := rr
      unfold Rep at this; exact this
    · cases e
theorem et_val {e : Expr} {m : ME} (h : Em X e m) (he : ∀ whole, isTrue e X.env whole = (do let v ← whole; standAt e.pos; holding [v] (truthy v)) := by intro _; rfl) : Et X e (tst m) :=
  PT_imp (pt_val h he) fun σ H Q ⟨F0, Z, B, F, ρ, t, ρ', R, e, k⟩ => by
    unfold tst at e
    split at e
    · rename_i t0 ρ0 e1
      cases e
      refine tOf_of R e1 fun v H' F' R' s rr => ⟨t, ?_, k H' F' R' s⟩
      have : Rep X.K F' (.bl t) v := rr
      unfold Rep at this; exact this
    · cases e
/-- scalars out, the heap as it is -/
theorem OpS.pure {K : PySem.W.Frag} {r : R2} {f : D → D → Option DV} (h : ∀ F H x y v u dv Q, Same F H → Rep K F x v → Rep K F y u → f x y = some dv → (∀ w d, dv = .val d → (∀ F', Rep K F' d w) → Q w H) → r v u H Q) : OpS K r f :=
  fun F0 Z B σ H F ρ x y v u dv Q R rx ry e k => h F H x y v u dv Q R.sub rx ry e fun w d ed hr => by
    subst ed
    exact k w H F R (Same.refl _) (hr F)
def opII (g : Int → Int → Option D) : D → D → Option DV
  | .int i, .int j => (g i j).map .val
  | _, _ => none
def scalD : D → Bool
  | .non => true | .bl _ => true | .int _ => true | .str _ => true | _ => false
def toV : D → V
  | .bl b => .bl b | .int i => .int i | .str x => .str x | _ => .non
theorem scal_rep {K : PySem.W.Frag} {F : Hp} {d : D} (h : scalD d = true) : Rep K F d (toV d) := by
  cases d <;> first | (cases h; done) | (unfold Rep; rfl)
theorem rep_scal {K : PySem.W.Frag} {F : Hp} {d : D} {v : V} (h : scalD d = true) (r : Rep K F d v) : v = toV d := by
  cases d <;> first | (cases h; done) | (unfold Rep at r; exact r)
theorem opII_ok {K : PySem.W.Frag} {r : R2} {g : Int → Int → Option D} (h : ∀ i j d H Q, g i j = some d → Q (toV d) H → r (.int i) (.int j) H Q) (hs : ∀ i j d, g i j = some d → scalD d = true) : OpS K r (opII g) :=
  .pure fun F H x y v u dv Q _ rx ry e k => by
    cases x <;> try (cases e; done)
    cases y <;> try (cases e; done)
    rename_i i j
    unfold Rep at rx ry
    subst rx ry
    obtain ⟨d, e1, e2⟩ := Option.map_eq_some_iff.mp (show (g i j).map DV.val = some dv from e)
    exact h i j d H Q e1 (k (toV d) d e2.symm fun F' => scal_rep (hs i j d e1))
def MulOk (i j : Int) : Prop := i.natAbs.log2 + j.natAbs.log2 < 1000000
instance (i j : Int) : Decidable (MulOk i j) := inferInstanceAs (Decidable (_ < _))
def DivOk (j : Int) : Prop := j ≠ 0 ∧ j.natAbs.log2 < 9000
instance (j : Int) : Decidable (DivOk j) := inferInstanceAs (Decidable (_ ∧ _))
def PowOk (i j : Int) : Prop := 0 ≤ j ∧ (Builtin.Int.intBits i : Int) * j ≤ 2 ^ 27
instance (i j : Int) : Decidable (PowOk i j) := inferInstanceAs (Decidable (_ ∧ _))
def dSub : D → D → Option DV := opII fun i j => some (.int (i - j))
def dFdiv : D → D → Option DV := opII fun i j => if DivOk j then some (.int (i.fdiv j)) else none
def dMod : D → D → Option DV := opII fun i j => if j ≠ 0 then some (.int (i.fmod j)) else none
def dPow : D → D → Option DV := opII fun i j => if PowOk i j then some (.int (i ^ j.toNat)) else none
def dLt : D → D → Option DV := opII fun i j => some (.bl (decide (i < j)))
def dLe : D → D → Option DV := opII fun i j => some (.bl (decide (i ≤ j)))
def dGt : D → D → Option DV := opII fun i j => some (.bl (decide (j < i)))
def dGe : D → D → Option DV := opII fun i j => some (.bl (decide (j ≤ i)))
theorem ite_some {α : Type} {c : Prop} [Decidable c] {a b : α} (h : (if c then some a else none) = some b) : c ∧ a = b := by
  by_cases hc : c
  · rw [if_pos hc] at h; exact ⟨hc, Option.some.inj h⟩
  · rw [if_neg hc] at h; cases h
theorem os_sub {K : PySem.W.Frag} : OpS K (rI0 fun i j => .int (i - j)) dSub := opII_ok (fun i j d H Q e q => by cases e; exact ⟨i, j, rfl, rfl, q⟩) fun i j d e => by cases e; rfl
theorem op_fdivA : OpR X (binaryOp .FloorDiv) (rI (fun _ j => DivOk j) fun i j => .int (i.fdiv j)) := opI fun _ _ _ _ _ _ _ hc q => floordiv_int hc.1 q (.inl (PyProof.noPylong_of_log2 hc.2))
theorem os_fdiv {K : PySem.W.Frag} : OpS K (rI (fun _ j => DivOk j) fun i j => .int (i.fdiv j)) dFdiv := opII_ok (fun i j d H Q e q => by
  obtain ⟨hc, rfl⟩ := ite_some e; exact ⟨i, j, rfl, rfl, hc, q⟩) fun i j d e => by obtain ⟨_, rfl⟩ := ite_some e; rfl
theorem os_mod {K : PySem.W.Frag} : OpS K (rI (fun _ j => j ≠ 0) fun i j => .int (i.fmod j)) dMod := opII_ok (fun i j d H Q e q => by
  obtain ⟨hc, rfl⟩ := ite_some e; exact ⟨i, j, rfl, rfl, hc, q⟩) fun i j d e => by obtain ⟨_, rfl⟩ := ite_some e; rfl
theorem op_powA : OpR X (binaryOp .Pow) (rI PowOk fun i j => .int (i ^ j.toNat)) := opI fun _ _ _ _ _ _ _ hc q => pow_int hc.1 hc.2 q
theorem os_pow {K : PySem.W.Frag} : OpS K (rI PowOk fun i j => .int (i ^ j.toNat)) dPow := opII_ok (fun i j d H Q e q => by
  obtain ⟨hc, rfl⟩ := ite_some e; exact ⟨i, j, rfl, rfl, hc, q⟩) fun i j d e => by obtain ⟨_, rfl⟩ := ite_some e; rfl
theorem os_lt {K : PySem.W.Frag} : OpS K (rI0 fun i j => .bl (decide (i < j))) dLt := opII_ok (fun i j d H Q e q => by cases e; exact ⟨i, j, rfl, rfl, q⟩) fun i j d e => by cases e; rfl
theorem os_le {K : PySem.W.Frag} : OpS K (rI0 fun i j => .bl (decide (i ≤ j))) dLe := opII_ok (fun i j d H Q e q => by cases e; exact ⟨i, j, rfl, rfl, q⟩) fun i j d e => by cases e; rfl
theorem os_gt {K : PySem.W.Frag} : OpS K (rI0 fun i j => .bl (decide (j < i))) dGt := opII_ok (fun i j d H Q e q => by cases e; exact ⟨i, j, rfl, rfl, q⟩) fun i j d e => by cases e; rfl
theorem os_ge {K : PySem.W.Frag} : OpS K (rI0 fun i j => .bl (decide (j ≤ i))) dGe := opII_ok (fun i j d H Q e q => by cases e; exact ⟨i, j, rfl, rfl, q⟩) fun i j d e => by cases e; rfl

/-- a new list, a new tuple -/
theorem new_lst {K : PySem.W.Frag} {F0 Z : Hp} {B : Nat → Addr} {σ : L2.St} {H F : Hp} {ρ : En} {p : Addr} {xs : List V} {ds : List D} (R : Rel K F0 Z B σ H F ρ) (hp : H p = none) (r : Reps K F ds xs) :
    Rel K F0 Z B σ (upd H p (.lst xs)) F ρ ∧ ResOk K Z σ ρ (upd H p (.lst xs)) F (.ref p) (.own (.lst ds)) :=
  ⟨R.alloc hp, p, rfl, R.fnone hp, R.znone hp, ⟨xs, upd_same, r⟩, R.off_new hp⟩
theorem new_tup {K : PySem.W.Frag} {F0 Z : Hp} {B : Nat → Addr} {σ : L2.St} {H F : Hp} {ρ : En} {p : Addr} {xs : List V} {ds : List D} (R : Rel K F0 Z B σ H F ρ) (hp : H p = none) (r : Reps K F ds xs) :
    Rel K F0 Z B σ (upd H p (.tup xs)) (upd F p (.tup xs)) ρ ∧ Same F (upd F p (.tup xs)) ∧ Rep K (upd F p (.tup xs)) (.tup ds) (.ref p) := by
  obtain ⟨R2, s⟩ := R.allocF (o := .tup xs) hp
  exact ⟨R2, s, by unfold Rep; exact ⟨p, xs, rfl, .inl (.inl upd_same), Reps.mono s _ _ r⟩⟩
def line : Nat := 16777216
theorem line_eq : line = sizeLine := sizeLine_eq.symm
def dAdd : D → D → Option DV
  | .int i, .int j => some (.val (.int (i + j)))
  | .str x, .str y => if x.length + y.length ≤ line then some (.val (.str (x ++ y))) else none
  | .lst x, .lst y => if x.length + y.length ≤ line then some (.own (.lst (x ++ y))) else none
  | .tup x, .tup y => if x.length + y.length ≤ line then some (.val (.tup (x ++ y))) else none
  | _, _ => none
def rAddA (K : PySem.W.Frag) : R2 := fun x y H Q => rI0 (fun i j => .int (i + j)) x y H Q ∨ (∃ i j, x = .str i ∧ y = .str j ∧ i.length + j.length ≤ sizeLine ∧ Q (.str (i ++ j)) H) ∨ rCat x y H Q ∨ rCatA K x y H Q
theorem op_addA : OpR X (binaryOp .Add) (rAddA X.K) := op_add.or (op_add_str.or (op_cat.or op_catA))
theorem os_add {K : PySem.W.Frag} : OpS K (rAddA K) dAdd := fun F0 Z B σ H F ρ x y v u dv Q R rx ry e k => by
  cases x <;> cases y <;> try (cases e; done)
  · unfold Rep at rx ry; subst rx ry; cases e
    exact .inl ⟨_, _, rfl, rfl, k _ H F R (Same.refl _) (by show Rep K F _ _; unfold Rep; rfl)⟩
  · unfold Rep at rx ry; subst rx ry
    obtain ⟨hc, rfl⟩ := ite_some e
    exact .inr (.inl ⟨_, _, rfl, rfl, by rw [← line_eq]; exact hc, k _ H F R (Same.refl _) (by show Rep K F _ _; unfold Rep; rfl)⟩)
  · unfold Rep at rx ry
    obtain ⟨hc, rfl⟩ := ite_some e
    obtain ⟨a, xs, rfl, ha, qa⟩ := rx
    obtain ⟨b, ys, rfl, hb, qb⟩ := ry
    refine .inr (.inr (.inr ⟨a, b, xs, ys, rfl, rfl, SqT_mono R.sub ha, SqT_mono R.sub hb, by rw [qa.length, qb.length, ← line_eq]; exact hc, fun e0 => ?_, fun _ e0 => ?_, fun _ _ p hp => ?_⟩))
    · subst e0
      refine k _ H F R (Same.refl _) ?_
      show Rep K F _ _
      have := qa.append qb
      unfold Rep; exact ⟨b, _, rfl, hb, by simpa using this⟩
    · subst e0
      refine k _ H F R (Same.refl _) ?_
      show Rep K F _ _
      have := qa.append qb
      unfold Rep; exact ⟨a, _, rfl, ha, by simpa using this⟩
    · obtain ⟨R2, s2, r2⟩ := new_tup R hp (qa.append qb)
      exact k _ _ _ R2 s2 r2
  · unfold Rep at rx ry
    obtain ⟨hc, rfl⟩ := ite_some e
    obtain ⟨a, xs, rfl, ha, qa⟩ := rx
    obtain ⟨b, ys, rfl, hb, qb⟩ := ry
    refine .inr (.inr (.inl ⟨a, b, xs, ys, rfl, rfl, R.sub _ _ ha, R.sub _ _ hb, by rw [qa.length, qb.length, ← line_eq]; exact hc, fun p hp => ?_⟩))
    obtain ⟨R2, r2⟩ := new_lst R hp (qa.append qb)
    exact k _ _ _ R2 (Same.refl _) r2
def rptL (ds : List D) (n : Nat) : List D := (List.replicate n ds).flatten
theorem Reps.rpt {K : PySem.W.Frag} {F : Hp} {ds : List D} {xs : List V} (h : Reps K F ds xs) (n : Nat) : Reps K F (rptL ds n) (List.replicate n xs).flatten := by
  unfold rptL
  induction n with
  | zero => exact .nil
  | succ n ih => rw [List.replicate_succ, List.replicate_succ, List.flatten_cons, List.flatten_cons]; exact h.append ih
def dMul : D → D → Option DV
  | .int i, .int j => if MulOk i j then some (.val (.int (i * j))) else none
  | .lst x, .int n => if -(2 ^ 63) ≤ n ∧ n < 2 ^ 63 ∧ x.length * n.toNat ≤ line then some (.own (.lst (rptL x n.toNat))) else none
  | .tup x, .int n => if 2 ≤ n ∧ n ≤ 1000 ∧ x.length ≠ 0 ∧ x.length ≤ 1000 then some (.val (.tup (rptL x n.toNat))) else none
  | _, _ => none
def rMulA (K : PySem.W.Frag) : R2 := fun x y H Q => rI CMulW (fun i j => .int (i * j)) x y H Q ∨ rRep x y H Q ∨ rRepT K x y H Q
theorem op_mulA : OpR X (binaryOp .Mult) (rMulA X.K) := op_mulW.or (op_rep.or op_repT)
theorem os_mul {K : PySem.W.Frag} : OpS K (rMulA K) dMul := fun F0 Z B σ H F ρ x y v u dv Q R rx ry e k => by
  cases x <;> cases y <;> try (cases e; done)
  · unfold Rep at rx ry; subst rx ry
    obtain ⟨hc, rfl⟩ := ite_some e
    exact .inl ⟨_, _, rfl, rfl, hc, k _ H F R (Same.refl _) (by show Rep K F _ _; unfold Rep; rfl)⟩
  · unfold Rep at rx ry; subst ry
    obtain ⟨⟨h1, h2, h3, h4⟩, rfl⟩ := ite_some e
    obtain ⟨a, xs, rfl, ha, qa⟩ := rx
    refine .inr (.inr ⟨a, _, xs, rfl, rfl, SqT_mono R.sub ha, fun z => h3 (by rw [← qa.length, z]; rfl), h1, h2, by rw [qa.length]; exact h4, fun p hp => ?_⟩)
    obtain ⟨R2, s2, r2⟩ := new_tup R hp (qa.rpt _)
    exact k _ _ _ R2 s2 r2
  · unfold Rep at rx ry; subst ry
    obtain ⟨⟨h1, h2, h3⟩, rfl⟩ := ite_some e
    obtain ⟨a, xs, rfl, ha, qa⟩ := rx
    refine .inr (.inl ⟨a, _, xs, rfl, rfl, R.sub _ _ ha, h1, h2, by rw [qa.length, ← line_eq]; exact h3, fun p hp => ?_⟩)
    obtain ⟨R2, r2⟩ := new_lst R hp (qa.rpt _)
    exact k _ _ _ R2 (Same.refl _) r2
/-! ### one-place operations -/
def m1 (f : D → Option DV) (ma : ME) : ME := fun ρ => (fz ma ρ).bind fun p => (f p.1).map fun dv => (dv, p.2)
def dNeg : D → Option DV
  | .int i => some (.val (.int (-i)))
  | _ => none
theorem em_neg {a : Expr} {pos : Pos} {ma : ME} (ha : Em X a ma) : Em X (.UnaryOp .USub a pos) (m1 dNeg ma) := PE_imp (pe_un un_neg ha.fz) fun σ H Q ⟨F0, Z, B, F, ρ, dv, ρ', R, e, k⟩ => by
  unfold m1 at e
  obtain ⟨⟨x, ρ1⟩, e1, e⟩ := Option.bind_eq_some_iff.mp e
  obtain ⟨w, e3, e⟩ := Option.map_eq_some_iff.mp e
  cases e
  refine tOfV_of R e1 fun v H1 F1 R1 s1 r1 => ?_
  cases x <;> try (cases e3; done)
  unfold Rep at r1; cases e3
  exact ⟨_, r1, k _ H1 F1 R1 s1 (by show Rep X.K F1 _ _; unfold Rep; rfl)⟩
def dNot : D → Option DV
  | .bl b => some (.val (.bl (!b)))
  | _ => none
theorem em_not {a : Expr} {pos : Pos} {ma : ME} (ha : Em X a ma) : Em X (.UnaryOp .Not a pos) (m1 dNot ma) := PE_imp (pe_not ha.fz) fun σ H Q ⟨F0, Z, B, F, ρ, dv, ρ', R, e, k⟩ => by
  unfold m1 at e
  obtain ⟨⟨x, ρ1⟩, e1, e⟩ := Option.bind_eq_some_iff.mp e
  obtain ⟨w, e3, e⟩ := Option.map_eq_some_iff.mp e
  cases e
  refine tOfV_of R e1 fun v H1 F1 R1 s1 r1 => ?_
  cases x <;> try (cases e3; done)
  unfold Rep at r1; cases e3
  exact ⟨_, r1, k _ H1 F1 R1 s1 (by show Rep X.K F1 _ _; unfold Rep; rfl)⟩
/-! ### and, or, not, if-else -/
def tNotm (m : MT) : MT := fun ρ => (m ρ).map fun p => (!p.1, p.2)
def tAndm (m n : MT) : MT := fun ρ => (m ρ).bind fun p => if p.1 = true then n p.2 else some (false, p.2)
def tOrm (m n : MT) : MT := fun ρ => (m ρ).bind fun p => if p.1 = true then some (true, p.2) else n p.2
abbrev Ew (X : Cx) (e : Expr) (m : MT) : Prop := PW X e (tOfT X.K m)
theorem PW_imp {e : Expr} {t t' : TT} (h : PW X e t) (i : ∀ σ H Q, t' σ H Q → t σ H Q) : PW X e t' := ⟨fun w pins s σ H Q I q => h.run w pins s σ H Q I (i _ _ _ q)⟩
theorem et_not {a : Expr} {pos : Pos} {m : MT} (ha : Et X a m) : Et X (.UnaryOp .Not a pos) (tNotm m) := PT_imp (pt_not ha) fun σ H Q ⟨F0, Z, B, F, ρ, b, ρ', R, e, k⟩ => by
  obtain ⟨⟨c, ρ1⟩, e1, e⟩ := Option.map_eq_some_iff.mp e
  cases e
  exact tOfT_of R e1 fun H' F' R' s => k H' F' R' s
theorem ew_and1 {a : Expr} {pos : Pos} {m : MT} (ha : Et X a m) : Ew X (.BoolOp .And [a] pos) m := pw_and1 ha
theorem ew_or1 {a : Expr} {pos : Pos} {m : MT} (ha : Et X a m) : Ew X (.BoolOp .Or [a] pos) m := pw_or1 ha
theorem ew_and {a b : Expr} {rest : List Expr} {pos : Pos} {m n : MT} (ha : Et X a m) (hb : Ew X (.BoolOp .And (b :: rest) pos) n) : Ew X (.BoolOp .And (a :: b :: rest) pos) (tAndm m n) := PW_imp (pw_and ha hb) fun σ H Q ⟨F0, Z, B, F, ρ, c, ρ', R, e, k⟩ => by
  obtain ⟨⟨d, ρ1⟩, e1, e⟩ := Option.bind_eq_some_iff.mp e
  refine tOfT_of R e1 fun H' F' R' s => ?_
  cases d with
  | true =>
    rw [if_pos rfl]
    exact tOfT_of R' e fun H2 F2 R2 s2 => k H2 F2 R2 (s.trans s2)
  | false =>
    rw [if_neg Bool.false_ne_true]
    cases e
    exact k H' F' R' s
theorem ew_or {a b : Expr} {rest : List Expr} {pos : Pos} {m n : MT} (ha : Et X a m) (hb : Ew X (.BoolOp .Or (b :: rest) pos) n) : Ew X (.BoolOp .Or (a :: b :: rest) pos) (tOrm m n) := PW_imp (pw_or ha hb) fun σ H Q ⟨F0, Z, B, F, ρ, c, ρ', R, e, k⟩ => by
  obtain ⟨⟨d, ρ1⟩, e1, e⟩ := Option.bind_eq_some_iff.mp e
  refine tOfT_of R e1 fun H' F' R' s => ?_
  cases d with
  | false =>
    rw [if_neg Bool.false_ne_true]
    exact tOfT_of R' e fun H2 F2 R2 s2 => k H2 F2 R2 (s.trans s2)
  | true =>
    rw [if_pos rfl]
    cases e
    exact k H' F' R' s
theorem et_w {e : Expr} {m : MT} (h : Ew X e m) : Et X e m := h.pt
/-- as values: bools -/
def mAnd (m n : ME) : ME := fun ρ => (fz m ρ).bind fun p => match p.1 with
  | .bl true => n p.2
  | .bl false => some (.val (.bl false), p.2)
  | _ => none
def mOr (m n : ME) : ME := fun ρ => (fz m ρ).bind fun p => match p.1 with
  | .bl false => n p.2
  | .bl true => some (.val (.bl true), p.2)
  | _ => none
theorem em_one {op : BoolOp} {a : Expr} {pos : Pos} {m : ME} (ha : Em X a m) : Em X (.BoolOp op [a] pos) m := pe_one ha
theorem em_and {a b : Expr} {rest : List Expr} {pos : Pos} {m n : ME} (ha : Em X a m) (hb : Em X (.BoolOp .And (b :: rest) pos) n) : Em X (.BoolOp .And (a :: b :: rest) pos) (mAnd m n) := PE_imp (pe_and ha.fz hb) fun σ H Q ⟨F0, Z, B, F, ρ, dv, ρ', R, e, k⟩ => by
  obtain ⟨⟨d, ρ1⟩, e1, e⟩ := Option.bind_eq_some_iff.mp e
  refine tOfV_of R e1 fun v H' F' R' s r => ?_
  split at e
  · rename_i hd
    cases (show d = .bl true from hd)
    unfold Rep at r
    refine ⟨true, r, ?_⟩
    rw [if_pos rfl]
    exact tOf_of R' e fun w H2 F2 R2 s2 r2 => k w H2 F2 R2 (s.trans s2) r2
  · rename_i hd
    cases (show d = .bl false from hd)
    unfold Rep at r
    refine ⟨false, r, ?_⟩
    rw [if_neg Bool.false_ne_true]
    cases e
    exact k _ H' F' R' s (by show Rep X.K F' _ _; unfold Rep; rfl)
  · cases e
theorem em_or {a b : Expr} {rest : List Expr} {pos : Pos} {m n : ME} (ha : Em X a m) (hb : Em X (.BoolOp .Or (b :: rest) pos) n) : Em X (.BoolOp .Or (a :: b :: rest) pos) (mOr m n) := PE_imp (pe_or ha.fz hb) fun σ H Q ⟨F0, Z, B, F, ρ, dv, ρ', R, e, k⟩ => by
  obtain ⟨⟨d, ρ1⟩, e1, e⟩ := Option.bind_eq_some_iff.mp e
  refine tOfV_of R e1 fun v H' F' R' s r => ?_
  split at e
  · rename_i hd
    cases (show d = .bl false from hd)
    unfold Rep at r
    refine ⟨false, r, ?_⟩
    rw [if_neg Bool.false_ne_true]
    exact tOf_of R' e fun w H2 F2 R2 s2 r2 => k w H2 F2 R2 (s.trans s2) r2
  · rename_i hd
    cases (show d = .bl true from hd)
    unfold Rep at r
    refine ⟨true, r, ?_⟩
    rw [if_pos rfl]
    cases e
    exact k _ H' F' R' s (by show Rep X.K F' _ _; unfold Rep; rfl)
  · cases e
def mIf (c : MT) (m n : ME) : ME := fun ρ => (c ρ).bind fun p => if p.1 = true then m p.2 else n p.2
theorem em_if {c a b : Expr} {pos : Pos} {mc : MT} {m n : ME} (hc : Et X c mc) (ha : Em X a m) (hb : Em X b n) : Em X (.IfExp c a b pos) (mIf mc m n) := PE_imp (pe_ifExp hc ha hb) fun σ H Q ⟨F0, Z, B, F, ρ, dv, ρ', R, e, k⟩ => by
  obtain ⟨⟨d, ρ1⟩, e1, e⟩ := Option.bind_eq_some_iff.mp e
  refine tOfT_of R e1 fun H' F' R' s => ?_
  cases d with
  | true =>
    rw [if_pos rfl]
    exact tOf_of R' e fun w H2 F2 R2 s2 r2 => k w H2 F2 R2 (s.trans s2) r2
  | false =>
    rw [if_neg Bool.false_ne_true]
    exact tOf_of R' e fun w H2 F2 R2 s2 r2 => k w H2 F2 R2 (s.trans s2) r2
/-! ### chains -/
def mChain (f g : D → D → Option DV) (ma mb mc : ME) : ME := fun ρ => (fz ma ρ).bind fun p => (fz mb p.2).bind fun q => (f p.1 q.1).bind fun z => match z with
  | .val (.bl true) => (fz mc q.2).bind fun r => (g q.1 r.1).map fun dv => (dv, r.2)
  | .val (.bl false) => some (.val (.bl false), q.2)
  | _ => none
theorem runChain {a b c : Expr} {ma mb mc : ME} {K : PySem.W.Frag} {r r' : R2} {f g : D → D → Option DV} (os : OpS K r f) (os' : OpS K r' g) {σ : L2.St} {H : Hp} {Q : VK} (h : tOf K (mChain f g ma mb mc) σ H Q) :
    tChain r r' (tOfV K (fz ma)) (tOfV K (fz mb)) (tOfV K (fz mc)) σ H Q := by
  obtain ⟨F0, Z, B, F, ρ, dv, ρ', R, e, k⟩ := h
  unfold mChain at e
  obtain ⟨⟨x, ρ1⟩, e1, e⟩ := Option.bind_eq_some_iff.mp e
  obtain ⟨⟨y, ρ2⟩, e2, e⟩ := Option.bind_eq_some_iff.mp e
  obtain ⟨z, e3, e⟩ := Option.bind_eq_some_iff.mp e
  refine tOfV_of R e1 fun v H1 F1 R1 s1 r1 => tOfV_of R1 e2 fun u H2 F2 R2 s2 r2 => ?_
  refine os F0 Z B σ H2 F2 ρ2 x y v u _ _ R2 (Rep.mono s2 x v r1) r2 e3 fun w H3 F3 R3 s3 rr => ?_
  split at e
  · have rb : Rep K F3 (.bl true) w := rr
    unfold Rep at rb
    refine ⟨true, rb, ?_⟩
    rw [if_pos rfl]
    obtain ⟨⟨c', ρ3⟩, e4, e⟩ := Option.bind_eq_some_iff.mp e
    obtain ⟨dw, e5, e⟩ := Option.map_eq_some_iff.mp e
    cases e
    refine tOfV_of R3 e4 fun v4 H4 F4 R4 s4 r4 => ?_
    exact os' F0 Z B σ H4 F4 ρ3 y c' u v4 _ Q R4 (Rep.mono (s3.trans s4) y u r2) r4 e5 fun w5 H5 F5 R5 s5 r5 => k w5 H5 F5 R5 (s1.trans (s2.trans (s3.trans (s4.trans s5)))) r5
  · have rb : Rep K F3 (.bl false) w := rr
    unfold Rep at rb
    refine ⟨false, rb, ?_⟩
    rw [if_neg Bool.false_ne_true]
    cases e
    exact k _ H3 F3 R3 (s1.trans (s2.trans s3)) (by show Rep K F3 _ _; unfold Rep; rfl)
  · cases e
theorem em_chain {op op' : CmpOp} {a b c : Expr} {pos : Pos} {ma mb mc : ME} {r r' : R2} {f g : D → D → Option DV} (ho : OpR X (compareOp op) r) (ho' : OpR X (compareOp op') r') (os : OpS X.K r f) (os' : OpS X.K r' g) (ha : Em X a ma) (hb : Em X b mb) (hc : Em X c mc)
    (hm : lastMarks [op, op'] [b, c] = false := by with_unfolding_all rfl) : Em X (.Compare a [op, op'] [b, c] pos) (mChain f g ma mb mc) :=
  PE_imp (pe_chain ho ho' ha.fz hb.fz hc.fz hm) fun σ H Q h => runChain (a := a) (b := b) (c := c) os os' h
theorem et_chain {op op' : CmpOp} {a b c : Expr} {pos : Pos} {ma mb mc : ME} {r r' : R2} {f g : D → D → Option DV} (ho : OpR X (compareOp op) r) (ho' : OpR X (compareOp op') r') (os : OpS X.K r f) (os' : OpS X.K r' g) (ha : Em X a ma) (hb : Em X b mb) (hc : Em X c mc)
    (hm : lastMarks [op, op'] [b, c] = false := by with_unfolding_all rfl) : Et X (.Compare a [op, op'] [b, c] pos) (tst (mChain f g ma mb mc)) :=
  PT_imp (pt_chain ho ho' ha.fz hb.fz hc.fz hm) fun σ H Q ⟨F0, Z, B, F, ρ, t, ρ', R, e, k⟩ => by
    unfold tst at e
    split at e
    · rename_i t0 ρ0 e1
      cases e
      refine runChain (a := a) (b := b) (c := c) os os' (tOf_of R e1 fun v H' F' R' s rr => ⟨t, ?_, k H' F' R' s⟩)
      have : Rep X.K F' (.bl t) v := rr
      unfold Rep at this; exact this
    · cases e
end
end Cb

set_option Elab.async false
set_option linter.all false
set_option maxRecDepth 100000
/-! Rules: ==, displays, subscripts, slices, built-ins. -/
namespace Cb
open PySem PySem.Spec PyProof.Rows L2

/-! ### == -/
mutual
def py : D → PyData
  | .non => .none
  | .bl b => .bool b
  | .int i => .int i
  | .str x => .str x
  | .tup ds => .tuple (pys ds)
  | .lst ds => .list (pys ds)
  | _ => .none
def pys : List D → List PyData
  | [] => []
  | d :: ds => py d :: pys ds
end
mutual
/-- data that may be compared, at most so deep -/
def okD : Nat → D → Bool
  | _, .non => true
  | _, .bl _ => true
  | _, .int _ => true
  | _, .str x => PyData.strOk x
  | 0, _ => false
  | n + 1, .tup ds => okDs n ds
  | n + 1, .lst ds => okDs n ds
  | _ + 1, _ => false
def okDs : Nat → List D → Bool
  | _, [] => true
  | n, d :: ds => okD n d && okDs n ds
end
mutual
def eqD : D → D → Bool
  | .non, .non => true
  | .bl a, .bl b => a == b
  | .bl a, .int j => (if a then 1 else 0) == j
  | .int i, .bl b => i == (if b then 1 else 0)
  | .int i, .int j => i == j
  | .str x, .str y => x == y
  | .lst xs, .lst ys => eqDs xs ys
  | .tup xs, .tup ys => eqDs xs ys
  | _, _ => false
def eqDs : List D → List D → Bool
  | [], [] => true
  | x :: xs, y :: ys => eqD x y && eqDs xs ys
  | _, _ => false
end
theorem okDs_iff {n : Nat} : ∀ {ds : List D}, okDs n ds = true ↔ ∀ d ∈ ds, okD n d = true
  | [] => by simp [okDs]
  | d :: ds => by simp [okDs, okDs_iff (ds := ds)]
theorem okD_tup {n : Nat} {ds : List D} (h : ∀ d ∈ ds, okD n d = true) : okD (n + 1) (.tup ds) = true := by unfold okD; exact okDs_iff.mpr h
theorem okD_lst {n : Nat} {ds : List D} (h : ∀ d ∈ ds, okD n d = true) : okD (n + 1) (.lst ds) = true := by unfold okD; exact okDs_iff.mpr h
mutual
theorem py_lay : ∀ (n : Nat) (d : D), okD n d = true → (py d).canLay0 = true ∧ (py d).depth ≤ n
  | n, .non, _ => by simp [py, PyData.canLay0, PyData.depth]
  | n, .bl _, _ => by simp [py, PyData.canLay0, PyData.depth]
  | n, .int _, _ => by simp [py, PyData.canLay0, PyData.depth]
  | n, .str x, h => by
    have h' : PyData.strOk x = true := by simpa [okD] using h
    simp [py, PyData.canLay0, PyData.depth, h']
  | 0, .tup ds, h => by simp [okD] at h
  | 0, .lst ds, h => by simp [okD] at h
  | 0, .dk _ _, h => by simp [okD] at h
  | 0, .dt _ _, h => by simp [okD] at h
  | 0, .scr _, h => by simp [okD] at h
  | n + 1, .tup ds, h => by
    have h' : okDs n ds = true := by simpa [okD] using h
    obtain ⟨h1, h2⟩ := pys_lay n ds h'
    simp only [py, PyData.canLay0, PyData.depth]
    exact ⟨h1, by omega⟩
  | n + 1, .lst ds, h => by
    have h' : okDs n ds = true := by simpa [okD] using h
    obtain ⟨h1, h2⟩ := pys_lay n ds h'
    simp only [py, PyData.canLay0, PyData.depth]
    exact ⟨h1, by omega⟩
  | n + 1, .dk _ _, h => by simp [okD] at h
  | n + 1, .dt _ _, h => by simp [okD] at h
  | n + 1, .scr _, h => by simp [okD] at h
theorem pys_lay : ∀ (n : Nat) (ds : List D), okDs n ds = true → PyData.canLayAll0 (pys ds) = true ∧ PyData.depthAll (pys ds) ≤ n
  | n, [], _ => by simp [pys, PyData.canLayAll0, PyData.depthAll]
  | n, d :: ds, h => by
    have h' : okD n d = true ∧ okDs n ds = true := by simpa [okDs] using h
    obtain ⟨h1, h2⟩ := py_lay n d h'.1
    obtain ⟨h3, h4⟩ := pys_lay n ds h'.2
    simp only [pys, PyData.canLayAll0, PyData.depthAll, h1, h3, Bool.and_self]
    exact ⟨trivial, Nat.max_le.mpr ⟨h2, h4⟩⟩
end
theorem py_shaped {d : D} (h : okD 8 d = true) : SeqAt.shaped (py d) = true := by
  obtain ⟨h1, h2⟩ := py_lay 8 d h
  unfold SeqAt.shaped
  rw [h1, decide_eq_true (show (py d).depth ≤ 64 by omega)]; rfl
mutual
theorem py_eqv : ∀ (n m : Nat) (x y : D), okD n x = true → okD m y = true → PyData.eqv (py x) (py y) = eqD x y
  | n, m, x, y, hx, hy => by
    cases x <;> cases y <;> first
      | (cases n <;> simp [okD] at hx; done)
      | (cases m <;> simp [okD] at hy; done)
      | (simp only [py, PyData.eqv, eqD]; done)
      | skip
    · rename_i ds es
      cases n with
      | zero => simp [okD] at hx
      | succ n =>
        cases m with
        | zero => simp [okD] at hy
        | succ m =>
          simp only [py, PyData.eqv, eqD]
          exact pys_eqv n m ds es (by simpa [okD] using hx) (by simpa [okD] using hy)
    · rename_i ds es
      cases n with
      | zero => simp [okD] at hx
      | succ n =>
        cases m with
        | zero => simp [okD] at hy
        | succ m =>
          simp only [py, PyData.eqv, eqD]
          exact pys_eqv n m ds es (by simpa [okD] using hx) (by simpa [okD] using hy)
theorem pys_eqv : ∀ (n m : Nat) (xs ys : List D), okDs n xs = true → okDs m ys = true → PyData.eqvAll (pys xs) (pys ys) = eqDs xs ys
  | n, m, [], [], _, _ => by simp [pys, PyData.eqvAll, eqDs]
  | n, m, [], _ :: _, _, _ => by simp [pys, PyData.eqvAll, eqDs]
  | n, m, _ :: _, [], _, _ => by simp [pys, PyData.eqvAll, eqDs]
  | n, m, x :: xs, y :: ys, hx, hy => by
    have hx' : okD n x = true ∧ okDs n xs = true := by simpa [okDs] using hx
    have hy' : okD m y = true ∧ okDs m ys = true := by simpa [okDs] using hy
    simp only [pys, PyData.eqvAll, eqDs]
    rw [py_eqv n m x y hx'.1 hy'.1, pys_eqv n m xs ys hx'.2 hy'.2]
end
mutual
theorem rep_dp {K : PySem.W.Frag} {F H : Hp} (s : Same F H) : ∀ (n : Nat) (d : D) (v : V), okD n d = true → Rep K F d v → Dp K H v (py d)
  | n, .non, v, _, r => by unfold Rep at r; subst r; simp only [py]; exact .non
  | n, .bl _, v, _, r => by unfold Rep at r; subst r; simp only [py]; exact .bl _
  | n, .int _, v, _, r => by unfold Rep at r; subst r; simp only [py]; exact .int _
  | n, .str x, v, _, r => by unfold Rep at r; subst r; simp only [py]; exact .str _
  | 0, .tup ds, _, h, _ => by simp [okD] at h
  | 0, .lst ds, _, h, _ => by simp [okD] at h
  | 0, .dk _ _, _, h, _ => by simp [okD] at h
  | 0, .dt _ _, _, h, _ => by simp [okD] at h
  | 0, .scr _, _, h, _ => by simp [okD] at h
  | n + 1, .tup ds, v, h, r => by
    have h' : okDs n ds = true := by simpa [okD] using h
    unfold Rep at r
    obtain ⟨a, xs, rfl, h1, h2⟩ := r
    simp only [py]
    exact .tup (SqT_mono s h1) (reps_dp s n ds xs h' h2)
  | n + 1, .lst ds, v, h, r => by
    have h' : okDs n ds = true := by simpa [okD] using h
    unfold Rep at r
    obtain ⟨a, xs, rfl, h1, h2⟩ := r
    simp only [py]
    exact .lst (.of (s _ _ h1)) (reps_dp s n ds xs h' h2)
  | n + 1, .dk _ _, _, h, _ => by simp [okD] at h
  | n + 1, .dt _ _, _, h, _ => by simp [okD] at h
  | n + 1, .scr _, _, h, _ => by simp [okD] at h
theorem reps_dp {K : PySem.W.Frag} {F H : Hp} (s : Same F H) : ∀ (n : Nat) (ds : List D) (xs : List V), okDs n ds = true → Reps K F ds xs → DpAll K H xs (pys ds)
  | n, [], xs, _, r => by rw [r.of_nil]; simp only [pys]; exact .nil
  | n, d :: ds, _, h, r => by
    have h' : okD n d = true ∧ okDs n ds = true := by simpa [okDs] using h
    obtain ⟨x, t, rfl, r1, r2⟩ := r.of_cons
    simp only [pys]
    exact .cons (rep_dp s n d x h'.1 r1) (reps_dp s n ds t h'.2 r2)
end
def dEq (x y : D) : Option DV := if okD 8 x = true ∧ okD 8 y = true then some (.val (.bl (eqD x y))) else none
def dNe (x y : D) : Option DV := if okD 8 x = true ∧ okD 8 y = true then some (.val (.bl (!eqD x y))) else none
theorem os_eq {K : PySem.W.Frag} : OpS K (rEqD K) dEq := .pure fun F H x y v u dv Q s rx ry e k => by
  obtain ⟨⟨h1, h2⟩, rfl⟩ := ite_some e
  refine ⟨py x, py y, rep_dp s 8 x v h1 rx, rep_dp s 8 y u h2 ry, py_shaped h1, py_shaped h2, ?_⟩
  rw [py_eqv 8 8 x y h1 h2]
  exact k _ _ rfl fun F' => by unfold Rep; rfl
theorem os_ne {K : PySem.W.Frag} : OpS K (rNeD K) dNe := .pure fun F H x y v u dv Q s rx ry e k => by
  obtain ⟨⟨h1, h2⟩, rfl⟩ := ite_some e
  refine ⟨py x, py y, rep_dp s 8 x v h1 rx, rep_dp s 8 y u h2 ry, py_shaped h1, py_shaped h2, ?_⟩
  rw [py_eqv 8 8 x y h1 h2]
  exact k _ _ rfl fun F' => by unfold Rep; rfl
mutual
/-- no bool within -/
def nob : D → Bool
  | .bl _ => false
  | .tup ds => nobs ds
  | .lst ds => nobs ds
  | .dk _ _ => false
  | .dt _ _ => false
  | .scr _ => false
  | _ => true
def nobs : List D → Bool
  | [] => true
  | d :: ds => nob d && nobs ds
end
theorem nobs_iff : ∀ {ds : List D}, nobs ds = true ↔ ∀ d ∈ ds, nob d = true
  | [] => by simp [nobs]
  | d :: ds => by simp [nobs, nobs_iff (ds := ds)]
mutual
theorem eqD_iff : ∀ (x y : D), nob x = true → nob y = true → (eqD x y = true ↔ x = y)
  | .non, y, hx, hy => by cases y <;> simp [eqD, nob] at *
  | .bl _, y, hx, hy => by simp [nob] at hx
  | .int i, y, hx, hy => by cases y <;> simp [eqD, nob] at *
  | .str i, y, hx, hy => by cases y <;> simp [eqD, nob] at *
  | .tup ds, y, hx, hy => by
    cases y <;> simp [eqD, nob] at *
    exact eqDs_iff ds _ hx hy
  | .lst ds, y, hx, hy => by
    cases y <;> simp [eqD, nob] at *
    exact eqDs_iff ds _ hx hy
  | .dk _ _, y, hx, hy => by simp [nob] at hx
  | .dt _ _, y, hx, hy => by simp [nob] at hx
  | .scr _, y, hx, hy => by simp [nob] at hx
theorem eqDs_iff : ∀ (xs ys : List D), nobs xs = true → nobs ys = true → (eqDs xs ys = true ↔ xs = ys)
  | [], [], _, _ => by simp [eqDs]
  | [], _ :: _, _, _ => by simp [eqDs]
  | _ :: _, [], _, _ => by simp [eqDs]
  | x :: xs, y :: ys, hx, hy => by
    have hx' : nob x = true ∧ nobs xs = true := by simpa [nobs] using hx
    have hy' : nob y = true ∧ nobs ys = true := by simpa [nobs] using hy
    simp only [eqDs, Bool.and_eq_true, List.cons.injEq]
    rw [eqD_iff x y hx'.1 hy'.1, eqDs_iff xs ys hx'.2 hy'.2]
end
section
variable {X : Cx}
/-! ### is None, is of bools -/
def isN : D → Bool
  | .non => true
  | _ => false
def dIsN : D → D → Option DV
  | x, .non => some (.val (.bl (isN x)))
  | .bl a, .bl b => some (.val (.bl (a == b)))
  | _, _ => none
def dNotN : D → D → Option DV
  | x, .non => some (.val (.bl (!isN x)))
  | .bl a, .bl b => some (.val (.bl (!(a == b))))
  | _, _ => none
theorem rep_non {K : PySem.W.Frag} {F : Hp} {d : D} {v : V} (r : Rep K F d v) : decide (v = .non) = isN d := by
  cases d <;> unfold Rep at r
  · subst r; rfl
  · subst r; rfl
  · subst r; rfl
  · subst r; rfl
  · obtain ⟨a, xs, rfl, _⟩ := r; rfl
  · obtain ⟨a, xs, rfl, _⟩ := r; rfl
  · obtain ⟨a, xs, rfl, _⟩ := r; rfl
  · obtain ⟨a, xs, rfl, _⟩ := r; rfl
  · obtain ⟨a, rfl, _⟩ := r; rfl
def rIsA : R2 := fun x y H Q => (y = .non ∧ Q (.bl (decide (x = .non))) H) ∨ rIsB x y H Q
def rNotA : R2 := fun x y H Q => (y = .non ∧ Q (.bl (!decide (x = .non))) H) ∨ rNotB x y H Q
theorem op_isA : OpR X (compareOp .Is) rIsA := op_isN.or op_isBl
theorem op_notA : OpR X (compareOp .IsNot) rNotA := op_notN.or op_notBl
theorem os_is {K : PySem.W.Frag} : OpS K rIsA dIsN := .pure fun F H x y v u dv Q s rx ry e k => by
  cases y with
  | non =>
    unfold Rep at ry; subst ry
    cases e
    refine .inl ⟨rfl, ?_⟩
    rw [rep_non rx]
    exact k _ _ rfl fun F' => by unfold Rep; rfl
  | bl b =>
    cases x <;> try (cases e; done)
    rename_i a
    unfold Rep at rx ry; subst rx ry
    cases e
    refine .inr ⟨a, b, rfl, rfl, k _ _ rfl fun F' => by unfold Rep; cases a <;> cases b <;> rfl⟩
  | _ => cases x <;> cases e
theorem os_isnot {K : PySem.W.Frag} : OpS K rNotA dNotN := .pure fun F H x y v u dv Q s rx ry e k => by
  cases y with
  | non =>
    unfold Rep at ry; subst ry
    cases e
    refine .inl ⟨rfl, ?_⟩
    rw [rep_non rx]
    exact k _ _ rfl fun F' => by unfold Rep; rfl
  | bl b =>
    cases x <;> try (cases e; done)
    rename_i a
    unfold Rep at rx ry; subst rx ry
    cases e
    refine .inr ⟨a, b, rfl, rfl, k _ _ rfl fun F' => by unfold Rep; cases a <;> cases b <;> rfl⟩
  | _ => cases x <;> cases e
/-! ### argument lists, displays -/
abbrev MA := En → Option (List D × En)
def tAOf (K : PySem.W.Frag) (m : MA) : TA := fun σ H Q => ∃ F0 Z B F ρ ds ρ', Rel K F0 Z B σ H F ρ ∧ m ρ = some (ds, ρ') ∧ ∀ vs H' F', Rel K F0 Z B σ H' F' ρ' → Same F F' → Reps K F' ds vs → Q vs H'
abbrev Am (X : Cx) (es : List Expr) (m : MA) : Prop := PA X es (tAOf X.K m)
theorem PA_imp {es : List Expr} {t t' : TA} (h : PA X es t) (i : ∀ σ H Q, t' σ H Q → t σ H Q) : PA X es t' := ⟨fun p pins s σ H Q I q => h.run p pins s σ H Q I (i _ _ _ q)⟩
theorem tAOf_of {K : PySem.W.Frag} {m : MA} {F0 Z : Hp} {B : Nat → Addr} {σ : L2.St} {H F : Hp} {ρ ρ' : En} {ds : List D} {Q : List V → Hp → Prop} (R : Rel K F0 Z B σ H F ρ) (e : m ρ = some (ds, ρ'))
    (h : ∀ vs H' F', Rel K F0 Z B σ H' F' ρ' → Same F F' → Reps K F' ds vs → Q vs H') : tAOf K m σ H Q := ⟨F0, Z, B, F, ρ, ds, ρ', R, e, h⟩
def aNil : MA := fun ρ => some ([], ρ)
def aCons (m : ME) (ms : MA) : MA := fun ρ => (fz m ρ).bind fun p => (ms p.2).map fun q => (p.1 :: q.1, q.2)
theorem am_nil : Am X [] aNil := PA_imp pa_nil fun σ H Q ⟨F0, Z, B, F, ρ, ds, ρ', R, e, k⟩ => by
  cases e
  exact k [] H F R (Same.refl _) .nil
theorem am_cons {e : Expr} {es : List Expr} {m : ME} {ms : MA} (ha : Em X e m) (hr : Am X es ms) (hs : starEach (e :: es) X.env = (false, eval e X.env) :: starEach es X.env := by rfl) : Am X (e :: es) (aCons m ms) := PA_imp (pa_cons ha.fz hr hs) fun σ H Q ⟨F0, Z, B, F, ρ, ds, ρ', R, e, k⟩ => by
  obtain ⟨⟨x, ρ1⟩, e1, e⟩ := Option.bind_eq_some_iff.mp e
  obtain ⟨⟨xs, ρ2⟩, e2, e⟩ := Option.map_eq_some_iff.mp e
  cases e
  exact tOfV_of R e1 fun v H1 F1 R1 s1 r1 => tAOf_of R1 e2 fun vs H2 F2 R2 s2 r2 => k (v :: vs) H2 F2 R2 (s1.trans s2) (.cons (Rep.mono s2 _ _ r1) r2)
def aStar (m : ME) (ms : MA) : MA := fun ρ => (fz m ρ).bind fun p => match p.1 with
  | .lst ds => (ms p.2).map fun q => (ds ++ q.1, q.2)
  | .tup ds => (ms p.2).map fun q => (ds ++ q.1, q.2)
  | _ => none
theorem am_star {e : Expr} {es : List Expr} {p : Pos} {m : ME} {ms : MA} (ha : Em X e m) (hr : Am X es ms) (hs : starEach (.Starred e p :: es) X.env = (true, eval e X.env) :: starEach es X.env := by rfl) : Am X (.Starred e p :: es) (aStar m ms) := PA_imp (StX.pa_star ha.fz hr hs) fun σ H Q ⟨F0, Z, B, F, ρ, ds, ρ', R, e, k⟩ => by
  obtain ⟨⟨x, ρ1⟩, e1, e⟩ := Option.bind_eq_some_iff.mp e
  refine tOfV_of R e1 fun v H1 F1 R1 s1 r1 => ?_
  split at e
  · rename_i ds' hd
    cases (show x = .lst ds' from hd)
    obtain ⟨⟨xs, ρ2⟩, e2, e⟩ := Option.map_eq_some_iff.mp e
    cases e
    unfold Rep at r1
    obtain ⟨a, ys, rfl, h1, h2⟩ := r1
    exact ⟨a, ys, rfl, .inr (.of (R1.sub _ _ h1)), tAOf_of R1 e2 fun vs H2 F2 R2 s2 r2 => k _ H2 F2 R2 (s1.trans s2) ((Reps.mono s2 _ _ h2).append r2)⟩
  · rename_i ds' hd
    cases (show x = .tup ds' from hd)
    obtain ⟨⟨xs, ρ2⟩, e2, e⟩ := Option.map_eq_some_iff.mp e
    cases e
    unfold Rep at r1
    obtain ⟨a, ys, rfl, h1, h2⟩ := r1
    exact ⟨a, ys, rfl, .inl (SqT_mono R1.sub h1), tAOf_of R1 e2 fun vs H2 F2 R2 s2 r2 => k _ H2 F2 R2 (s1.trans s2) ((Reps.mono s2 _ _ h2).append r2)⟩
  · cases e
def mTup (ms : MA) : ME := fun ρ => (ms ρ).bind fun p => if p.1.length ≤ line then some (.val (.tup p.1), p.2) else none
def mLst (ms : MA) : ME := fun ρ => (ms ρ).bind fun p => if p.1.length ≤ line then some (.own (.lst p.1), p.2) else none
theorem em_tup {es : List Expr} {x1} {pos : Pos} {ms : MA} (h : Am X es ms) : Em X (.Tuple es x1 pos) (mTup ms) := PE_imp (pe_tup h) fun σ H Q ⟨F0, Z, B, F, ρ, dv, ρ', R, e, k⟩ => by
  obtain ⟨⟨ds, ρ1⟩, e1, e⟩ := Option.bind_eq_some_iff.mp e
  obtain ⟨hl, e⟩ := ite_some e
  cases e
  refine tAOf_of R e1 fun vs H1 F1 R1 s1 r1 => ⟨by rw [r1.length, ← line_eq]; exact hl, fun p hp => ?_⟩
  obtain ⟨R2, s2, r2⟩ := new_tup R1 hp r1
  exact k _ _ _ R2 (s1.trans s2) r2
theorem em_lst {es : List Expr} {pos : Pos} {ms : MA} (h : Am X es ms) : Em X (.List es pos) (mLst ms) := PE_imp (pe_lst h) fun σ H Q ⟨F0, Z, B, F, ρ, dv, ρ', R, e, k⟩ => by
  obtain ⟨⟨ds, ρ1⟩, e1, e⟩ := Option.bind_eq_some_iff.mp e
  obtain ⟨hl, e⟩ := ite_some e
  cases e
  refine tAOf_of R e1 fun vs H1 F1 R1 s1 r1 => ⟨by rw [r1.length, ← line_eq]; exact hl, fun p hp => ?_⟩
  obtain ⟨R2, r2⟩ := new_lst R1 hp r1
  exact k _ _ _ R2 s1 r2
/-! ### subscripts -/
def dIx : D → D → Option D
  | .tup ds, .int i => atI ds i
  | .lst ds, .int i => atI ds i
  | .scr ns, .int i => (atI ns i).map .int
  | .str z, .int i => if z.length ≤ line then (atI z.cps.toList i).map fun c => .str ⟨#[c]⟩ else none
  | _, _ => none
def dIxV (x y : D) : Option DV := (dIx x y).map .val
theorem Reps.atI {K : PySem.W.Frag} {F : Hp} {ds : List D} {xs : List V} {i : Int} {d : D} (r : Reps K F ds xs) (e : L2.atI ds i = some d) : ∃ x, L2.atI xs i = some x ∧ Rep K F d x := by
  unfold L2.atI at e ⊢
  rw [r.length]
  obtain ⟨j, e1, e2⟩ := Option.bind_eq_some_iff.mp e
  obtain ⟨x, h1, h2⟩ := r.get e2
  exact ⟨x, by rw [e1]; exact h1, h2⟩
theorem atI_map {α β : Type} {f : α → β} {xs : List α} {i : Int} {x : α} (e : L2.atI xs i = some x) : L2.atI (xs.map f) i = some (f x) := by
  unfold L2.atI at e ⊢
  obtain ⟨j, e1, e2⟩ := Option.bind_eq_some_iff.mp e
  rw [List.length_map, e1]
  show (xs.map f)[j]? = _
  rw [List.getElem?_map, e2]; rfl
/-- what an owned or frozen thing at v gives at an index -/
theorem ix_of {K : PySem.W.Frag} {H F : Hp} {x y d : D} {v u : V} {Q : VK} (s : Same F H) (rx : Rep K F x v ∨ ∃ a, v = .ref a ∧ OwnRep K H F a x) (ry : Rep K F y u) (e : dIx x y = some d) (k : ∀ w, Rep K F d w → Q w H) : rIx K v u H Q := by
  cases y <;> try (cases x <;> cases e; done)
  rename_i i
  unfold Rep at ry; subst ry
  cases x <;> try (cases e; done)
  · rename_i z
    have e' : (if z.length ≤ line then (L2.atI z.cps.toList i).map fun c => D.str ⟨#[c]⟩ else none) = some d := e
    have hl : z.length ≤ line := by
      by_cases hl : z.length ≤ line
      · exact hl
      · rw [if_neg hl] at e'; cases e'
    rw [if_pos hl] at e'
    clear e
    have e := e'
    rcases rx with rx | ⟨a, _, rx⟩
    · unfold Rep at rx; subst rx
      obtain ⟨c, e1, e2⟩ := Option.map_eq_some_iff.mp e
      subst e2
      exact .inr (.inr ⟨_, i, c, rfl, rfl, by rw [← line_eq]; exact hl, e1, k _ (by unfold Rep; rfl)⟩)
    · exact rx.elim
  · rcases rx with rx | ⟨a, _, rx⟩
    · unfold Rep at rx
      obtain ⟨a, xs, rfl, h1, h2⟩ := rx
      obtain ⟨w, e1, r1⟩ := h2.atI e
      exact .inr (.inl ⟨a, xs, i, w, rfl, rfl, SqT_mono s h1, e1, k w r1⟩)
    · exact rx.elim
  · rename_i ds
    have : ∃ a xs, v = .ref a ∧ H a = some (.lst xs) ∧ Reps K F ds xs := by
      rcases rx with rx | ⟨a, ea, rx⟩
      · unfold Rep at rx
        obtain ⟨a, xs, rfl, h1, h2⟩ := rx
        exact ⟨a, xs, rfl, s _ _ h1, h2⟩
      · obtain ⟨xs, h1, h2⟩ := rx
        exact ⟨a, xs, ea, h1, h2⟩
    obtain ⟨a, xs, rfl, h1, h2⟩ := this
    obtain ⟨w, e1, r1⟩ := h2.atI e
    exact .inl ⟨a, xs, i, w, rfl, rfl, .of h1, e1, k w r1⟩
  · rcases rx with rx | ⟨a, _, rx⟩
    · unfold Rep at rx
      obtain ⟨a, rfl, h1⟩ := rx
      obtain ⟨n, e1, e2⟩ := Option.map_eq_some_iff.mp (show (L2.atI _ i).map D.int = some d from e)
      subst e2
      exact .inl ⟨a, _, i, .int n, rfl, rfl, s.seq h1, atI_map e1, k _ (by unfold Rep; rfl)⟩
    · exact rx.elim
theorem os_ix {K : PySem.W.Frag} : OpS K (rIx K) dIxV := fun F0 Z B σ H F ρ x y v u dv Q R rx ry e k => by
  obtain ⟨d, e1, e2⟩ := Option.map_eq_some_iff.mp e
  subst e2
  exact ix_of R.sub (.inl rx) ry e1 fun w r => k w H F R (Same.refl _) r
theorem em_ix {a b : Expr} {pos : Pos} {ma mb : ME} (ha : Em X a ma) (hb : Em X b mb) (hs : PlainIx b := by intro _ _; rfl) : Em X (.Subscript a b pos) (m2 dIxV ma mb) :=
  PE_imp (pe_ix ix_seq ha.fz hb.fz hs) fun σ H Q h => run2 (a := a) (b := b) os_ix h
/-- .. of a name, which stays as it is -/
def peek (ρ : En) (i : Nat) : Option D := match ρ[i]? with
  | some (some dv) => some dv.get
  | _ => none
theorem peek_ok {K : PySem.W.Frag} {F0 Z : Hp} {B : Nat → Addr} {σ : L2.St} {H F : Hp} {ρ : En} {i : Nat} {d : D} (R : Rel K F0 Z B σ H F ρ) (e : peek ρ i = some d) : ∃ v, σ[i]? = some (some v) ∧ (Rep K F d v ∨ ∃ a, v = .ref a ∧ OwnRep K H F a d) := by
  unfold peek at e
  split at e
  · rename_i dv e1
    cases e
    obtain ⟨v, e2, s⟩ := R.slot i dv e1
    refine ⟨v, e2, ?_⟩
    cases dv with
    | val d => exact .inl s
    | own d => obtain ⟨a, ea, _, _, h⟩ := s; exact .inr ⟨a, ea, h⟩
    | bor d => obtain ⟨ea, _, _, h⟩ := s; exact .inr ⟨_, ea, h⟩
  · cases e
def mIxS (i : Nat) (mb : ME) : ME := fun ρ => (peek ρ i).bind fun _ => (fz mb ρ).bind fun q => (peek q.2 i).bind fun x => (dIx x q.1).map fun d => (.val d, q.2)
theorem em_ixS {i : Nat} {x : Str} {b : Expr} {px pos : Pos} {mb : ME} (ha : PE X (.Name x px) (tVar i)) (hb : Em X b mb) (hs : PlainIx b := by intro _ _; rfl) : Em X (.Subscript (.Name x px) b pos) (mIxS i mb) :=
  PE_imp (pe_ix ix_seq ha hb.fz hs) fun σ H Q ⟨F0, Z, B, F, ρ, dv, ρ', R, e, k⟩ => by
    obtain ⟨x0, e0, e⟩ := Option.bind_eq_some_iff.mp e
    obtain ⟨⟨y, ρ1⟩, e1, e⟩ := Option.bind_eq_some_iff.mp e
    obtain ⟨x, e2, e⟩ := Option.bind_eq_some_iff.mp e
    obtain ⟨d, e3, e⟩ := Option.map_eq_some_iff.mp e
    cases e
    obtain ⟨v, ev, _⟩ := peek_ok R e0
    refine ⟨v, ev, tOfV_of R e1 fun u H1 F1 R1 s1 r1 => ?_⟩
    obtain ⟨w, ew, rw'⟩ := peek_ok R1 e2
    rw [ev] at ew
    have : v = w := Option.some.inj (Option.some.inj ew)
    subst this
    exact ix_of R1.sub rw' r1 e3 fun z r => k z H1 F1 R1 s1 r
end
end Cb

set_option Elab.async false
set_option linter.all false
set_option maxRecDepth 100000
/-! Rules: slices, built-ins. -/
namespace Cb
open PySem PySem.Spec PyProof.Rows L2
section
variable {X : Cx}
/-! ### slices -/
abbrev MP := En → Option (Option Int × En)
def tPOf (K : PySem.W.Frag) (m : MP) : TO := fun σ H Q => ∃ F0 Z B F ρ o ρ', Rel K F0 Z B σ H F ρ ∧ m ρ = some (o, ρ') ∧ ∀ H' F', Rel K F0 Z B σ H' F' ρ' → Same F F' → Q o H'
abbrev Po (X : Cx) (e : Option Expr) (m : MP) : Prop := PO X e (tPOf X.K m)
def pNone : MP := fun ρ => some (none, ρ)
def pSome (m : ME) : MP := fun ρ => (fz m ρ).bind fun p => match p.1 with
  | .int i => some (some i, p.2)
  | _ => none
theorem PO_imp {e : Option Expr} {t t' : TO} (h : PO X e t) (i : ∀ σ H Q, t' σ H Q → t σ H Q) : PO X e t' := ⟨fun pins s σ H Q I q => h.run pins s σ H Q I (i _ _ _ q)⟩
theorem pm_none : Po X none pNone := PO_imp po_none fun σ H Q ⟨F0, Z, B, F, ρ, o, ρ', R, e, k⟩ => by
  cases e
  exact k H F R (Same.refl _)
theorem pm_some {e : Expr} {m : ME} (h : Em X e m) : Po X (some e) (pSome m) := PO_imp (po_some h.fz) fun σ H Q ⟨F0, Z, B, F, ρ, o, ρ', R, e, k⟩ => by
  obtain ⟨⟨d, ρ1⟩, e1, e⟩ := Option.bind_eq_some_iff.mp e
  refine tOfV_of R e1 fun v H' F' R' s r => ?_
  split at e
  · rename_i i hd
    cases (show d = .int i from hd)
    unfold Rep at r
    cases e
    exact ⟨i, r, k H' F' R' s⟩
  · cases e
def cutL {α : Type} (xs : List α) (lo hi : Option Int) : List α := (xs.drop (HT.sIx xs.length 0 lo)).take (HT.sIx xs.length xs.length hi - HT.sIx xs.length 0 lo)
theorem Reps.cut {K : PySem.W.Frag} {F : Hp} {ds : List D} {xs : List V} (r : Reps K F ds xs) (lo hi : Option Int) : Reps K F (cutL ds lo hi) (cutV xs lo hi) := by
  unfold cutL cutV
  rw [r.length]
  exact (r.drop _).take _
theorem cutL_all {α : Type} (xs : List α) (lo hi : Option Int) (h1 : HT.sIx xs.length 0 lo = 0) (h2 : HT.sIx xs.length xs.length hi = xs.length) : cutL xs lo hi = xs := by
  unfold cutL
  rw [h1, h2]; simp
theorem cutL_map {α β : Type} (f : α → β) (xs : List α) (lo hi : Option Int) : cutL (xs.map f) lo hi = (cutL xs lo hi).map f := by
  unfold cutL
  simp [List.map_take, List.map_drop]
def dSl : D → Option Int → Option Int → Option DV
  | .lst ds, lo, hi => some (.own (.lst (cutL ds lo hi)))
  | .tup ds, lo, hi => some (.val (.tup (cutL ds lo hi)))
  | .scr ns, lo, hi => some (.own (.lst ((cutL ns lo hi).map .int)))
  | .str z, lo, hi => if z.length ≤ line then some (.val (.str (cutS z lo hi))) else none
  | _, _, _ => none
def mSl (ma : ME) (ml mh : MP) : ME := fun ρ => (fz ma ρ).bind fun p => (ml p.2).bind fun l => (mh l.2).bind fun h => (dSl p.1 l.1 h.1).map fun dv => (dv, h.2)
def rSlAll (K : PySem.W.Frag) : V → Option Int → Option Int → Hp → VK → Prop := fun x lo hi H Q => rSlL K x lo hi H Q ∨ rSlA K x lo hi H Q ∨ rSlS x lo hi H Q
theorem sl_all : SlR X (rSlAll X.K) := sl_list.or (sl_tupA.or sl_str)
theorem em_slice {a : Expr} {lo hi : Option Expr} {pos p2 : Pos} {ma : ME} {ml mh : MP} (ha : Em X a ma) (hl : Po X lo ml) (hh : Po X hi mh) : Em X (.Subscript a (.Slice lo hi none p2) pos) (mSl ma ml mh) :=
  PE_imp (pe_slice sl_all ha.fz hl hh) fun σ H Q ⟨F0, Z, B, F, ρ, dv, ρ', R, e, k⟩ => by
    obtain ⟨⟨x, ρ1⟩, e1, e⟩ := Option.bind_eq_some_iff.mp e
    obtain ⟨⟨l, ρ2⟩, e2, e⟩ := Option.bind_eq_some_iff.mp e
    obtain ⟨⟨h, ρ3⟩, e3, e⟩ := Option.bind_eq_some_iff.mp e
    obtain ⟨w, e4, e⟩ := Option.map_eq_some_iff.mp e
    cases e
    refine tOfV_of R e1 fun v H1 F1 R1 s1 r1 => ⟨F0, Z, B, F1, ρ1, l, ρ2, R1, e2, fun H2 F2 R2 s2 => ⟨F0, Z, B, F2, ρ2, h, ρ3, R2, e3, fun H3 F3 R3 s3 => ?_⟩⟩
    clear e
    have r3 := Rep.mono (s2.trans s3) _ _ r1
    have s13 : Same F F3 := s1.trans (s2.trans s3)
    cases x with
    | str z =>
      obtain ⟨hz, rfl⟩ := ite_some (show (if z.length ≤ line then some (DV.val (.str (cutS z l h))) else none) = some dv from e4)
      unfold Rep at r3; subst r3
      exact .inr (.inr ⟨z, rfl, by rw [← line_eq]; exact hz, k _ H3 F3 R3 s13 (by show Rep X.K F3 _ _; unfold Rep; rfl)⟩)
    | tup ds =>
      cases e4
      unfold Rep at r3
      obtain ⟨a, xs, rfl, h1, h2⟩ := r3
      refine .inr (.inl ⟨a, xs, rfl, SqT_mono R3.sub h1, fun hw => ?_, fun hw p hp => ?_⟩)
      · refine k _ H3 F3 R3 s13 ?_
        rw [h2.length] at hw
        rw [cutL_all ds l h hw.1 hw.2]
        show Rep X.K F3 _ _
        unfold Rep
        exact ⟨a, xs, rfl, h1, h2⟩
      · obtain ⟨R4, s4, r4⟩ := new_tup R3 hp (h2.cut l h)
        exact k _ _ _ R4 (s13.trans s4) r4
    | lst ds =>
      cases e4
      unfold Rep at r3
      obtain ⟨a, xs, rfl, h1, h2⟩ := r3
      refine .inl ⟨a, xs, rfl, .of (R3.sub _ _ h1), fun p hp => ?_⟩
      obtain ⟨R4, r4⟩ := new_lst R3 hp (h2.cut l h)
      exact k _ _ _ R4 s13 r4
    | scr ns =>
      cases e4
      unfold Rep at r3
      obtain ⟨a, rfl, h1⟩ := r3
      refine .inl ⟨a, _, rfl, R3.sub.seq h1, fun p hp => ?_⟩
      have : cutV (ns.map V.int) l h = (cutL ns l h).map V.int := by
        have := cutL_map V.int ns l h
        exact this
      rw [this]
      have hr : Reps X.K F3 ((cutL ns l h).map .int) ((cutL ns l h).map V.int) := by
        generalize cutL ns l h = zs
        induction zs with
        | nil => exact .nil
        | cons z zs ih => exact .cons (by unfold Rep; rfl) ih
      obtain ⟨R4, r4⟩ := new_lst R3 hp hr
      exact k _ _ _ R4 s13 r4
    | _ => cases e4

/-! ### xs[lo:hi:step] of a list -/
def pickG {α : Type} (xs : List α) (lo hi st : Option Int) : List α := (sliceRange (sliceBounds lo hi st xs.length).1 (sliceBounds lo hi st xs.length).2.1 (sliceBounds lo hi st xs.length).2.2).filterMap (xs[·]?)
theorem slicePick_pickG (its : List Value) (lo hi st : Option Int) : slicePick its.toArray lo hi st = (pickG its lo hi st).toArray := by
  unfold slicePick pickG
  simp
theorem Vals.pick {xs : List V} {us : List Value} (r : Vals xs us) : ∀ is : List Nat, Vals (is.filterMap (xs[·]?)) (is.filterMap (us[·]?))
  | [] => .nil
  | i :: is => by
    rw [List.filterMap_cons, List.filterMap_cons]
    cases e : xs[i]? with
    | none =>
      rw [r.none_of e]
      exact Vals.pick r is
    | some x =>
      obtain ⟨u, hu, ru⟩ := r.get e
      rw [hu]
      exact .cons ru (Vals.pick r is)
theorem Vals.pickG {xs : List V} {us : List Value} (r : Vals xs us) (lo hi st : Option Int) : Vals (Cb.pickG xs lo hi st) (Cb.pickG us lo hi st) := by
  unfold Cb.pickG
  rw [r.length]
  exact Vals.pick r _
theorem Reps.pick {K : PySem.W.Frag} {F : Hp} {ds : List D} {xs : List V} (r : Reps K F ds xs) : ∀ is : List Nat, Reps K F (is.filterMap (ds[·]?)) (is.filterMap (xs[·]?))
  | [] => .nil
  | i :: is => by
    rw [List.filterMap_cons, List.filterMap_cons]
    cases e : ds[i]? with
    | none =>
      have h1 : ds.length ≤ i := List.getElem?_eq_none_iff.mp e
      rw [List.getElem?_eq_none (by rw [r.length]; exact h1)]
      exact Reps.pick r is
    | some x =>
      obtain ⟨u, hu, ru⟩ := r.get e
      rw [hu]
      exact .cons ru (Reps.pick r is)
theorem Reps.pickG {K : PySem.W.Frag} {F : Hp} {ds : List D} {xs : List V} (r : Reps K F ds xs) (lo hi st : Option Int) : Reps K F (Cb.pickG ds lo hi st) (Cb.pickG xs lo hi st) := by
  unfold Cb.pickG
  rw [r.length]
  exact Reps.pick r _
def tSl3 (K : PySem.W.Frag) (te : TE) (tl th ts : TO) : TE := fun σ H Q => te σ H fun x H1 => tl σ H1 fun l H2 => th σ H2 fun u H3 => ts σ H3 fun st H4 => ∃ a xs, x = .ref a ∧ SqL K H4 a xs ∧ st ≠ some 0 ∧ ∀ p, H4 p = none → Q (.ref p) (upd H4 p (.lst (pickG xs l u st)))
theorem pe_sl3 {e : Expr} {lo hi : Option Expr} {st : Expr} {te : TE} {tl th ts : TO} {p2 pos : Pos} (he : PE X e te) (hl : PO X lo tl) (hu : PO X hi th) (hs : PO X (some st) ts) : PE X (.Subscript e (.Slice lo hi (some st) p2) pos) (tSl3 X.K te tl th ts) := by
  refine ⟨fun pins s σ H Q I h => ?_⟩
  refine Subscript_ (thn (he.run pins s σ H _ I h) fun v s1 ⟨x, H1, I1, r1, q1⟩ => ?_)
  refine wpAny_Slice (thn (hl.run pins s1 σ H1 _ I1 q1) fun vl s2 ⟨l, H2, I2, pl, q2⟩ => thn (hu.run pins s2 σ H2 _ I2 q2) fun vu s3 ⟨u, H3, I3, pu, q3⟩ => thn (hs.run pins s3 σ H3 _ I3 q3) fun vs s4 ⟨o, H4, I4, ps, a, xs, ex, hx, h0, q⟩ => ?_)
  subst ex
  cases r1
  have I5 : Inv X pins σ H4 { s4 with heap := s4.heap.push { cls := .type "slice", data := .fields #[vl, vu, vs] } } := I4.kept (t' := s4.toks) fun b ob q => Heap.get?_push_of_some _ q
  obtain ⟨its, r, ht, hz⟩ := I5.list hx
  have hlen := r.length
  show wpAny (model X.prog X.w) X.A (subscriptTail e (.Slice lo hi (some st) p2) (.ref a) (.ref s4.heap.objs.size)) (EP X pins σ Q) X.xe { s4 with heap := s4.heap.push { cls := .type "slice", data := .fields #[vl, vu, vs] } }
  refine tail_any (ops := [.ref a, .ref s4.heap.objs.size]) ht.isList.typeIs (PySem.slot_list_getitem.lookup) ?_ (by with_unfolding_all rfl)
  refine wpAny_getItem_list_slice ht.isList (Heap.IsSliceOf.new _ vl vu vs) pl pu ps h0 ?_ (by rw [List.size_toArray]; omega)
  have hsz := slicePick_size_le its.toArray l u o
  rw [slicePick_pickG] at hsz ⊢
  refine ⟨.ref _, _, I5.laid (t' := s4.toks) (o := .lst (pickG xs l u o)) (fun b ob q => Heap.get?_push_of_some _ q) (Nat.le_refl _) ?_, rfl, q _ (I5.hok.fresh (Nat.le_refl _))⟩
  have rv := Vals.pickG r l u o
  refine ⟨?_, _, 0, rv, Heap.get?_push_size _ rfl⟩
  rw [rv.length]
  simp only [List.size_toArray] at hsz
  omega
def mSl3 (ma : ME) (ml mh ms : MP) : ME := fun ρ => (fz ma ρ).bind fun p => (ml p.2).bind fun l => (mh l.2).bind fun h => (ms h.2).bind fun s => match p.1 with
  | .lst ds => if s.1 ≠ some 0 then some (.own (.lst (pickG ds l.1 h.1 s.1)), s.2) else none
  | _ => none
theorem em_sl3 {a : Expr} {lo hi : Option Expr} {st : Expr} {pos p2 : Pos} {ma : ME} {ml mh ms : MP} (ha : Em X a ma) (hl : Po X lo ml) (hh : Po X hi mh) (hs : Po X (some st) ms) : Em X (.Subscript a (.Slice lo hi (some st) p2) pos) (mSl3 ma ml mh ms) :=
  PE_imp (pe_sl3 ha.fz hl hh hs) fun σ H Q ⟨F0, Z, B, F, ρ, dv, ρ', R, e, k⟩ => by
    obtain ⟨⟨x, ρ1⟩, e1, e⟩ := Option.bind_eq_some_iff.mp e
    obtain ⟨⟨l, ρ2⟩, e2, e⟩ := Option.bind_eq_some_iff.mp e
    obtain ⟨⟨h, ρ3⟩, e3, e⟩ := Option.bind_eq_some_iff.mp e
    obtain ⟨⟨o, ρ4⟩, e4, e⟩ := Option.bind_eq_some_iff.mp e
    refine tOfV_of R e1 fun v H1 F1 R1 s1 r1 => ⟨F0, Z, B, F1, ρ1, l, ρ2, R1, e2, fun H2 F2 R2 s2 => ⟨F0, Z, B, F2, ρ2, h, ρ3, R2, e3, fun H3 F3 R3 s3 => ⟨F0, Z, B, F3, ρ3, o, ρ4, R3, e4, fun H4 F4 R4 s4 => ?_⟩⟩⟩
    cases x with
    | lst ds =>
      obtain ⟨h0, e5⟩ := ite_some (show (if o ≠ some 0 then some (DV.own (.lst (pickG ds l h o)), ρ4) else none) = some (dv, ρ') from e)
      cases e5
      have r4 := Rep.mono (s2.trans (s3.trans s4)) _ _ r1
      unfold Rep at r4
      obtain ⟨b, xs, rfl, q1, q2⟩ := r4
      refine ⟨b, xs, rfl, .of (R4.sub _ _ q1), h0, fun p hp => ?_⟩
      obtain ⟨R5, r5⟩ := new_lst R4 hp (q2.pickG l h o)
      exact k _ _ _ R5 (s1.trans (s2.trans (s3.trans s4))) r5
    | _ => cases e
/-! ### t[::-1] of a tuple -/
theorem getItem_tuple_rev {prog : Program} {w : World} {A : Around} {E : Value → Shared → Prop} {s : Shared} {t sl : Addr} {items : List Value} {u : Tok} {Q : Value → Shared → Prop} (ht : IsTup s.heap t items.toArray) (hs : s.heap.IsSliceOf sl .none .none (.int (-1) u))
    (h : Q (.ref s.heap.objs.size) { s with heap := s.heap.push { cls := .type "tuple", data := .seq items.reverse.toArray } }) (hsz : items.length ≤ sizeLine) : wpAny (model prog w) A (getItem (.ref t) (.ref sl)) Q E s := by
  obtain ⟨os, hos, hcs, hds⟩ := id hs
  have hTs : s.TypeIs (.ref sl) "slice" := ⟨os, hos, hcs⟩
  unfold getItem
  try with_reducible refine wpAny_holding ?_
  first | refine wpAny_bind (wpAny_pure ?_) | skip
  refine wpAny_bind (wpAny_sequenceKey ht.typeIs (by decide) ?_)
  refine wpAny_bind (wpAny_callSpecial?_slot (name := Str.ofString "__getitem__") ht.typeIs PyProof.Rows.slot_tuple_getitem
    (wpAny_call_entry PyProof.Rows.slot_tuple_getitem ht.typeIs entry_tuple_getitem ?_ (args_tuple_getitem _ _)))
  show wpAny _ _ (Builtin.Tuple.tupleItemsOf (.ref t) >>= _) _ _ s
  refine wpAny_bind (PyProof.Rows.tupleItemsOf_ ht ?_)
  refine wpAny_bind (wpAny_typeOf hTs ?_)
  rw [if_pos (by decide)]
  refine wpAny_bind ?_
  unfold Builtin.Slice.sliceApplied Builtin.Slice.sliceFields
  refine wpAny_bind (wpAny_bind (wpAny_field hos hds (x := .none) rfl (wpAny_bind (wpAny_field hos hds (x := .none) rfl (wpAny_bind (wpAny_field hos hds (x := .int (-1) u) rfl (wpAny_pure ?_)))))))
  refine wpAny_bind (slicePart_int ?_)
  show wpAny _ _ (if ((-1 : Int) == 0) = true then _ else _) _ _ s
  rw [if_neg (by decide)]
  refine wpAny_bind (slicePart_none (wpAny_bind (slicePart_none (wpAny_bind (wpAny_pure ?_)))))
  show wpAny _ _ (match Builtin.Slice.sliceAdjust none none (-1) (items.toArray.size : Int) with | (lo, hi) => pure (lo, (-1 : Int), Builtin.Slice.slicePlaces lo hi (-1))) _ _ s
  have e1 : Builtin.Slice.sliceAdjust none none (-1) (items.toArray.size : Int) = ((items.length : Int) - 1, -1) := by
    unfold Builtin.Slice.sliceAdjust
    simp
  rw [e1]
  have e2 : Builtin.Slice.slicePlaces ((items.length : Int) - 1) (-1) (-1) = items.length := by
    unfold Builtin.Slice.slicePlaces
    simp
    omega
  show wpAny _ _ (pure ((items.length : Int) - 1, (-1 : Int), Builtin.Slice.slicePlaces ((items.length : Int) - 1) (-1) (-1))) _ _ s
  rw [e2]
  refine wpAny_pure ?_
  show wpAny _ _ (if (((items.length : Int) - 1) == 0 && (-1 : Int) == 1 && items.length == items.toArray.size) = true then _ else _) _ _ s
  rw [if_neg (by simp)]
  have e3 : ((List.range items.length).filterMap fun (m : Nat) => items.toArray[(((items.length : Int) - 1) + (m : Int) * (-1)).toNat]?).toArray = items.reverse.toArray := by
    congr 1
    refine List.ext_getElem? fun i => ?_
    have key : ∀ (n : Nat) (xs : List Value) (hn : n ≤ xs.length), (List.range n).filterMap (fun (m : Nat) => xs.toArray[(((xs.length : Int) - 1) + (m : Int) * (-1)).toNat]?) = (xs.reverse).take n := by
      intro n xs
      induction n with
      | zero => intro _; simp
      | succ n ih =>
        intro hn
        rw [List.range_succ, List.filterMap_append, ih (by omega)]
        have e4 : (((xs.length : Int) - 1) + (n : Int) * (-1)).toNat = xs.length - 1 - n := by omega
        have hl : xs.length - 1 - n < xs.length := by omega
        simp only [List.filterMap_cons, List.filterMap_nil, e4]
        have e5 : xs.toArray[xs.length - 1 - n]? = some xs[xs.length - 1 - n] := by simp [hl]
        rw [e5]
        rw [List.take_succ]
        congr 1
        rw [List.getElem?_reverse (by omega)]
        simp [hl]
    rw [key items.length items (Nat.le_refl _)]
    rw [List.take_of_length_le (by simp)]
  rw [e3]
  have hsz' : sizeOk (.seq items.reverse.toArray) := by
    show items.reverse.toArray.size ≤ sizeLine
    simpa using hsz
  first
    | exact wpAny_bind (m := Builtin.Tuple.tupleExact _) (wpAny_newObj_type (wpAny_pure ⟨_, rfl, wpAny_pure h⟩) hsz')
    | exact wpAny_bind (m := Builtin.Tuple.tupleExact _) (wpAny_newObj_type (wpAny_bind (wpAny_pure (wpAny_pure ⟨_, rfl, wpAny_pure h⟩))) hsz')
    | exact wpAny_bind (wpAny_bind (m := Builtin.Tuple.tupleExact _) (wpAny_newObj_type (wpAny_pure (wpAny_pure ⟨_, rfl, wpAny_pure h⟩)) hsz'))
    | exact wpAny_bind (wpAny_bind (m := Builtin.Tuple.tupleExact _) (wpAny_newObj_type (wpAny_pure ⟨_, rfl, wpAny_pure h⟩) hsz'))
theorem Vals.reverse : ∀ {xs : List V} {us : List Value}, Vals xs us → Vals xs.reverse us.reverse
  | _, _, .nil => .nil
  | _, _, .cons r t => by
    rw [List.reverse_cons, List.reverse_cons]
    exact (Vals.reverse t).append (.cons r .nil)
def tRevT (K : PySem.W.Frag) (te : TE) : TE := fun σ H Q => te σ H fun x H1 => ∃ a xs, x = .ref a ∧ SqT K H1 a xs ∧ ∀ p, H1 p = none → Q (.ref p) (upd H1 p (.tup xs.reverse))
theorem pe_revT {e : Expr} {te : TE} {k : Nat} {p1 p2 p3 pos : Pos} (he : PE X e te) : PE X (.Subscript e (.Slice none none (some (.UnaryOp .USub (.Constant (.int 1) k p1) p2)) p3) pos) (tRevT X.K te) := by
  refine ⟨fun pins s σ H Q I h => ?_⟩
  refine Subscript_ (thn (he.run pins s σ H _ I h) fun v s1 ⟨x, H1, I1, r1, q1⟩ => ?_)
  obtain ⟨a, xs, ex, hx, q⟩ := q1
  subst ex
  cases r1
  have hst : PO X (some (.UnaryOp .USub (.Constant (.int 1) k p1) p2)) (tPart (tUn (rU fun i => .int (-i)) (tC (.int 1)))) := po_some (pe_un un_neg pe_int)
  refine wpAny_Slice (thn (po_none.run pins s1 σ H1 (fun o H2 => o = none ∧ H2 = H1) I1 ⟨rfl, rfl⟩) fun vl s2 ⟨l, H2, I2, pl, el, e2⟩ => ?_)
  subst el e2
  refine thn (po_none.run pins s2 σ H2 (fun o H3 => o = none ∧ H3 = H2) I2 ⟨rfl, rfl⟩) fun vu s3 ⟨u, H3, I3, pu, eu, e3⟩ => ?_
  subst eu e3
  refine thn (hst.run pins s3 σ H3 (fun o H4 => o = some (-1) ∧ H4 = H3) I3 ⟨1, rfl, -1, rfl, rfl, rfl⟩) fun vs s4 ⟨o, H4, I4, ps, eo, e4⟩ => ?_
  subst eo e4
  have evl : vl = .none := by cases pl; rfl
  have evu : vu = .none := by cases pu; rfl
  obtain ⟨tk, evs⟩ : ∃ tk, vs = Value.int (-1) tk := by cases ps; exact ⟨_, rfl⟩
  subst evl evu evs
  have I5 : Inv X pins σ H4 { s4 with heap := s4.heap.push { cls := .type "slice", data := .fields #[.none, .none, .int (-1) tk] } } := I4.kept (t' := s4.toks) fun b ob q => Heap.get?_push_of_some _ q
  obtain ⟨its, r, ht, hz⟩ := I5.tuple hx
  have hlen := r.length
  show wpAny (model X.prog X.w) X.A (subscriptTail e (.Slice none none (some (.UnaryOp .USub (.Constant (.int 1) k p1) p2)) p3) (.ref a) (.ref s4.heap.objs.size)) (EP X pins σ Q) X.xe { s4 with heap := s4.heap.push { cls := .type "slice", data := .fields #[.none, .none, .int (-1) tk] } }
  refine tail_any (ops := [.ref a, .ref s4.heap.objs.size]) ht.typeIs (PyProof.Rows.slot_tuple_getitem.lookup) ?_ (by with_unfolding_all rfl)
  refine getItem_tuple_rev ht (Heap.IsSliceOf.new _ .none .none (.int (-1) tk)) ?_ (by omega)
  refine ⟨.ref _, _, I5.laid (t' := s4.toks) (o := .tup xs.reverse) (fun b ob q => Heap.get?_push_of_some _ q) (Nat.le_refl _) ?_, rfl, q _ (I5.hok.fresh (Nat.le_refl _))⟩
  exact ⟨by rw [List.length_reverse]; exact hz, _, Vals.reverse r, IsTup.new _ _⟩
def mRevT (ma : ME) : ME := fun ρ => (fz ma ρ).bind fun p => match p.1 with
  | .tup ds => some (.val (.tup ds.reverse), p.2)
  | _ => none
theorem em_revT {e : Expr} {k : Nat} {p1 p2 p3 pos : Pos} {ma : ME} (ha : Em X e ma) : Em X (.Subscript e (.Slice none none (some (.UnaryOp .USub (.Constant (.int 1) k p1) p2)) p3) pos) (mRevT ma) :=
  PE_imp (pe_revT ha.fz) fun σ H Q ⟨F0, Z, B, F, ρ, dv, ρ', R, e, kk⟩ => by
    obtain ⟨⟨x, ρ1⟩, e1, e⟩ := Option.bind_eq_some_iff.mp e
    refine tOfV_of R e1 fun v H1 F1 R1 s1 r1 => ?_
    split at e
    · rename_i ds hd
      cases (show x = .tup ds from hd)
      cases e
      unfold Rep at r1
      obtain ⟨b, xs, rfl, q1, q2⟩ := r1
      refine ⟨b, xs, rfl, SqT_mono R1.sub q1, fun p hp => ?_⟩
      obtain ⟨R5, s5, r5⟩ := new_tup R1 hp q2.reverse
      exact kk _ _ _ R5 (s1.trans s5) r5
    · cases e
end
end Cb

set_option Elab.async false
set_option linter.all false
set_option maxRecDepth 100000
/-! Rules: built-in calls. -/
namespace Cb
open PySem PySem.Spec PyProof.Rows L2
section
variable {X : Cx}
def CallS (K : PySem.W.Frag) (r : List V → Hp → VK → Prop) (f : List D → Option DV) : Prop := ∀ (F0 Z : Hp) (B : Nat → Addr) (σ : L2.St) (H F : Hp) (ρ : En) (ds : List D) (vs : List V) (dv : DV) (Q : VK), Rel K F0 Z B σ H F ρ → Reps K F ds vs → f ds = some dv →
  (∀ w H' F', Rel K F0 Z B σ H' F' ρ → Same F F' → ResOk K Z σ ρ H' F' w dv → Q w H') → r vs H Q
def mB (f : List D → Option DV) (ms : MA) : ME := fun ρ => (ms ρ).bind fun p => (f p.1).map fun dv => (dv, p.2)
theorem runB {K : PySem.W.Frag} {r : List V → Hp → VK → Prop} {f : List D → Option DV} {ms : MA} (cs : CallS K r f) {σ : L2.St} {H : Hp} {Q : VK} (h : tOf K (mB f ms) σ H Q) : tCB r (tAOf K ms) σ H Q := by
  obtain ⟨F0, Z, B, F, ρ, dv, ρ', R, e, k⟩ := h
  obtain ⟨⟨ds, ρ1⟩, e1, e2⟩ := Option.bind_eq_some_iff.mp e
  obtain ⟨w, e3, e4⟩ := Option.map_eq_some_iff.mp e2
  cases e4
  exact tAOf_of R e1 fun vs H1 F1 R1 s1 r1 => cs F0 Z B σ H1 F1 ρ1 ds vs dv Q R1 r1 e3 fun w H' F' R' s' rr => k w H' F' R' (s1.trans s') rr
theorem em_callB {x : Str} {p pos : Pos} {e : Expr} {es : List Expr} {ms : MA} {id : String} {r : List V → Hp → VK → Prop} {f : List D → Option DV} (hc : CallR X (.builtin id) r) (cs : CallS X.K r f) (hg : Gl X x) (hm : X.mg x = none) (hv : bootBuiltins x = some (.builtin id)) (ha : Am X (e :: es) ms)
    (hn : x ≠ "__name__" := by decide) (hdb : (x == ("__debug__" : Str)) = false := by decide) (he : starEach (e :: es) X.env = (false, eval e X.env) :: starEach es X.env := by rfl) (hpl : (backTo pos (starEach es X.env)).any (·.1) = false := by rfl) :
    Em X (.Call (.Name x p) (e :: es) [] pos) (mB f ms) := PE_imp (pe_callB hc hg hm hv ha hn hdb he hpl) fun _ _ _ h => runB cs h
theorem em_callTy {x : Str} {p pos : Pos} {e : Expr} {es : List Expr} {ms : MA} {T : String} {r : List V → Hp → VK → Prop} {f : List D → Option DV} (hc : CallR X (.type T) r) (cs : CallS X.K r f) (hg : Gl X x) (hm : X.mg x = none) (hv : bootBuiltins x = some (.type T)) (ha : Am X (e :: es) ms)
    (hn : x ≠ "__name__" := by decide) (hdb : (x == ("__debug__" : Str)) = false := by decide) (he : starEach (e :: es) X.env = (false, eval e X.env) :: starEach es X.env := by rfl) (hpl : (backTo pos (starEach es X.env)).any (·.1) = false := by rfl) :
    Em X (.Call (.Name x p) (e :: es) [] pos) (mB f ms) := PE_imp (pe_callTy hc hg hm hv ha hn hdb he hpl) fun _ _ _ h => runB cs h
theorem CallR_or {f : Value} {r r' : List V → Hp → VK → Prop} (h : CallR X f r) (h' : CallR X f r') : CallR X f (fun xs H Q => r xs H Q ∨ r' xs H Q) := by
  intro pins s σ H xs us Q I rx q
  rcases q with q | q
  · exact h pins s σ H xs us Q I rx q
  · exact h' pins s σ H xs us Q I rx q
theorem rep_int {K : PySem.W.Frag} {F : Hp} {i : Int} : Rep K F (.int i) (.int i) := by unfold Rep; rfl
theorem rep_bl {K : PySem.W.Frag} {F : Hp} {i : Bool} : Rep K F (.bl i) (.bl i) := by unfold Rep; rfl
theorem rep_str {K : PySem.W.Frag} {F : Hp} {i : Str} : Rep K F (.str i) (.str i) := by unfold Rep; rfl
theorem res_int {K : PySem.W.Frag} {Z : Hp} {σ : L2.St} {ρ : En} {H F : Hp} {i : Int} : ResOk K Z σ ρ H F (.int i) (.val (.int i)) := rep_int (K := K) (F := F)
theorem res_bl {K : PySem.W.Frag} {Z : Hp} {σ : L2.St} {ρ : En} {H F : Hp} {i : Bool} : ResOk K Z σ ρ H F (.bl i) (.val (.bl i)) := rep_bl (K := K) (F := F)
theorem res_str {K : PySem.W.Frag} {Z : Hp} {σ : L2.St} {ρ : En} {H F : Hp} {i : Str} : ResOk K Z σ ρ H F (.str i) (.val (.str i)) := rep_str (K := K) (F := F)
theorem reps1 {K : PySem.W.Frag} {F : Hp} {d : D} {vs : List V} (r : Reps K F [d] vs) : ∃ v, vs = [v] ∧ Rep K F d v := by
  obtain ⟨v, t, rfl, r1, r2⟩ := r.of_cons
  rw [r2.of_nil]; exact ⟨v, rfl, r1⟩
theorem reps2 {K : PySem.W.Frag} {F : Hp} {d e : D} {vs : List V} (r : Reps K F [d, e] vs) : ∃ v u, vs = [v, u] ∧ Rep K F d v ∧ Rep K F e u := by
  obtain ⟨v, t, rfl, r1, r2⟩ := r.of_cons
  obtain ⟨u, rfl, r3⟩ := reps1 r2
  exact ⟨v, u, rfl, r1, r3⟩
theorem reps3 {K : PySem.W.Frag} {F : Hp} {d e f : D} {vs : List V} (r : Reps K F [d, e, f] vs) : ∃ v u w, vs = [v, u, w] ∧ Rep K F d v ∧ Rep K F e u ∧ Rep K F f w := by
  obtain ⟨v, t, rfl, r1, r2⟩ := r.of_cons
  obtain ⟨u, w, rfl, r3, r4⟩ := reps2 r2
  exact ⟨v, u, w, rfl, r1, r3, r4⟩
theorem sq_of {K : PySem.W.Frag} {F H : Hp} {ds : List D} {v : V} (s : Same F H) (r : Rep K F (.lst ds) v) : ∃ a xs, v = .ref a ∧ SqL K H a xs ∧ Reps K F ds xs := by
  unfold Rep at r
  obtain ⟨a, xs, e, h1, h2⟩ := r
  exact ⟨a, xs, e, .of (s _ _ h1), h2⟩
theorem st_of {K : PySem.W.Frag} {F H : Hp} {ds : List D} {v : V} (s : Same F H) (r : Rep K F (.tup ds) v) : ∃ a xs, v = .ref a ∧ SqT K H a xs ∧ Reps K F ds xs := by
  unfold Rep at r
  obtain ⟨a, xs, e, h1, h2⟩ := r
  exact ⟨a, xs, e, SqT_mono s h1, h2⟩
/-! ### len -/
def dLen : List D → Option DV
  | [.lst ds] => some (.val (.int ds.length))
  | [.tup ds] => some (.val (.int ds.length))
  | [.scr ns] => some (.val (.int ns.length))
  | [.str z] => if z.length ≤ line then some (.val (.int z.length)) else none
  | _ => none
theorem cs_len {K : PySem.W.Frag} : CallS K (fun xs H Q => ∃ x n, xs = [x] ∧ LenV K x H n ∧ Q (.int n) H) dLen := fun F0 Z B σ H F ρ ds vs dv Q R r e k => by
  unfold dLen at e
  split at e
  · rename_i ds
    obtain ⟨v, rfl, r1⟩ := reps1 r
    obtain ⟨a, xs, rfl, h1, h2⟩ := sq_of R.sub r1
    cases e
    exact ⟨_, ds.length, rfl, .inl ⟨xs, h1, h2.length.symm⟩, k _ H F R (Same.refl _) res_int⟩
  · rename_i ds
    obtain ⟨v, rfl, r1⟩ := reps1 r
    obtain ⟨a, xs, rfl, h1, h2⟩ := st_of R.sub r1
    cases e
    exact ⟨_, ds.length, rfl, .inr ⟨xs, h1, h2.length.symm⟩, k _ H F R (Same.refl _) res_int⟩
  · rename_i ns
    obtain ⟨v, rfl, r1⟩ := reps1 r
    unfold Rep at r1
    obtain ⟨a, rfl, h1⟩ := r1
    cases e
    exact ⟨_, ns.length, rfl, .inl ⟨_, R.sub.seq h1, by simp⟩, k _ H F R (Same.refl _) res_int⟩
  · rename_i z
    obtain ⟨v, rfl, r1⟩ := reps1 r
    unfold Rep at r1
    subst r1
    obtain ⟨hz, rfl⟩ := ite_some e
    exact ⟨_, z.length, rfl, ⟨by rw [← line_eq]; exact hz, rfl⟩, k _ H F R (Same.refl _) res_int⟩
  · cases e
/-- len of a name, which stays as it is -/
def dLen1 : D → Option D
  | .lst ds => some (.int ds.length)
  | .tup ds => some (.int ds.length)
  | .scr ns => some (.int ns.length)
  | _ => none
def mLenS (i : Nat) : ME := fun ρ => (peek ρ i).bind fun x => (dLen1 x).map fun d => (.val d, ρ)
theorem em_lenS {i : Nat} {x y : Str} {p px pos : Pos} (hg : Gl X y) (hm : X.mg y = none) (hv : bootBuiltins y = some (.builtin "len")) (ha : PE X (.Name x px) (tVar i))
    (hn : y ≠ "__name__" := by decide) (hdb : (y == ("__debug__" : Str)) = false := by decide) (he : starEach [.Name x px] X.env = (false, eval (.Name x px) X.env) :: starEach [] X.env := by rfl) (hpl : (backTo pos (starEach [] X.env)).any (·.1) = false := by rfl) :
    Em X (.Call (.Name y p) [.Name x px] [] pos) (mLenS i) := PE_imp (pe_callB call_len hg hm hv (pa_cons ha pa_nil he) hn hdb he hpl) fun σ H Q ⟨F0, Z, B, F, ρ, dv, ρ', R, e, k⟩ => by
  obtain ⟨x0, e0, e1⟩ := Option.bind_eq_some_iff.mp e
  obtain ⟨d, e2, e3⟩ := Option.map_eq_some_iff.mp e1
  cases e3
  obtain ⟨v, ev, rv⟩ := peek_ok R e0
  refine ⟨v, ev, ?_⟩
  cases x0 with
  | lst ds =>
    cases e2
    have : ∃ a xs, v = .ref a ∧ SqL X.K H a xs ∧ Reps X.K F ds xs := by
      rcases rv with rv | ⟨a, ea, xs, h1, h2⟩
      · exact sq_of R.sub rv
      · exact ⟨a, xs, ea, .of h1, h2⟩
    obtain ⟨a, xs, rfl, h1, h2⟩ := this
    exact ⟨_, ds.length, rfl, .inl ⟨xs, h1, h2.length.symm⟩, k _ H F R (Same.refl _) res_int⟩
  | tup ds =>
    cases e2
    rcases rv with rv | ⟨a, ea, rv⟩
    · obtain ⟨a, xs, rfl, h1, h2⟩ := st_of R.sub rv
      exact ⟨_, ds.length, rfl, .inr ⟨xs, h1, h2.length.symm⟩, k _ H F R (Same.refl _) res_int⟩
    · exact rv.elim
  | scr ns =>
    cases e2
    rcases rv with rv | ⟨a, ea, rv⟩
    · unfold Rep at rv
      obtain ⟨a, rfl, h1⟩ := rv
      exact ⟨_, ns.length, rfl, .inl ⟨_, R.sub.seq h1, by simp⟩, k _ H F R (Same.refl _) res_int⟩
    · exact rv.elim
  | _ => cases e2
/-! ### abs, int, max, min, sum, all, any -/
def dAbs : List D → Option DV
  | [.int i] => some (.val (.int (if i < 0 then -i else i)))
  | _ => none
theorem cs_abs {K : PySem.W.Frag} : CallS K (fun xs H Q => ∃ i, xs = [.int i] ∧ Q (.int (if i < 0 then -i else i)) H) dAbs := fun F0 Z B σ H F ρ ds vs dv Q R r e k => by
  match ds, e with
  | [.int i], e =>
    obtain ⟨v, rfl, r1⟩ := reps1 r
    unfold Rep at r1; subst r1
    cases e
    exact ⟨i, rfl, k _ H F R (Same.refl _) res_int⟩
def dInt : List D → Option DV
  | [.int i] => some (.val (.int i))
  | [.bl b] => some (.val (.int (if b then 1 else 0)))
  | _ => none
theorem cs_int {K : PySem.W.Frag} : CallS K (fun xs H Q => (∃ i, xs = [.int i] ∧ Q (.int i) H) ∨ ∃ k, xs = [.bl k] ∧ Q (.int (if k then 1 else 0)) H) dInt := fun F0 Z B σ H F ρ ds vs dv Q R r e k => by
  match ds, e with
  | [.int i], e =>
    obtain ⟨v, rfl, r1⟩ := reps1 r
    unfold Rep at r1; subst r1
    cases e
    exact .inl ⟨i, rfl, k _ H F R (Same.refl _) res_int⟩
  | [.bl i], e =>
    obtain ⟨v, rfl, r1⟩ := reps1 r
    unfold Rep at r1; subst r1
    cases e
    exact .inr ⟨i, rfl, k _ H F R (Same.refl _) res_int⟩
theorem call_max3 (hc : X.calm = true) : CallR X (.builtin "max") (fun xs H Q => ∃ i j l, xs = [.int i, .int j, .int l] ∧ Q (.int (if j > i then (if l > j then l else j) else (if l > i then l else i))) H) := by
  intro pins s σ H xs us Q I r h
  obtain ⟨i, j, l, rfl, q⟩ := h
  cases r with
  | cons r1 r =>
    obtain ⟨u, w', rfl, ⟨t', rfl⟩, ⟨t'', rfl⟩⟩ := vals2 r
    obtain ⟨t, rfl⟩ := r1
    refine max_three_ints (I.ok.hd hc) fun h' tk k => ⟨_, H, I.kept k, ?_, q⟩
    split <;> split <;> exact ⟨_, rfl⟩
theorem call_min3 (hc : X.calm = true) : CallR X (.builtin "min") (fun xs H Q => ∃ i j l, xs = [.int i, .int j, .int l] ∧ Q (.int (if j < i then (if l < j then l else j) else (if l < i then l else i))) H) := by
  intro pins s σ H xs us Q I r h
  obtain ⟨i, j, l, rfl, q⟩ := h
  cases r with
  | cons r1 r =>
    obtain ⟨u, w', rfl, ⟨t', rfl⟩, ⟨t'', rfl⟩⟩ := vals2 r
    obtain ⟨t, rfl⟩ := r1
    refine min_three_ints (I.ok.hd hc) fun h' tk k => ⟨_, H, I.kept k, ?_, q⟩
    split <;> split <;> exact ⟨_, rfl⟩
def dMax : List D → Option DV
  | [.int i, .int j] => some (.val (.int (max i j)))
  | [.int i, .int j, .int l] => some (.val (.int (max (max i j) l)))
  | [.lst ds] => (intsOf ds).bind fun ns => (ns.max?).map fun m => .val (.int m)
  | _ => none
def dMin : List D → Option DV
  | [.int i, .int j] => some (.val (.int (min i j)))
  | [.int i, .int j, .int l] => some (.val (.int (min (min i j) l)))
  | [.lst ds] => (intsOf ds).bind fun ns => (ns.min?).map fun m => .val (.int m)
  | _ => none
def rMaxA (K : PySem.W.Frag) : List V → Hp → VK → Prop := fun xs H Q => (∃ i j, xs = [.int i, .int j] ∧ Q (.int (if j > i then j else i)) H) ∨ (∃ i j l, xs = [.int i, .int j, .int l] ∧ Q (.int (if j > i then (if l > j then l else j) else (if l > i then l else i))) H) ∨ rMax K xs H Q
def rMinA (K : PySem.W.Frag) : List V → Hp → VK → Prop := fun xs H Q => (∃ i j, xs = [.int i, .int j] ∧ Q (.int (if j < i then j else i)) H) ∨ (∃ i j l, xs = [.int i, .int j, .int l] ∧ Q (.int (if j < i then (if l < j then l else j) else (if l < i then l else i))) H) ∨ rMin K xs H Q
theorem call_maxA (hc : X.calm = true) : CallR X (.builtin "max") (rMaxA X.K) := CallR_or (call_max2 hc) (CallR_or (call_max3 hc) (cr_max hc))
theorem call_minA (hc : X.calm = true) : CallR X (.builtin "min") (rMinA X.K) := CallR_or (call_min2 hc) (CallR_or (call_min3 hc) (cr_min hc))
theorem cs_max {K : PySem.W.Frag} : CallS K (rMaxA K) dMax := fun F0 Z B σ H F ρ ds vs dv Q R r e k => by
  match ds, e with
  | [.int i, .int j], e =>
    obtain ⟨v, u, rfl, r1, r2⟩ := reps2 r
    unfold Rep at r1 r2; subst r1 r2
    cases e
    refine .inl ⟨i, j, rfl, ?_⟩
    have : (if j > i then j else i) = max i j := by split <;> omega
    rw [this]
    exact k _ H F R (Same.refl _) res_int
  | [.int i, .int j, .int l], e =>
    obtain ⟨v, u, w, rfl, r1, r2, r3⟩ := reps3 r
    unfold Rep at r1 r2 r3; subst r1 r2 r3
    cases e
    refine .inr (.inl ⟨i, j, l, rfl, ?_⟩)
    have : (if j > i then (if l > j then l else j) else (if l > i then l else i)) = max (max i j) l := by split <;> split <;> omega
    rw [this]
    exact k _ H F R (Same.refl _) res_int
  | [.lst ds], e =>
    obtain ⟨v, rfl, r1⟩ := reps1 r
    obtain ⟨a, xs, rfl, h1, h2⟩ := sq_of R.sub r1
    obtain ⟨ns, e1, e2⟩ := Option.bind_eq_some_iff.mp (show (intsOf ds).bind (fun ns => (ns.max?).map fun m => DV.val (.int m)) = some dv from e)
    obtain ⟨m, e3, e4⟩ := Option.map_eq_some_iff.mp e2
    subst e4
    have ex := h2.intsOf e1
    subst ex
    refine .inr (.inr ⟨a, ns, rfl, h1, ?_, fun m' hm' hall => ?_⟩)
    · cases ns with
      | nil => cases e3
      | cons n ns => exact Nat.succ_pos _
    · have := List.max?_eq_some_iff.mp e3
      have : m = m' := by
        have h3 := hall m this.1
        have h4 := this.2 m' hm'
        omega
      subst this
      exact k _ H F R (Same.refl _) res_int
theorem cs_min {K : PySem.W.Frag} : CallS K (rMinA K) dMin := fun F0 Z B σ H F ρ ds vs dv Q R r e k => by
  match ds, e with
  | [.int i, .int j], e =>
    obtain ⟨v, u, rfl, r1, r2⟩ := reps2 r
    unfold Rep at r1 r2; subst r1 r2
    cases e
    refine .inl ⟨i, j, rfl, ?_⟩
    have : (if j < i then j else i) = min i j := by split <;> omega
    rw [this]
    exact k _ H F R (Same.refl _) res_int
  | [.int i, .int j, .int l], e =>
    obtain ⟨v, u, w, rfl, r1, r2, r3⟩ := reps3 r
    unfold Rep at r1 r2 r3; subst r1 r2 r3
    cases e
    refine .inr (.inl ⟨i, j, l, rfl, ?_⟩)
    have : (if j < i then (if l < j then l else j) else (if l < i then l else i)) = min (min i j) l := by split <;> split <;> omega
    rw [this]
    exact k _ H F R (Same.refl _) res_int
  | [.lst ds], e =>
    obtain ⟨v, rfl, r1⟩ := reps1 r
    obtain ⟨a, xs, rfl, h1, h2⟩ := sq_of R.sub r1
    obtain ⟨ns, e1, e2⟩ := Option.bind_eq_some_iff.mp (show (intsOf ds).bind (fun ns => (ns.min?).map fun m => DV.val (.int m)) = some dv from e)
    obtain ⟨m, e3, e4⟩ := Option.map_eq_some_iff.mp e2
    subst e4
    have ex := h2.intsOf e1
    subst ex
    refine .inr (.inr ⟨a, ns, rfl, h1, ?_, fun m' hm' hall => ?_⟩)
    · cases ns with
      | nil => cases e3
      | cons n ns => exact Nat.succ_pos _
    · have := List.min?_eq_some_iff.mp e3
      have : m = m' := by
        have h3 := hall m this.1
        have h4 := this.2 m' hm'
        omega
      subst this
      exact k _ H F R (Same.refl _) res_int
def dSum : List D → Option DV
  | [.lst ds] => (intsOf ds).map fun ns => .val (.int ns.sum)
  | _ => none
theorem cs_sum {K : PySem.W.Frag} : CallS K (rSum K) dSum := fun F0 Z B σ H F ρ ds vs dv Q R r e k => by
  match ds, e with
  | [.lst ds], e =>
    obtain ⟨v, rfl, r1⟩ := reps1 r
    obtain ⟨a, xs, rfl, h1, h2⟩ := sq_of R.sub r1
    obtain ⟨ns, e1, e2⟩ := Option.map_eq_some_iff.mp (show (intsOf ds).map (fun ns => DV.val (.int ns.sum)) = some dv from e)
    subst e2
    have ex := h2.intsOf e1
    subst ex
    exact ⟨a, ns, rfl, h1, k _ H F R (Same.refl _) res_int⟩
def dAll : List D → Option DV
  | [.lst ds] => (boolsOf ds).map fun bs => .val (.bl (bs.all id))
  | _ => none
def dAny : List D → Option DV
  | [.lst ds] => (boolsOf ds).map fun bs => .val (.bl (bs.any id))
  | _ => none
theorem cs_all {K : PySem.W.Frag} : CallS K (rAll K) dAll := fun F0 Z B σ H F ρ ds vs dv Q R r e k => by
  match ds, e with
  | [.lst ds], e =>
    obtain ⟨v, rfl, r1⟩ := reps1 r
    obtain ⟨a, xs, rfl, h1, h2⟩ := sq_of R.sub r1
    obtain ⟨ns, e1, e2⟩ := Option.map_eq_some_iff.mp (show (boolsOf ds).map (fun bs => DV.val (.bl (bs.all id))) = some dv from e)
    subst e2
    have ex := h2.boolsOf e1
    subst ex
    exact ⟨a, ns, rfl, h1, k _ H F R (Same.refl _) res_bl⟩
theorem cs_any {K : PySem.W.Frag} : CallS K (rAny K) dAny := fun F0 Z B σ H F ρ ds vs dv Q R r e k => by
  match ds, e with
  | [.lst ds], e =>
    obtain ⟨v, rfl, r1⟩ := reps1 r
    obtain ⟨a, xs, rfl, h1, h2⟩ := sq_of R.sub r1
    obtain ⟨ns, e1, e2⟩ := Option.map_eq_some_iff.mp (show (boolsOf ds).map (fun bs => DV.val (.bl (bs.any id))) = some dv from e)
    subst e2
    have ex := h2.boolsOf e1
    subst ex
    exact ⟨a, ns, rfl, h1, k _ H F R (Same.refl _) res_bl⟩
/-! ### list, tuple -/
def dList : List D → Option DV
  | [.lst ds] => some (.own (.lst ds))
  | [.tup ds] => some (.own (.lst ds))
  | _ => none
theorem cs_list {K : PySem.W.Frag} : CallS K (fun xs H Q => ∃ p ys, xs = [.ref p] ∧ (SqL K H p ys ∨ SqT K H p ys) ∧ ∀ l, H l = none → Q (.ref l) (upd H l (.lst ys))) dList := fun F0 Z B σ H F ρ ds vs dv Q R r e k => by
  match ds, e with
  | [.lst ds], e =>
    obtain ⟨v, rfl, r1⟩ := reps1 r
    obtain ⟨a, xs, rfl, h1, h2⟩ := sq_of R.sub r1
    cases e
    refine ⟨a, xs, rfl, .inl h1, fun p hp => ?_⟩
    obtain ⟨R4, r4⟩ := new_lst R hp h2
    exact k _ _ _ R4 (Same.refl _) r4
  | [.tup ds], e =>
    obtain ⟨v, rfl, r1⟩ := reps1 r
    obtain ⟨a, xs, rfl, h1, h2⟩ := st_of R.sub r1
    cases e
    refine ⟨a, xs, rfl, .inr h1, fun p hp => ?_⟩
    obtain ⟨R4, r4⟩ := new_lst R hp h2
    exact k _ _ _ R4 (Same.refl _) r4
def dTuple : List D → Option DV
  | [.lst ds] => some (.val (.tup ds))
  | [.tup ds] => some (.val (.tup ds))
  | _ => none
theorem cs_tuple {K : PySem.W.Frag} : CallS K (fun xs H Q => ∃ p ys, xs = [.ref p] ∧ ((SqL K H p ys ∧ ∀ l, H l = none → Q (.ref l) (upd H l (.tup ys))) ∨ (SqT K H p ys ∧ Q (.ref p) H))) dTuple := fun F0 Z B σ H F ρ ds vs dv Q R r e k => by
  match ds, e with
  | [.lst ds], e =>
    obtain ⟨v, rfl, r1⟩ := reps1 r
    obtain ⟨a, xs, rfl, h1, h2⟩ := sq_of R.sub r1
    cases e
    refine ⟨a, xs, rfl, .inl ⟨h1, fun p hp => ?_⟩⟩
    obtain ⟨R4, s4, r4⟩ := new_tup R hp h2
    exact k _ _ _ R4 s4 r4
  | [.tup ds], e =>
    obtain ⟨v, rfl, r1⟩ := reps1 r
    have r0 := r1
    obtain ⟨a, xs, rfl, h1, h2⟩ := st_of R.sub r1
    cases e
    exact ⟨a, xs, rfl, .inr ⟨h1, k _ H F R (Same.refl _) r0⟩⟩
/-! ### list(range(..)) -/
def intsFT (a b : Int) : List D := (List.range (b - a).toNat).map fun i => D.int (a + (i : Nat))
theorem reps_rg {K : PySem.W.Frag} {F : Hp} (a b : Int) : Reps K F (intsFT a b) (rgV a b) := by
  unfold intsFT rgV
  generalize List.range (b - a).toNat = is
  induction is with
  | nil => exact .nil
  | cons i is ih => exact .cons rep_int ih
end
end Cb

set_option Elab.async false
set_option linter.all false
set_option maxRecDepth 100000
/-! Rules: calls of defs, isinstance, statements. -/
namespace Cb
open PySem PySem.Spec PyProof.Rows L2
section
variable {K : PySem.W.Frag} {F0 Z : Hp} {B : Nat → Addr} {σ : L2.St} {H F H' F' : Hp} {ρ : En}
/-- an object off the slots is kept meanwhile -/
theorem Rel.prot (R : Rel K F0 Z B σ H F ρ) {a : Addr} {o : HO} (hH : H a = some o) (off : Off σ ρ a) : Rel K F (upd Z a o) B σ H F ρ where
  len := R.len
  sub := R.sub
  zsub := fun b u e => by
    by_cases h : b = a
    · subst h; rw [upd_same] at e; rw [hH]; exact e
    · rw [upd_ne h] at e; exact R.zsub _ _ e
  base := fun b u e => .inl e
  slot := fun i dv e => by
    obtain ⟨v, e1, s⟩ := R.slot i dv e
    refine ⟨v, e1, ?_⟩
    have key : ∀ c, dv.owned = true → v = .ref c → Z c = none → upd Z a o c = none := fun c oc ec hz => by
      have : c ≠ a := fun z => off i dv e oc (by rw [e1, ec, z])
      rw [upd_ne this]; exact hz
    cases dv with
    | val d => exact s
    | own d => obtain ⟨c, ec, h1, h2, h3⟩ := s; exact ⟨c, ec, h1, key c rfl ec h2, h3⟩
    | bor d => obtain ⟨ec, h1, h2, h3⟩ := s; exact ⟨ec, h1, key _ rfl ec h2, h3⟩
  apart := R.apart
/-- behind it: the object stands, off the slots, not frozen -/
theorem Rel.unprot {F1 H1 : Hp} {ρ1 : En} {a : Addr} {o : HO} (R : Rel K F0 Z B σ H F ρ) (hF : F a = none) (hZ : Z a = none) (R1 : Rel K F (upd Z a o) B σ H1 F1 ρ1) : Rel K F0 Z B σ H1 F1 ρ1 ∧ H1 a = some o ∧ F1 a = none ∧ Off σ ρ1 a := by
  have hH1 : H1 a = some o := R1.zsub _ _ upd_same
  have hF1 : F1 a = none := by
    cases q : F1 a with
    | none => rfl
    | some u =>
      rcases R1.base _ _ q with z | z
      · rw [hF] at z; cases z
      · rw [upd_same] at z; cases z
  have off : Off σ ρ1 a := fun i di e oi es => by
    obtain ⟨v, e1, s⟩ := R1.slot i di e
    obtain ⟨c, ec, _, hz, _⟩ := s.addr oi
    rw [e1] at es
    have : v = .ref a := Option.some.inj (Option.some.inj es)
    rw [this] at ec; cases ec
    rw [upd_same] at hz; cases hz
  have zz : ∀ b u, Z b = some u → upd Z a o b = some u := fun b u e => by
    rw [upd_ne (ne_of_none e hZ)]; exact e
  have zn : ∀ b, upd Z a o b = none → Z b = none := fun b e => by
    cases q : Z b with
    | none => rfl
    | some u => rw [zz b u q] at e; cases e
  refine ⟨⟨R1.len, R1.sub, fun b u e => R1.zsub _ _ (zz b u e), fun b u e => ?_, fun i dv e => ?_, R1.apart⟩, hH1, hF1, off⟩
  · rcases R1.base b u e with z | z
    · exact R.base _ _ z
    · exact .inr (zn b z)
  · obtain ⟨v, e1, s⟩ := R1.slot i dv e
    refine ⟨v, e1, ?_⟩
    cases dv with
    | val d => exact s
    | own d => obtain ⟨c, ec, h1, h2, h3⟩ := s; exact ⟨c, ec, h1, zn _ h2, h3⟩
    | bor d => obtain ⟨ec, h1, h2, h3⟩ := s; exact ⟨ec, h1, zn _ h2, h3⟩
end

/-! ### what a def promises -/
def FRes (K : PySem.W.Frag) (H H' F' : Hp) (v : V) : DV → Prop
  | .val d => Rep K F' d v
  | .own d => ∃ a, v = .ref a ∧ F' a = none ∧ H a = none ∧ OwnRep K H' F' a d
  | .bor _ => False
structure Post (K : PySem.W.Frag) (io : Option Nat) (vs : List V) (H F : Hp) (r : DV) (o : D) (v : V) (H' F' : Hp) : Prop where
  same : Same F F'
  sub : Same F' H'
  new : ∀ a u, F' a = some u → F a = some u ∨ H a = none
  keep : ∀ a u, H a = some u → (∀ j, io = some j → vs[j]? ≠ some (V.ref a)) → H' a = some u
  out : ∀ j a, io = some j → vs[j]? = some (V.ref a) → F' a = none ∧ OwnRep K H' F' a o
  res : FRes K H H' F' v r
def spF (K : PySem.W.Frag) (io : Option Nat) (n : Nat) (φ : List D → Option (DV × D)) : Sp := fun vs H Q _ => vs.length = n ∧ ∃ F ds r o, Same F H ∧ ds.length = n ∧
  (∀ (j : Nat) (v : V) (d : D), vs[j]? = some v → ds[j]? = some d → (io ≠ some j → Rep K F d v) ∧ (io = some j → ∃ a, v = .ref a ∧ F a = none ∧ OwnRep K H F a d)) ∧ φ ds = some (r, o) ∧
  ∀ v H' F', Post K io vs H F r o v H' F' → Q v H'
def iniL (io : Option Nat) : Nat → List D → En
  | _, [] => []
  | j, d :: ds => (if io = some j then some (.bor d) else some (.val d)) :: iniL io (j + 1) ds
def ini (io : Option Nat) (n : Nat) (ds : List D) : En := iniL io 0 ds ++ List.replicate (n - ds.length) none
theorem iniL_length (io : Option Nat) : ∀ (j : Nat) (ds : List D), (iniL io j ds).length = ds.length
  | _, [] => rfl
  | j, d :: ds => by simp [iniL, iniL_length io (j + 1) ds]
theorem iniL_get (io : Option Nat) : ∀ (ds : List D) (j i : Nat), (iniL io j ds)[i]? = (ds[i]?).map fun d => if io = some (j + i) then some (.bor d) else some (.val d)
  | [], _, _ => by simp [iniL]
  | d :: ds, j, 0 => by simp [iniL]
  | d :: ds, j, i + 1 => by
    simp only [iniL, List.getElem?_cons_succ]
    rw [iniL_get io ds (j + 1) i]
    have : j + 1 + i = j + (i + 1) := by omega
    rw [this]
inductive Res where
  | nx (ρ : En) | rt (dv : DV) (ρ : En) | bk (ρ : En) | ct (ρ : En)
abbrev MS := En → Option Res
def outOf (io : Option Nat) (ρ : En) : Option D := match io with
  | none => some .non
  | some j => match ρ[j]? with
    | some (some (.bor d)) => some d
    | _ => none
def fin (io : Option Nat) : Res → Option (DV × D)
  | .rt dv ρ => (outOf io ρ).map fun o => (dv, o)
  | .nx ρ => (outOf io ρ).map fun o => (.val .non, o)
  | _ => none
def runFn (io : Option Nat) (n : Nat) (body : MS) (ds : List D) : Option (DV × D) := (body (ini io n ds)).bind (fin io)
def Hand (K : PySem.W.Frag) (F0 Z : Hp) (B : Nat → Addr) (F : Hp) (D : Ends) : Res → Prop
  | .nx ρ => ∀ σ' H' F', Rel K F0 Z B σ' H' F' ρ → Same F F' → D.nx σ' H'
  | .rt dv ρ => ∀ v σ' H' F', Rel K F0 Z B σ' H' F' ρ → Same F F' → ResOk K Z σ' ρ H' F' v dv → D.rt v H'
  | .bk ρ => ∀ σ' H' F', Rel K F0 Z B σ' H' F' ρ → Same F F' → D.bk σ' H'
  | .ct ρ => ∀ σ' H' F', Rel K F0 Z B σ' H' F' ρ → Same F F' → D.ct σ' H'
theorem Hand.mono {K : PySem.W.Frag} {F0 Z : Hp} {B : Nat → Addr} {F F1 : Hp} {D : Ends} {r : Res} (h : Hand K F0 Z B F D r) (s : Same F F1) : Hand K F0 Z B F1 D r := by
  cases r with
  | nx ρ => exact fun σ' H' F' R s' => h σ' H' F' R (s.trans s')
  | rt dv ρ => exact fun v σ' H' F' R s' => h v σ' H' F' R (s.trans s')
  | bk ρ => exact fun σ' H' F' R s' => h σ' H' F' R (s.trans s')
  | ct ρ => exact fun σ' H' F' R s' => h σ' H' F' R (s.trans s')
def tSOf (K : PySem.W.Frag) (m : MS) : TS := fun D σ H => ∃ F0 Z B F ρ r, Rel K F0 Z B σ H F ρ ∧ m ρ = some r ∧ Hand K F0 Z B F D r
abbrev Sm (X : Cx) (st : Stmt) (m : MS) : Prop := PS X st (tSOf X.K m)
abbrev Ss (X : Cx) (sts : List Stmt) (m : MS) : Prop := PSs X sts (tSOf X.K m)
theorem PS_imp {X : Cx} {st : Stmt} {t t' : TS} (h : PS X st t) (i : ∀ D σ H, t' D σ H → t D σ H) : PS X st t' := ⟨fun pins s σ H D I q => h.run pins s σ H D I (i _ _ _ q)⟩
theorem PSs_imp {X : Cx} {st : List Stmt} {t t' : TS} (h : PSs X st t) (i : ∀ D σ H, t' D σ H → t D σ H) : PSs X st t' := ⟨fun pins s σ H D I q => h.run pins s σ H D I (i _ _ _ q)⟩
theorem tSOf_of {K : PySem.W.Frag} {m : MS} {F0 Z : Hp} {B : Nat → Addr} {σ : L2.St} {H F : Hp} {ρ : En} {r : Res} {D : Ends} (R : Rel K F0 Z B σ H F ρ) (e : m ρ = some r) (h : Hand K F0 Z B F D r) : tSOf K m D σ H := ⟨F0, Z, B, F, ρ, r, R, e, h⟩
section
variable {P : Program} {w : World} {K : PySem.W.Frag} {mg : Str → Option Value} {base : Heap}
theorem start_get {N : List Str} {vs : List V} {i : Nat} {v : V} (h : vs[i]? = some v) : (L2.start N vs)[i]? = some (some v) := by
  unfold L2.start
  have hi : i < vs.length := (List.getElem?_eq_some_iff.mp h).1
  rw [List.getElem?_append_left (by simpa using hi), List.getElem?_map, h]; rfl
theorem rel_start {N : List Str} {io : Option Nat} {n : Nat} {vs : List V} {H F : Hp} {ds : List D} (hn : n ≤ N.length) (hv : vs.length = n) (hd : ds.length = n) (s : Same F H)
    (h : ∀ (j : Nat) (v : V) (d : D), vs[j]? = some v → ds[j]? = some d → (io ≠ some j → Rep K F d v) ∧ (io = some j → ∃ a, v = .ref a ∧ F a = none ∧ OwnRep K H F a d)) :
    ∃ Z B, Rel K F Z B (L2.start N vs) H F (ini io N.length ds) ∧ (∀ a, Z a = none → H a = none ∨ ∃ j, io = some j ∧ vs[j]? = some (.ref a)) ∧ (∀ a u, H a = some u → (∀ j, io = some j → vs[j]? ≠ some (V.ref a)) → Z a = some u) ∧
      (∀ j a, io = some j → vs[j]? = some (.ref a) → B j = a) := by
  classical
  let Z : Hp := fun a => if ∃ j, io = some j ∧ vs[j]? = some (.ref a) then none else H a
  let B : Nat → Addr := fun j => match vs[j]? with
    | some (.ref a) => a
    | _ => 0
  have get : ∀ (i : Nat) (dv : DV), (ini io N.length ds)[i]? = some (some dv) → ∃ d v, ds[i]? = some d ∧ vs[i]? = some v ∧ dv = (if io = some i then .bor d else .val d) := fun i dv e => by
    unfold ini at e
    have hi : i < ds.length := by
      by_cases hi : i < ds.length
      · exact hi
      · rw [List.getElem?_append_right (by rw [iniL_length]; omega), List.getElem?_replicate] at e
        split at e <;> cases e
    rw [List.getElem?_append_left (by rw [iniL_length]; exact hi), iniL_get] at e
    have h1 : ds[i]? = some ds[i] := List.getElem?_eq_getElem hi
    have hi2 : i < vs.length := by omega
    have h2 : vs[i]? = some vs[i] := List.getElem?_eq_getElem hi2
    refine ⟨_, _, h1, h2, ?_⟩
    rw [h1] at e
    simp only [Option.map_some, Nat.zero_add, Option.some.injEq] at e
    by_cases hio : io = some i
    · rw [if_pos hio] at e ⊢; exact (Option.some.inj e).symm
    · rw [if_neg hio] at e ⊢; exact (Option.some.inj e).symm
  refine ⟨Z, B, ⟨?_, s, fun a u e => ?_, fun a u e => .inl e, fun i dv e => ?_, fun i j di dj a ne e1 e2 o1 o2 s1 s2 => ?_⟩, fun a e => ?_, fun a u e ne => ?_, fun j a e1 e2 => ?_⟩
  · unfold ini L2.start
    simp [iniL_length]; omega
  · show H a = some u
    have e' : (if ∃ j, io = some j ∧ vs[j]? = some (V.ref a) then none else H a) = some u := e
    split at e'
    · cases e'
    · exact e'
  · obtain ⟨d, v, h1, h2, e3⟩ := get i dv e
    refine ⟨v, start_get h2, ?_⟩
    obtain ⟨g1, g2⟩ := h i v d h2 h1
    by_cases hio : io = some i
    · rw [if_pos hio] at e3
      subst e3
      obtain ⟨a, rfl, q1, q2⟩ := g2 hio
      have hB : B i = a := by show (match vs[i]? with | some (.ref a) => a | _ => 0) = a; rw [h2]
      refine ⟨by rw [hB], by rw [hB]; exact q1, ?_, by rw [hB]; exact q2⟩
      rw [hB]
      show (if ∃ j, io = some j ∧ vs[j]? = some (V.ref a) then none else H a) = none
      rw [if_pos ⟨i, hio, h2⟩]
    · rw [if_neg hio] at e3
      subst e3
      exact g1 hio
  · obtain ⟨d, v, _, _, e3⟩ := get i di e1
    obtain ⟨d', v', _, _, e4⟩ := get j dj e2
    have hi : io = some i := by
      by_cases hio : io = some i
      · exact hio
      · rw [if_neg hio] at e3; subst e3; cases o1
    have hj : io = some j := by
      by_cases hio : io = some j
      · exact hio
      · rw [if_neg hio] at e4; subst e4; cases o2
    rw [hi] at hj
    exact ne (Option.some.inj hj)
  · have e' : (if ∃ j, io = some j ∧ vs[j]? = some (V.ref a) then none else H a) = none := e
    split at e'
    · rename_i q; exact .inr q
    · exact .inl e'
  · show (if ∃ j, io = some j ∧ vs[j]? = some (V.ref a) then none else H a) = some u
    rw [if_neg (by rintro ⟨j, e1, e2⟩; exact ne j e1 e2)]
    exact e
  · show (match vs[j]? with | some (.ref a) => a | _ => 0) = a
    rw [e2]
theorem fn_ok {x qual : Str} {params : Arguments} {body : List Stmt} {scope : Scope} {f : Addr} {fd : FuncData} {N ps : List Str} {k n : Nat} {io : Option Nat} {m : MS} (Fd : FunD K x qual params body scope [] [] f fd) (S : FnScope N ps scope) (hn : ps.length = n)
    (hb : ∀ (cdv : Value) (A : Around) (outer : List Env) (s : Shared) (H : Hp) (E : XK), Room k (A.deeper (envOfC qual scope s.heap.objs.size f cdv)) → Ss (cxOf CX0 P w K mg base N qual scope f cdv A outer s H E).nox body m) :
    FnOk P w K mg base CX0 (k + 1) f fd ps (spF K io n (runFn io N.length m)) := by
  have hpl : n ≤ N.length := by have := congrArg List.length S.pre; rw [List.length_take] at this; omega
  refine Fd.ok S (fun vs H Q E h => by rw [h.1, hn]) fun cdv A outer s H vs Q E hr h => ⟨tSOf K m, PSs.nox (hb cdv A outer s H E hr), ?_⟩
  obtain ⟨hv, F, ds, r, o, sF, hd, hargs, hφ, hQ⟩ := h
  obtain ⟨Z, B, R, z1, z2, hB⟩ := rel_start (N := N) hpl hv hd sF hargs
  obtain ⟨res, e1, e2⟩ := Option.bind_eq_some_iff.mp hφ
  refine ⟨F, Z, B, F, _, res, R, e1, ?_⟩
  -- at an end
  have post : ∀ {ρ' : En} {dv : DV} {v : V} {σ' : L2.St} {H' F' : Hp}, Rel K F Z B σ' H' F' ρ' → Same F F' → ResOk K Z σ' ρ' H' F' v dv → (outOf io ρ').map (fun o => (dv, o)) = some (r, o) → Q v H' := fun {ρ' dv v σ' H' F'} R' s' rr eo => by
    obtain ⟨o', eo1, eo2⟩ := Option.map_eq_some_iff.mp eo
    have hdv : dv = r := congrArg Prod.fst eo2
    have ho : o' = o := congrArg Prod.snd eo2
    subst hdv ho
    -- the lent object
    have lent : ∀ j a, io = some j → vs[j]? = some (V.ref a) → F' a = none ∧ OwnRep K H' F' a o' ∧ σ'[j]? = some (some (.ref a)) ∧ ρ'[j]? = some (some (.bor o')) := fun j a ej ea => by
      subst ej
      unfold outOf at eo1
      simp only at eo1
      split at eo1
      · rename_i d' ed
        cases eo1
        obtain ⟨w', ew, rfl, q1, q2, q3⟩ := R'.slot j _ ed
        have : B j = a := hB j a rfl ea
        rw [this] at q1 q3 ew
        exact ⟨q1, q3, ew, ed⟩
      · cases eo1
    refine hQ v H' F' ⟨s', R'.sub, fun a u e => ?_, fun a u e ne => R'.zsub _ _ (z2 a u e ne), fun j a ej ea => ⟨(lent j a ej ea).1, (lent j a ej ea).2.1⟩, ?_⟩
    · rcases R'.base a u e with q | q
      · exact .inl q
      · rcases z1 a q with q | ⟨j, ej, ea⟩
        · exact .inr q
        · rw [(lent j a ej ea).1] at e; cases e
    · cases dv with
      | val d => exact rr
      | bor d => exact rr.elim
      | own d =>
        obtain ⟨a, ea, q1, q2, q3, off⟩ := rr
        refine ⟨a, ea, q1, ?_, q3⟩
        rcases z1 a q2 with q | ⟨j, ej, ea'⟩
        · exact q
        · obtain ⟨_, _, es, er⟩ := lent j a ej ea'
          exact (off j _ er rfl es).elim
  cases res with
  | nx ρ' => exact fun σ' H' F' R' s' => post R' s' (dv := .val .non) (show Rep K F' .non .non by unfold Rep; rfl) e2
  | rt dv ρ' => exact fun v σ' H' F' R' s' rr => post R' s' rr e2
  | bk ρ' => cases e2
  | ct ρ' => cases e2
end
/-! ### calls -/
section
variable {X : Cx}
theorem Rel.called {K : PySem.W.Frag} {F0 Z : Hp} {B : Nat → Addr} {σ : L2.St} {H F H' F' : Hp} {ρ : En} (R : Rel K F0 Z B σ H F ρ) (s : Same F F') (sub : Same F' H') (new : ∀ a u, F' a = some u → F a = some u ∨ H a = none) (keep : ∀ a u, H a = some u → H' a = some u) : Rel K F0 Z B σ H' F' ρ where
  len := R.len
  sub := sub
  zsub := fun a u e => keep _ _ (R.zsub _ _ e)
  base := fun a u e => by
    rcases new a u e with q | q
    · exact R.base _ _ q
    · exact .inr (R.zsub.free q)
  slot := fun i dv e => by
    obtain ⟨v, e1, sl⟩ := R.slot i dv e
    refine ⟨v, e1, sl.move s fun a oa ea => ?_⟩
    obtain ⟨b, eb, hF, _, u, hu⟩ := sl.addr oa
    rw [ea] at eb; cases eb
    refine ⟨(keep _ _ hu).trans hu.symm, ?_⟩
    cases q : F' a with
    | none => rfl
    | some t =>
      rcases new a t q with q | q
      · rw [hF] at q; cases q
      · rw [hu] at q; cases q
  apart := R.apart
def mCall (φ : List D → Option (DV × D)) (ms : MA) : ME := fun ρ => (ms ρ).bind fun p => (φ p.1).map fun r => (r.1, p.2)
theorem Reps.get2 {K : PySem.W.Frag} {F : Hp} : ∀ {ds : List D} {xs : List V} {j : Nat} {v : V} {d : D}, Reps K F ds xs → xs[j]? = some v → ds[j]? = some d → Rep K F d v := fun {ds xs j v d} r e1 e2 => by
  obtain ⟨x, h1, h2⟩ := r.get e2
  rw [e1] at h1; cases h1; exact h2
theorem ResOk.of_fres {K : PySem.W.Frag} {F0 Z : Hp} {B : Nat → Addr} {σ : L2.St} {H F H' F' : Hp} {ρ : En} {v : V} {dv : DV} (R : Rel K F0 Z B σ H F ρ) (h : FRes K H H' F' v dv) : ResOk K Z σ ρ H' F' v dv := by
  cases dv with
  | val d => exact h
  | own d =>
    obtain ⟨a, ea, h1, h2, h3⟩ := h
    exact ⟨a, ea, h1, R.znone h2, h3, R.off_new h2⟩
  | bor d => exact h.elim
theorem runCall {K : PySem.W.Frag} {φ : List D → Option (DV × D)} {ms : MA} {n : Nat} (hlen : ∀ ρ p, ms ρ = some p → p.1.length = n) {σ : L2.St} {H : Hp} {Q : VK} (h : tOf K (mCall φ ms) σ H Q) : tCall (spF K none n φ) [] E0 (tAOf K ms) σ H Q := by
  obtain ⟨F0, Z, B, F, ρ, dv, ρ', R, e, k⟩ := h
  obtain ⟨⟨ds, ρ1⟩, e1, e2⟩ := Option.bind_eq_some_iff.mp e
  obtain ⟨⟨r, o⟩, e3, e4⟩ := Option.map_eq_some_iff.mp e2
  cases e4
  refine tAOf_of R e1 fun vs H1 F1 R1 s1 r1 => ?_
  have hl := hlen ρ _ e1
  rw [List.append_nil]
  refine ⟨r1.length.trans hl, F1, ds, r, o, R1.sub, hl, fun j v d ev ed => ⟨fun _ => r1.get2 ev ed, fun z => by cases z⟩, e3, fun v H' F' po => ?_⟩
  have R2 := R1.called po.same po.sub po.new fun a u q => po.keep a u q fun j z => by cases z
  exact k v H' F' R2 (s1.trans po.same) (ResOk.of_fres R1 po.res)
theorem aLen_nil (ρ : En) (p) (h : aNil ρ = some p) : p.1.length = 0 := by cases h; rfl
theorem aLen_cons {m : ME} {ms : MA} {n : Nat} (hn : ∀ ρ p, ms ρ = some p → p.1.length = n) (ρ : En) (p) (h : aCons m ms ρ = some p) : p.1.length = n + 1 := by
  obtain ⟨q, e1, e2⟩ := Option.bind_eq_some_iff.mp h
  obtain ⟨t, e3, e4⟩ := Option.map_eq_some_iff.mp e2
  subst e4
  simp [hn _ _ e3]
/-- a def as callers use it -/
structure Fk (X : Cx) (x : Str) (io : Option Nat) (n : Nat) (φ : List D → Option (DV × D)) : Prop where
  ex : ∃ (k : Nat) (f : Addr) (fd : FuncData) (ps : List Str), FnOk X.prog X.w X.K X.mg X.base CX0 k f fd ps (spF X.K io n φ) ∧ Room k X.A ∧ X.mg x = some (.ref f) ∧ PySem.W.keepIn X.K (.ref f) = true ∧ Binds X.K fd ps []
theorem em_call {x : Str} {p pos : Pos} {e : Expr} {es : List Expr} {ms : MA} {n : Nat} {φ : List D → Option (DV × D)} (G : Fk X x none n φ) (hg : Gl X x) (ha : Am X (e :: es) ms) (hl : ∀ ρ p, ms ρ = some p → p.1.length = n)
    (hdb : (x == ("__debug__" : Str)) = false := by decide) (he : starEach (e :: es) X.env = (false, eval e X.env) :: starEach es X.env := by rfl) (hpl : (backTo pos (starEach es X.env)).any (·.1) = false := by rfl) :
    Em X (.Call (.Name x p) (e :: es) [] pos) (mCall φ ms) := by
  obtain ⟨k, f, fd, ps, F, hr, hm, hk, hb⟩ := G.ex
  exact PE_imp (pe_call F hr hg hm hk hb .nil pass0 ha hdb he hpl) fun _ _ _ h => runCall hl h
end
end Cb

set_option Elab.async false
set_option linter.all false
set_option maxRecDepth 100000
/-! Rules: calls that lend, isinstance, statements. -/
namespace Cb
open PySem PySem.Spec PyProof.Rows L2
section
variable {X : Cx}
/-! ### arguments, one lent -/
inductive AV where
  | v (d : D) | s (i : Nat)
def AReps (K : PySem.W.Frag) (F : Hp) (σ : L2.St) : List AV → List V → Prop
  | [], vs => vs = []
  | .v d :: r, vs => ∃ x t, vs = x :: t ∧ Rep K F d x ∧ AReps K F σ r t
  | .s i :: r, vs => ∃ x t, vs = x :: t ∧ σ[i]? = some (some x) ∧ AReps K F σ r t
theorem AReps.mono {K : PySem.W.Frag} {F F' : Hp} {σ : L2.St} (s : Same F F') : ∀ {as : List AV} {vs : List V}, AReps K F σ as vs → AReps K F' σ as vs
  | [], _, h => h
  | .v d :: r, _, ⟨x, t, e, h1, h2⟩ => ⟨x, t, e, Rep.mono s _ _ h1, AReps.mono s h2⟩
  | .s i :: r, _, ⟨x, t, e, h1, h2⟩ => ⟨x, t, e, h1, AReps.mono s h2⟩
abbrev ML := En → Option (List AV × En)
def tLOf (K : PySem.W.Frag) (m : ML) : TA := fun σ H Q => ∃ F0 Z B F ρ ds ρ', Rel K F0 Z B σ H F ρ ∧ m ρ = some (ds, ρ') ∧ ∀ vs H' F', Rel K F0 Z B σ H' F' ρ' → Same F F' → AReps K F' σ ds vs → Q vs H'
abbrev Al (X : Cx) (es : List Expr) (m : ML) : Prop := PA X es (tLOf X.K m)
theorem tLOf_of {K : PySem.W.Frag} {m : ML} {F0 Z : Hp} {B : Nat → Addr} {σ : L2.St} {H F : Hp} {ρ ρ' : En} {ds : List AV} {Q : List V → Hp → Prop} (R : Rel K F0 Z B σ H F ρ) (e : m ρ = some (ds, ρ'))
    (h : ∀ vs H' F', Rel K F0 Z B σ H' F' ρ' → Same F F' → AReps K F' σ ds vs → Q vs H') : tLOf K m σ H Q := ⟨F0, Z, B, F, ρ, ds, ρ', R, e, h⟩
def lNil : ML := fun ρ => some ([], ρ)
def lCons (m : ME) (ms : ML) : ML := fun ρ => (fz m ρ).bind fun p => (ms p.2).map fun q => (.v p.1 :: q.1, q.2)
def lLend (i : Nat) (ms : ML) : ML := fun ρ => (peek ρ i).bind fun _ => (ms ρ).map fun q => (.s i :: q.1, q.2)
theorem al_nil : Al X [] lNil := PA_imp pa_nil fun σ H Q ⟨F0, Z, B, F, ρ, ds, ρ', R, e, k⟩ => by
  cases e
  exact k [] H F R (Same.refl _) rfl
theorem al_cons {e : Expr} {es : List Expr} {m : ME} {ms : ML} (ha : Em X e m) (hr : Al X es ms) (hs : starEach (e :: es) X.env = (false, eval e X.env) :: starEach es X.env := by rfl) : Al X (e :: es) (lCons m ms) := PA_imp (pa_cons ha.fz hr hs) fun σ H Q ⟨F0, Z, B, F, ρ, ds, ρ', R, e, k⟩ => by
  obtain ⟨⟨x, ρ1⟩, e1, e2⟩ := Option.bind_eq_some_iff.mp e
  obtain ⟨⟨xs, ρ2⟩, e3, e4⟩ := Option.map_eq_some_iff.mp e2
  cases e4
  exact tOfV_of R e1 fun v H1 F1 R1 s1 r1 => tLOf_of R1 e3 fun vs H2 F2 R2 s2 r2 => k (v :: vs) H2 F2 R2 (s1.trans s2) ⟨v, vs, rfl, Rep.mono s2 _ _ r1, r2⟩
theorem al_lend {i : Nat} {e : Expr} {es : List Expr} {ms : ML} (ha : PE X e (tVar i)) (hr : Al X es ms) (hs : starEach (e :: es) X.env = (false, eval e X.env) :: starEach es X.env := by rfl) : Al X (e :: es) (lLend i ms) := PA_imp (pa_cons ha hr hs) fun σ H Q ⟨F0, Z, B, F, ρ, ds, ρ', R, e, k⟩ => by
  obtain ⟨x, e1, e2⟩ := Option.bind_eq_some_iff.mp e
  obtain ⟨⟨xs, ρ2⟩, e3, e4⟩ := Option.map_eq_some_iff.mp e2
  cases e4
  obtain ⟨v, ev, _⟩ := peek_ok R e1
  exact ⟨v, ev, tLOf_of R e3 fun vs H2 F2 R2 s2 r2 => k (v :: vs) H2 F2 R2 s2 ⟨v, vs, rfl, ev, r2⟩⟩
/-- the data handed over: at the place io (counted from p) what lies in the lent slot -/
def resolve (ρ : En) (io : Nat) : Nat → List AV → Option (List D)
  | _, [] => some []
  | p, .v d :: r => if p = io then none else (resolve ρ io (p + 1) r).map (d :: ·)
  | p, .s i :: r => if p = io then (match ρ[i]? with
    | some (some (.own d)) => (resolve ρ io (p + 1) r).map (d :: ·)
    | some (some (.bor d)) => (resolve ρ io (p + 1) r).map (d :: ·)
    | _ => none) else none
def slotAt : Nat → List AV → Option Nat
  | 0, .s i :: _ => some i
  | n + 1, _ :: r => slotAt n r
  | _, _ => none
def put (ρ : En) (i : Nat) (d : D) : Option En := match ρ[i]? with
  | some (some (.own _)) => some (ρ.set i (some (.own d)))
  | some (some (.bor _)) => some (ρ.set i (some (.bor d)))
  | _ => none
def mCallL (io : Nat) (φ : List D → Option (DV × D)) (ml : ML) : ME := fun ρ => (ml ρ).bind fun p => (resolve p.2 io 0 p.1).bind fun ds => (φ ds).bind fun r => (slotAt io p.1).bind fun i => (put p.2 i r.2).map fun ρ' => (r.1, ρ')
theorem put_ok {ρ ρ' : En} {i : Nat} {d : D} (h : put ρ i d = some ρ') : ∃ dv, ρ[i]? = some (some dv) ∧ dv.owned = true ∧ ρ' = ρ.set i (some (dv.to d)) := by
  unfold put at h
  split at h
  · rename_i d' e; cases h; exact ⟨_, e, rfl, rfl⟩
  · rename_i d' e; cases h; exact ⟨_, e, rfl, rfl⟩
  · cases h
theorem resolve_ok {K : PySem.W.Frag} {F0 Z : Hp} {B : Nat → Addr} {σ : L2.St} {H F : Hp} {ρ : En} {io : Nat} (R : Rel K F0 Z B σ H F ρ) : ∀ {as : List AV} {p : Nat} {ds : List D} {vs : List V}, AReps K F σ as vs → resolve ρ io p as = some ds →
    vs.length = ds.length ∧ as.length = ds.length ∧ ∀ (j : Nat) (v : V) (d : D), vs[j]? = some v → ds[j]? = some d → (io ≠ p + j → Rep K F d v) ∧ (io = p + j → (∃ a, v = .ref a ∧ F a = none ∧ OwnRep K H F a d) ∧ ∃ i, as[j]? = some (.s i) ∧ σ[i]? = some (some v))
  | [], p, ds, vs, h, e => by
    cases e
    cases h
    exact ⟨rfl, rfl, fun j v d ev => by simp at ev⟩
  | .v d :: r, p, ds, vs, ⟨x, t, ev, h1, h2⟩, e => by
    subst ev
    unfold resolve at e
    split at e
    · cases e
    · rename_i hp
      obtain ⟨ds', e1, e2⟩ := Option.map_eq_some_iff.mp e
      subst e2
      obtain ⟨g1, g2, g3⟩ := resolve_ok R h2 e1
      refine ⟨by simp [g1], by simp [g2], fun j v d' ev ed => ?_⟩
      cases j with
      | zero =>
        simp at ev ed
        subst ev ed
        exact ⟨fun _ => h1, fun z => absurd z.symm hp⟩
      | succ j =>
        simp at ev ed
        obtain ⟨q1, q2⟩ := g3 j v d' ev ed
        refine ⟨fun z => q1 (by omega), fun z => ?_⟩
        obtain ⟨q3, i, q4, q5⟩ := q2 (by omega)
        exact ⟨q3, i, by simpa using q4, q5⟩
  | .s i :: r, p, ds, vs, ⟨x, t, ev, h1, h2⟩, e => by
    subst ev
    unfold resolve at e
    split at e
    · rename_i hp
      have key : ∃ d dv ds', ρ[i]? = some (some dv) ∧ dv.owned = true ∧ dv.get = d ∧ resolve ρ io (p + 1) r = some ds' ∧ ds = d :: ds' := by
        split at e
        · rename_i d er
          obtain ⟨ds', e1, e2⟩ := Option.map_eq_some_iff.mp e
          exact ⟨d, _, ds', er, rfl, rfl, e1, e2.symm⟩
        · rename_i d er
          obtain ⟨ds', e1, e2⟩ := Option.map_eq_some_iff.mp e
          exact ⟨d, _, ds', er, rfl, rfl, e1, e2.symm⟩
        · cases e
      obtain ⟨d, dv, ds', er, ow, eg, e1, rfl⟩ := key
      obtain ⟨g1, g2, g3⟩ := resolve_ok R h2 e1
      refine ⟨by simp [g1], by simp [g2], fun j v d' ev ed => ?_⟩
      cases j with
      | zero =>
        simp at ev ed
        subst ev ed
        refine ⟨fun z => absurd hp.symm z, fun _ => ⟨?_, i, rfl, h1⟩⟩
        obtain ⟨w, ew, s⟩ := R.slot i dv er
        rw [h1] at ew
        have : x = w := Option.some.inj (Option.some.inj ew)
        subst this
        cases dv with
        | val d => cases ow
        | own d'' => obtain ⟨a, ea, q1, _, q2⟩ := s; cases eg; exact ⟨a, ea, q1, q2⟩
        | bor d'' => obtain ⟨ea, q1, _, q2⟩ := s; cases eg; exact ⟨_, ea, q1, q2⟩
      | succ j =>
        simp at ev ed
        obtain ⟨q1, q2⟩ := g3 j v d' ev ed
        refine ⟨fun z => q1 (by omega), fun z => ?_⟩
        obtain ⟨q3, i, q4, q5⟩ := q2 (by omega)
        exact ⟨q3, i, by simpa using q4, q5⟩
    · cases e
theorem slotAt_ok : ∀ {as : List AV} {n i : Nat}, slotAt n as = some i → as[n]? = some (.s i)
  | .s j :: _, 0, _, h => by cases h; rfl
  | .v _ :: _, 0, _, h => by cases h
  | [], 0, _, h => by cases h
  | [], _ + 1, _, h => by cases h
  | .s _ :: r, n + 1, i, h => by simpa using slotAt_ok (as := r) (n := n) (by simpa [slotAt] using h)
  | .v _ :: r, n + 1, i, h => by simpa using slotAt_ok (as := r) (n := n) (by simpa [slotAt] using h)
theorem Off.set {σ : L2.St} {ρ : En} {i : Nat} {dv dv' : DV} {a : Addr} (h : Off σ ρ a) (e : ρ[i]? = some (some dv)) (o : dv.owned = true) : Off σ (ρ.set i (some dv')) a := fun j dj ej oj => by
  by_cases hij : i = j
  · subst hij; exact h i dv e o
  · rw [List.getElem?_set_ne hij] at ej; exact h j dj ej oj
theorem runCallL {K : PySem.W.Frag} {φ : List D → Option (DV × D)} {ml : ML} {n io : Nat} (hlen : ∀ ρ p, ml ρ = some p → p.1.length = n) {σ : L2.St} {H : Hp} {Q : VK} (h : tOf K (mCallL io φ ml) σ H Q) : tCall (spF K (some io) n φ) [] E0 (tLOf K ml) σ H Q := by
  obtain ⟨F0, Z, B, F, ρ, dv, ρ', R, e, k⟩ := h
  obtain ⟨⟨as, ρ1⟩, e1, e2⟩ := Option.bind_eq_some_iff.mp e
  obtain ⟨ds, e3, e4⟩ := Option.bind_eq_some_iff.mp e2
  obtain ⟨⟨r, o⟩, e5, e6⟩ := Option.bind_eq_some_iff.mp e4
  obtain ⟨i, e7, e8⟩ := Option.bind_eq_some_iff.mp e6
  obtain ⟨ρ2, e9, e10⟩ := Option.map_eq_some_iff.mp e8
  cases e10
  refine tLOf_of R e1 fun vs H1 F1 R1 s1 r1 => ?_
  obtain ⟨g1, g2, g3⟩ := resolve_ok R1 r1 e3
  have hl : as.length = n := hlen ρ _ e1
  rw [List.append_nil]
  obtain ⟨dw, q1, q2, q3⟩ := put_ok e9
  subst q3
  obtain ⟨w, ew, sl⟩ := R1.slot i dw q1
  obtain ⟨a, ea, hFa, hZa, u, hu⟩ := sl.addr q2
  subst ea
  have hio : vs[io]? = some (V.ref a) := by
    have h1 := slotAt_ok e7
    have hlt : io < as.length := (List.getElem?_eq_some_iff.mp h1).1
    have hlt2 : io < vs.length := by omega
    have h2 : vs[io]? = some vs[io] := List.getElem?_eq_getElem hlt2
    have hlt3 : io < ds.length := by omega
    have h3 : ds[io]? = some ds[io] := List.getElem?_eq_getElem hlt3
    obtain ⟨_, i', h4, h5⟩ := (g3 io _ _ h2 h3).2 (by omega)
    rw [h1] at h4
    have : i = i' := by injection Option.some.inj h4
    subst this
    rw [ew] at h5
    rw [h2]
    exact congrArg some (Option.some.inj (Option.some.inj h5)).symm
  refine ⟨by omega, F1, ds, r, o, R1.sub, by omega, fun j v d ev ed => ?_, e5, fun v H' F' po => ?_⟩
  · obtain ⟨q4, q5⟩ := g3 j v d ev ed
    exact ⟨fun z => q4 fun z2 => z (by rw [z2]; simp), fun z => (q5 (by have := Option.some.inj z; omega)).1⟩
  · have keep : ∀ b u, b ≠ a → H1 b = some u → H' b = some u := fun b u hb e => po.keep b u e fun j ej ev => by
      cases ej
      rw [hio] at ev
      have : a = b := by injection Option.some.inj ev
      exact hb this.symm
    obtain ⟨oF, oR⟩ := po.out io a rfl hio
    have R2 : Rel K F0 Z B σ H' F' (ρ1.set i (some (dw.to o))) := by
      refine ⟨by rw [List.length_set]; exact R1.len, po.sub, fun b u e => ?_, fun b u e => ?_, fun j dj ej => ?_, fun j l dj dl c ne ej el oj ol sj sl' => ?_⟩
      · exact keep b u (fun z => by subst z; rw [hZa] at e; cases e) (R1.zsub _ _ e)
      · rcases po.new b u e with q | q
        · exact R1.base _ _ q
        · exact .inr (R1.zsub.free q)
      · by_cases hij : i = j
        · subst hij
          have hl' : i < ρ1.length := (List.getElem?_eq_some_iff.mp q1).1
          rw [List.getElem?_set_self hl'] at ej
          have : dw.to o = dj := Option.some.inj (Option.some.inj ej)
          subst this
          refine ⟨.ref a, ew, ?_⟩
          cases dw with
          | val d => cases q2
          | own d => exact ⟨a, rfl, oF, hZa, oR⟩
          | bor d =>
            obtain ⟨eb, _⟩ := sl
            have : a = B i := by injection eb
            subst this
            exact ⟨rfl, oF, hZa, oR⟩
        · rw [List.getElem?_set_ne hij] at ej
          obtain ⟨x, ex, s⟩ := R1.slot j dj ej
          refine ⟨x, ex, s.move po.same fun c oc ec => ?_⟩
          obtain ⟨c', ec', hFc, _, t, ht⟩ := s.addr oc
          rw [ec] at ec'; cases ec'
          have hca : c ≠ a := fun z => by
            subst z
            exact R1.apart i j dw dj c hij q1 ej q2 oc ew (by rw [ex, ec])
          refine ⟨(keep c t hca ht).trans ht.symm, ?_⟩
          cases q : F' c with
          | none => rfl
          | some t' =>
            rcases po.new c t' q with q | q
            · rw [hFc] at q; cases q
            · rw [ht] at q; cases q
      · have low : ∀ {p : Nat} {dp : DV}, (ρ1.set i (some (dw.to o)))[p]? = some (some dp) → dp.owned = true → ∃ dq, ρ1[p]? = some (some dq) ∧ dq.owned = true := fun {p dp} q oq => by
          by_cases hp : i = p
          · subst hp; exact ⟨dw, q1, q2⟩
          · rw [List.getElem?_set_ne hp] at q; exact ⟨dp, q, oq⟩
        obtain ⟨dj', t1, t2⟩ := low ej oj
        obtain ⟨dl', t3, t4⟩ := low el ol
        exact R1.apart j l dj' dl' c ne t1 t3 t2 t4 sj sl'
    refine k v H' F' R2 (s1.trans po.same) ?_
    have rr := ResOk.of_fres R1 po.res
    cases r with
    | val d => exact rr
    | own d => obtain ⟨b, eb, h1, h2, h3, off⟩ := rr; exact ⟨b, eb, h1, h2, h3, off.set q1 q2⟩
    | bor d => exact rr.elim
theorem lLen_nil (ρ : En) (p) (h : lNil ρ = some p) : p.1.length = 0 := by cases h; rfl
theorem lLen_cons {m : ME} {ms : ML} {n : Nat} (hn : ∀ ρ p, ms ρ = some p → p.1.length = n) (ρ : En) (p) (h : lCons m ms ρ = some p) : p.1.length = n + 1 := by
  obtain ⟨q, e1, e2⟩ := Option.bind_eq_some_iff.mp h
  obtain ⟨t, e3, e4⟩ := Option.map_eq_some_iff.mp e2
  subst e4
  simp [hn _ _ e3]
theorem lLen_lend {i : Nat} {ms : ML} {n : Nat} (hn : ∀ ρ p, ms ρ = some p → p.1.length = n) (ρ : En) (p) (h : lLend i ms ρ = some p) : p.1.length = n + 1 := by
  obtain ⟨q, e1, e2⟩ := Option.bind_eq_some_iff.mp h
  obtain ⟨t, e3, e4⟩ := Option.map_eq_some_iff.mp e2
  subst e4
  simp [hn _ _ e3]
theorem em_callL {x : Str} {p pos : Pos} {e : Expr} {es : List Expr} {ml : ML} {n io : Nat} {φ : List D → Option (DV × D)} (G : Fk X x (some io) n φ) (hg : Gl X x) (ha : Al X (e :: es) ml) (hl : ∀ ρ p, ml ρ = some p → p.1.length = n)
    (hdb : (x == ("__debug__" : Str)) = false := by decide) (he : starEach (e :: es) X.env = (false, eval e X.env) :: starEach es X.env := by rfl) (hpl : (backTo pos (starEach es X.env)).any (·.1) = false := by rfl) :
    Em X (.Call (.Name x p) (e :: es) [] pos) (mCallL io φ ml) := by
  obtain ⟨k, f, fd, ps, F, hr, hm, hk, hb⟩ := G.ex
  exact PE_imp (pe_call F hr hg hm hk hb .nil pass0 ha hdb he hpl) fun _ _ _ h => runCallL hl h
/-! ### isinstance(x, T) -/
def tyN : D → String
  | .non => "NoneType" | .bl _ => "bool" | .int _ => "int" | .str _ => "str" | .tup _ => "tuple" | .lst _ => "list" | .dk _ _ => "dict" | .dt _ _ => "dict" | .scr _ => "list"
theorem tyX_of {K : PySem.W.Frag} {F H : Hp} {d : D} {v : V} (s : Same F H) (r : Rep K F d v) : TyX K H v (.type (tyN d)) := by
  cases d with
  | non => unfold Rep at r; subst r; exact .base .non
  | bl b => unfold Rep at r; subst r; exact .base (.bl b)
  | int b => unfold Rep at r; subst r; exact .base (.int b)
  | str b => unfold Rep at r; subst r; exact .base (.str b)
  | tup ds =>
    obtain ⟨a, xs, rfl, h1, _⟩ := st_of s r
    rcases h1 with (h1 | ⟨o, h1⟩) | ⟨o, its, n, h1, h2, _⟩
    · exact .base (.tup h1)
    · exact .fTuple h1
    · exact .kTuple h1 h2
  | lst ds =>
    unfold Rep at r
    obtain ⟨a, xs, rfl, h1, _⟩ := r
    exact .base (.lst (s _ _ h1))
  | dk ks vs =>
    unfold Rep at r
    obtain ⟨a, xs, rfl, h1, _⟩ := r
    exact .base (.dK (s _ _ h1))
  | dt ks vs =>
    unfold Rep at r
    obtain ⟨a, xs, rfl, h1, _⟩ := r
    exact .base (.dT (s _ _ h1))
  | scr ns =>
    unfold Rep at r
    obtain ⟨a, rfl, h1⟩ := r
    rcases s.seq h1 with (h1 | ⟨o, h1⟩) | ⟨o, its, n, h1, h2, _⟩
    · exact .base (.lst h1)
    · exact .base (.frz h1)
    · exact .kList h1 h2
def dIsi (T : String) (d : D) : Option Bool := kitB (tyN d) T
def mIsi (T : String) (m : ME) : ME := fun ρ => (fz m ρ).bind fun p => (dIsi T p.1).map fun b => (.val (.bl b), p.2)
theorem em_isi {T : String} {x y : Str} {p p2 pos : Pos} {e : Expr} {m : ME} (ha : Em X e m) (hg : Gl X x) (hm : X.mg x = none) (hv : bootBuiltins x = some (.builtin "isinstance")) (hg2 : Gl X y) (hm2 : X.mg y = none) (hv2 : bootBuiltins y = some (.type T))
    (hn : x ≠ "__name__" := by decide) (hdb : (x == ("__debug__" : Str)) = false := by decide) (hn2 : y ≠ "__name__" := by decide) (hdb2 : (y == ("__debug__" : Str)) = false := by decide)
    (he : starEach [e, .Name y p2] X.env = (false, eval e X.env) :: starEach [.Name y p2] X.env := by rfl) (hpl : (backTo pos (starEach [.Name y p2] X.env)).any (·.1) = false := by rfl) :
    Em X (.Call (.Name x p) [e, .Name y p2] [] pos) (mIsi T m) :=
  PE_imp (pe_callB call_isi hg hm hv (pa_cons ha.fz (pa_cons (pe_bltn (v := .ty T) hg2 hm2 hv2 rfl hn2 hdb2) pa_nil) he) hn hdb he hpl) fun σ H Q ⟨F0, Z, B, F, ρ, dv, ρ', R, e, k⟩ => by
    obtain ⟨⟨x, ρ1⟩, e1, e2⟩ := Option.bind_eq_some_iff.mp e
    obtain ⟨b, e3, e4⟩ := Option.map_eq_some_iff.mp e2
    cases e4
    refine tOfV_of R e1 fun v H1 F1 R1 s1 r1 => ?_
    exact ⟨v, .ty T, .type (tyN x), .type T, b, rfl, .ty T, tyX_of R1.sub r1, kit_ty e3, k _ H1 F1 R1 s1 res_bl⟩
/-! ### statements -/
def sNever : MS := fun _ => none
theorem sm_never {st : Stmt} : Sm X st sNever := PS_imp ps_never fun D σ H ⟨F0, Z, B, F, ρ, r, R, e, k⟩ => by cases e
theorem ss_never {sts : List Stmt} : Ss X sts sNever := PSs_imp pss_never fun D σ H ⟨F0, Z, B, F, ρ, r, R, e, k⟩ => by cases e
def sNext : MS := fun ρ => some (.nx ρ)
def sSeq (m n : MS) : MS := fun ρ => (m ρ).bind fun r => match r with
  | .nx ρ' => n ρ'
  | r => some r
theorem ss_nil : Ss X [] sNext := PSs_imp pss_nil fun D σ H ⟨F0, Z, B, F, ρ, r, R, e, k⟩ => by
  cases e
  exact k σ H F R (Same.refl _)
theorem ss_one {st : Stmt} {m : MS} (h : Sm X st m) : Ss X [st] m := pss_one h
theorem ss_cons {st : Stmt} {sts : List Stmt} {m n : MS} (h1 : Sm X st m) (h2 : Ss X sts n) : Ss X (st :: sts) (sSeq m n) := PSs_imp (pss_cons h1 h2) fun D σ H ⟨F0, Z, B, F, ρ, r, R, e, k⟩ => by
  obtain ⟨r1, e1, e2⟩ := Option.bind_eq_some_iff.mp e
  refine tSOf_of R e1 ?_
  cases r1 with
  | nx ρ1 => exact fun σ' H' F' R' s' => tSOf_of R' e2 (k.mono s')
  | rt dv ρ1 => cases e2; exact k
  | bk ρ1 => cases e2; exact k
  | ct ρ1 => cases e2; exact k
def sExpr (m : ME) : MS := fun ρ => (m ρ).map fun p => .nx p.2
theorem sm_expr {e : Expr} {pos : Pos} {m : ME} (h : Em X e m) (hs : swapsWith e none pos.line X.env = pure false := by rfl) : Sm X (.Expr e pos) (sExpr m) := PS_imp (ps_expr h hs) fun D σ H ⟨F0, Z, B, F, ρ, r, R, e, k⟩ => by
  obtain ⟨⟨dv, ρ1⟩, e1, e2⟩ := Option.map_eq_some_iff.mp e
  subst e2
  exact tOf_of R e1 fun v H' F' R' s rr => k σ H' F' R' s
def sRet (m : ME) : MS := fun ρ => (m ρ).map fun p => .rt p.1 p.2
theorem sm_ret {e : Expr} {pos : Pos} {m : ME} (h : Em X e m) : Sm X (.Return (some e) pos) (sRet m) := PS_imp (ps_ret h) fun D σ H ⟨F0, Z, B, F, ρ, r, R, e, k⟩ => by
  obtain ⟨⟨dv, ρ1⟩, e1, e2⟩ := Option.map_eq_some_iff.mp e
  subst e2
  exact tOf_of R e1 fun v H' F' R' s rr => k v σ H' F' R' s rr
theorem sm_pass {pos : Pos} : Sm X (.Pass pos) sNext := PS_imp ps_pass fun D σ H ⟨F0, Z, B, F, ρ, r, R, e, k⟩ => by
  cases e
  exact k σ H F R (Same.refl _)
def sBreak : MS := fun ρ => some (.bk ρ)
def sCont : MS := fun ρ => some (.ct ρ)
theorem sm_break {pos : Pos} : Sm X (.Break pos) sBreak := PS_imp ps_break fun D σ H ⟨F0, Z, B, F, ρ, r, R, e, k⟩ => by
  cases e
  exact k σ H F R (Same.refl _)
theorem sm_cont {pos : Pos} : Sm X (.Continue pos) sCont := PS_imp ps_continue fun D σ H ⟨F0, Z, B, F, ρ, r, R, e, k⟩ => by
  cases e
  exact k σ H F R (Same.refl _)
def sIf (c : MT) (a b : MS) : MS := fun ρ => (c ρ).bind fun p => if p.1 = true then a p.2 else b p.2
theorem sm_if {c : Expr} {a b : List Stmt} {pos : Pos} {mc : MT} {ma mb : MS} (hc : Et X c mc) (ha : Ss X a ma) (hb : Ss X b mb) : Sm X (.If c a b pos) (sIf mc ma mb) := PS_imp (ps_if hc ha hb) fun D σ H ⟨F0, Z, B, F, ρ, r, R, e, k⟩ => by
  obtain ⟨⟨d, ρ1⟩, e1, e2⟩ := Option.bind_eq_some_iff.mp e
  refine tOfT_of R e1 fun H' F' R' s => ?_
  cases d with
  | true =>
    rw [if_pos rfl]
    exact tSOf_of R' e2 (k.mono s)
  | false =>
    rw [if_neg Bool.false_ne_true]
    exact tSOf_of R' e2 (k.mono s)
def sSet (i : Nat) (m : ME) : MS := fun ρ => (m ρ).map fun p => .nx (p.2.set i (some p.1))
theorem set_tail {K : PySem.W.Frag} {te : TE} {i : Nat} {m : ME} (ht : ∀ σ H Q, tOf K m σ H Q → te σ H Q) {D : Ends} {σ : L2.St} {H : Hp} (h : tSOf K (sSet i m) D σ H) : tAsg te (gName i) D σ H := by
  obtain ⟨F0, Z, B, F, ρ, r, R, e, k⟩ := h
  obtain ⟨⟨dv, ρ1⟩, e1, e2⟩ := Option.map_eq_some_iff.mp e
  subst e2
  exact ht _ _ _ (tOf_of R e1 fun v H' F' R' s rr => k (σ.set i (some v)) H' F' (R'.setSlot rr) s)
theorem sm_set {i : Nat} {x : Str} {e : Expr} {pos pos' : Pos} {m : ME} (hN : X.N.Nodup) (hi : X.N[i]? = some x) (hx : Loc X.env.scope x) (he : Em X e m) (hs : swapsWith e (some (.Name x pos')) pos.line X.env = pure false := by rfl) (hf : X.fn x = true ∨ X.env.scope.names.lookup x = some .local := by first | exact .inl rfl | exact .inr rfl | assumption) :
    Sm X (.Assign [.Name x pos'] e pos) (sSet i m) := PS_imp (ps_set hN hi hx he hs hf) fun D σ H h => set_tail (fun _ _ _ h => h) h
end
end Cb

set_option Elab.async false
set_option linter.all false
set_option maxRecDepth 100000
/-! Rules: targets, stores, changed lists, loops, comprehensions. -/
namespace Cb
open PySem PySem.Spec PyProof.Rows L2
section
variable {X : Cx}
/-! ### targets -/
abbrev MG := D → En → Option En
def tGOf (K : PySem.W.Frag) (ws : List Nat) (m : MG) : TG := fun v σ H Q => ∃ F0 Z B F ρ d ρ', Rel K F0 Z B σ H F ρ ∧ Rep K F d v ∧ m d ρ = some ρ' ∧ ∀ σ' F', Rel K F0 Z B σ' H F' ρ' → Same F F' → wipe σ' ws = wipe σ ws → Q σ' H
abbrev Gm (X : Cx) (e : Expr) (ws : List Nat) (m : MG) : Prop := PG X e (tGOf X.K ws m)
theorem PG_imp {e : Expr} {t t' : TG} (h : PG X e t) (i : ∀ v σ H Q, t' v σ H Q → t v σ H Q) : PG X e t' := ⟨fun pins s σ H v u Q I r q => h.run pins s σ H v u Q I r (i _ _ _ _ q)⟩
theorem wipe_get_ne {σ : L2.St} {i : Nat} : ∀ {ws : List Nat}, i ∉ ws → (wipe σ ws)[i]? = σ[i]?
  | [], _ => rfl
  | w :: ws, h => by
    unfold wipe
    rw [List.getElem?_set_ne (by intro e; exact h (by simp [e]))]
    exact wipe_get_ne (by intro e; exact h (by simp [e]))
theorem wipe_get_mem {σ : L2.St} {i : Nat} (hi : i < σ.length) : ∀ {ws : List Nat}, i ∈ ws → (wipe σ ws)[i]? = some none
  | [], h => by simp at h
  | w :: ws, h => by
    unfold wipe
    by_cases e : w = i
    · subst e
      rw [List.getElem?_set_self (by rw [wipe_length]; exact hi)]
    · rw [List.getElem?_set_ne e]
      exact wipe_get_mem hi (by
        rcases List.mem_cons.mp h with z | z
        · exact absurd z.symm e
        · exact z)
theorem wipe_ext {σ σ' : L2.St} {ws : List Nat} (hl : σ'.length = σ.length) (h : ∀ i, i ∉ ws → σ'[i]? = σ[i]?) : wipe σ' ws = wipe σ ws := by
  refine List.ext_getElem? fun i => ?_
  by_cases hi : i < σ.length
  · by_cases hm : i ∈ ws
    · rw [wipe_get_mem (by omega) hm, wipe_get_mem hi hm]
    · rw [wipe_get_ne hm, wipe_get_ne hm, h i hm]
  · rw [List.getElem?_eq_none (by rw [wipe_length]; omega), List.getElem?_eq_none (by rw [wipe_length]; omega)]
theorem wipe_of {σ σ' : L2.St} {ws : List Nat} (h : wipe σ' ws = wipe σ ws) : σ'.length = σ.length ∧ ∀ i, i ∉ ws → σ'[i]? = σ[i]? := by
  refine ⟨?_, fun i hi => ?_⟩
  · have := congrArg List.length h
    rwa [wipe_length, wipe_length] at this
  · have this : (wipe σ' ws)[i]? = (wipe σ ws)[i]? := by rw [h]
    rwa [wipe_get_ne hi, wipe_get_ne hi] at this
theorem wipe_sub {σ σ' : L2.St} {ws vs : List Nat} (h : wipe σ' ws = wipe σ ws) (s : ∀ i ∈ ws, i ∈ vs) : wipe σ' vs = wipe σ vs := by
  obtain ⟨h1, h2⟩ := wipe_of h
  exact wipe_ext h1 fun i hi => h2 i fun z => hi (s i z)
theorem wipe_trans {σ σ' σ'' : L2.St} {ws vs : List Nat} (h : wipe σ' ws = wipe σ ws) (h' : wipe σ'' vs = wipe σ' vs) : wipe σ'' (ws ++ vs) = wipe σ (ws ++ vs) :=
  (wipe_sub h' (fun i hi => by simp [hi])).trans (wipe_sub h (fun i hi => by simp [hi]))
def gN (i : Nat) : MG := fun d ρ => some (ρ.set i (some (.val d)))
theorem gm_name {i : Nat} {x : Str} {pos : Pos} (hN : X.N.Nodup) (hi : X.N[i]? = some x) (hx : Loc X.env.scope x) (hf : X.fn x = true ∨ X.env.scope.names.lookup x = some .local := by first | exact .inl rfl | exact .inr rfl | assumption) : Gm X (.Name x pos) [i] (gN i) :=
  PG_imp (pg_name hN hi hx hf) fun v σ H Q ⟨F0, Z, B, F, ρ, d, ρ', R, r, e, k⟩ => by
    cases e
    exact k _ F (R.setSlot (dv := .val d) r) (Same.refl _) (wipe_ext (by simp) fun j hj => by
      rw [List.getElem?_set_ne (by intro z; exact hj (by simp [z]))])
abbrev MGs := List D → En → Option En
def tGsOf (K : PySem.W.Frag) (ws : List Nat) (m : MGs) : TGs := fun vs σ H Q => ∃ F0 Z B F ρ ds ρ', Rel K F0 Z B σ H F ρ ∧ Reps K F ds vs ∧ m ds ρ = some ρ' ∧ ∀ σ' F', Rel K F0 Z B σ' H F' ρ' → Same F F' → wipe σ' ws = wipe σ ws → Q σ' H
abbrev Gs (X : Cx) (es : List Expr) (ws : List Nat) (m : MGs) : Prop := PGs X es (tGsOf X.K ws m)
theorem PGs_imp {es : List Expr} {t t' : TGs} (h : PGs X es t) (i : ∀ v σ H Q, t' v σ H Q → t v σ H Q) : PGs X es t' := ⟨fun pins s σ H v u Q I r q => h.run pins s σ H v u Q I r (i _ _ _ _ q)⟩
def gsNil : MGs := fun ds ρ => match ds with
  | [] => some ρ
  | _ => none
def gsCons (g : MG) (gs : MGs) : MGs := fun ds ρ => match ds with
  | d :: ds => (g d ρ).bind fun ρ' => gs ds ρ'
  | [] => none
theorem gs_nil : Gs X [] [] gsNil := PGs_imp pgs_nil fun vs σ H Q ⟨F0, Z, B, F, ρ, ds, ρ', R, r, e, k⟩ => by
  cases ds with
  | nil => cases e; exact ⟨r.of_nil, k σ F R (Same.refl _) rfl⟩
  | cons d ds => cases e
theorem gs_cons {e : Expr} {es : List Expr} {ws vs : List Nat} {g : MG} {gs : MGs} (h1 : Gm X e ws g) (h2 : Gs X es vs gs) (hs : (assignEach (e :: es) X.env).map (·.2) = assign e X.env :: (assignEach es X.env).map (·.2) := by rfl) : Gs X (e :: es) (ws ++ vs) (gsCons g gs) :=
  PGs_imp (pgs_cons h1 h2 hs) fun us σ H Q ⟨F0, Z, B, F, ρ, ds, ρ', R, r, e, k⟩ => by
    cases ds with
    | nil => cases e
    | cons d ds =>
      obtain ⟨ρ1, e1, e2⟩ := Option.bind_eq_some_iff.mp e
      obtain ⟨x, t, rfl, r1, r2⟩ := r.of_cons
      exact ⟨x, t, rfl, F0, Z, B, F, ρ, d, ρ1, R, r1, e1, fun σ' F' R' s' w1 => ⟨F0, Z, B, F', ρ1, ds, ρ', R', Reps.mono s' _ _ r2, e2, fun σ2 F2 R2 s2 w2 => k σ2 F2 R2 (s'.trans s2) (wipe_trans w1 w2)⟩⟩
def gT (gs : MGs) : MG := fun d ρ => match d with
  | .tup ds => gs ds ρ
  | _ => none
theorem gsLen_nil (ds ρ ρ') (h : gsNil ds ρ = some ρ') : ds.length = 0 := by
  cases ds with
  | nil => rfl
  | cons d ds => cases h
theorem gsLen_cons {g : MG} {gs : MGs} {n : Nat} (hn : ∀ ds ρ ρ', gs ds ρ = some ρ' → ds.length = n) (ds ρ ρ') (h : gsCons g gs ds ρ = some ρ') : ds.length = n + 1 := by
  cases ds with
  | nil => cases h
  | cons d ds =>
    obtain ⟨ρ1, e1, e2⟩ := Option.bind_eq_some_iff.mp h
    simp [hn _ _ _ e2]
theorem gm_tup {es : List Expr} {k n : Nat} {pos : Pos} {ws : List Nat} {gs : MGs} (hc : X.calm = true) (h : Gs X es ws gs) (hl : ∀ ds ρ ρ', gs ds ρ = some ρ' → ds.length = n)
    (hn : (assignEach es X.env).length = n := by rfl) (hst : (assignEach es X.env).findIdx? (·.1) = none := by rfl) : Gm X (.Tuple es k pos) ws (gT gs) :=
  PG_imp (pg_tup hc h hn hst) fun v σ H Q ⟨F0, Z, B, F, ρ, d, ρ', R, r, e, kk⟩ => by
    cases d with
    | tup ds =>
      obtain ⟨a, xs, rfl, h1, h2⟩ := st_of R.sub r
      exact ⟨a, xs, rfl, h1, h2.length.trans (hl _ _ _ e), F0, Z, B, F, ρ, ds, ρ', R, h2, e, kk⟩
    | _ => cases e
/-! ### target = value -/
def sAsg (m : ME) (g : MG) : MS := fun ρ => (fz m ρ).bind fun p => (g p.1 p.2).map .nx
theorem sm_asg {tg e : Expr} {pos : Pos} {m : ME} {ws : List Nat} {g : MG} (he : Em X e m) (hg : Gm X tg ws g) (hs : swapsWithSole [tg] e pos.line X.env = pure false := by rfl) (hw : swappedStores [tg] e X.env = pure none := by rfl)
    (h1 : (assignEach [tg] X.env).map (·.2) = [assign tg X.env] := by rfl) : Sm X (.Assign [tg] e pos) (sAsg m g) := PS_imp (ps_asg he.fz hg hs hw h1) fun D σ H ⟨F0, Z, B, F, ρ, r, R, e, k⟩ => by
  obtain ⟨⟨d, ρ1⟩, e1, e2⟩ := Option.bind_eq_some_iff.mp e
  obtain ⟨ρ2, e3, e4⟩ := Option.map_eq_some_iff.mp e2
  subst e4
  exact tOfV_of R e1 fun v H' F' R' s r => ⟨F0, Z, B, F', ρ1, d, ρ2, R', r, e3, fun σ' F2 R2 s2 _ => k σ' H' F2 R2 (s.trans s2)⟩
/-! ### several values, not frozen: a, b = x, y -/
def DRes (K : PySem.W.Frag) (Z : Hp) (σ : L2.St) (ρ : En) (H F : Hp) : List DV → List V → Prop
  | [], vs => vs = []
  | dv :: r, vs => ∃ x t, vs = x :: t ∧ ResOk K Z σ ρ H F x dv ∧ DRes K Z σ ρ H F r t ∧ (dv.owned = true → ∀ a, x = .ref a → ∀ (j : Nat) (dj : DV), r[j]? = some dj → dj.owned = true → t[j]? ≠ some (V.ref a))
abbrev MD := En → Option (List DV × En)
def tDOf (K : PySem.W.Frag) (m : MD) : TA := fun σ H Q => ∃ F0 Z B F ρ ds ρ', Rel K F0 Z B σ H F ρ ∧ m ρ = some (ds, ρ') ∧ ∀ vs H' F', Rel K F0 Z B σ H' F' ρ' → Same F F' → DRes K Z σ ρ' H' F' ds vs → Q vs H'
abbrev Ad (X : Cx) (es : List Expr) (m : MD) : Prop := PA X es (tDOf X.K m)
def dNil : MD := fun ρ => some ([], ρ)
def dCons (m : ME) (ms : MD) : MD := fun ρ => (m ρ).bind fun p => (ms p.2).map fun q => (p.1 :: q.1, q.2)
theorem ad_nil : Ad X [] dNil := PA_imp pa_nil fun σ H Q ⟨F0, Z, B, F, ρ, ds, ρ', R, e, k⟩ => by
  cases e
  exact k [] H F R (Same.refl _) rfl
theorem DRes.own_in {K : PySem.W.Frag} {Z : Hp} {σ : L2.St} {ρ : En} {H F : Hp} : ∀ {ds : List DV} {vs : List V} {j : Nat} {dj : DV}, DRes K Z σ ρ H F ds vs → ds[j]? = some dj → ∃ x, vs[j]? = some x ∧ ResOk K Z σ ρ H F x dj
  | [], _, _, _, _, e => by simp at e
  | d :: ds, _, 0, _, ⟨x, t, ev, h1, h2, h3⟩, e => by subst ev; simp at e; subst e; exact ⟨x, rfl, h1⟩
  | d :: ds, _, j + 1, _, ⟨x, t, ev, h1, h2, h3⟩, e => by
    subst ev
    obtain ⟨y, q1, q2⟩ := DRes.own_in (j := j) h2 (by simpa using e)
    exact ⟨y, by simpa using q1, q2⟩
theorem ad_cons {e : Expr} {es : List Expr} {m : ME} {ms : MD} (ha : Em X e m) (hr : Ad X es ms) (hs : starEach (e :: es) X.env = (false, eval e X.env) :: starEach es X.env := by rfl) : Ad X (e :: es) (dCons m ms) := PA_imp (pa_cons ha hr hs) fun σ H Q ⟨F0, Z, B, F, ρ, ds, ρ', R, e, k⟩ => by
  obtain ⟨⟨x, ρ1⟩, e1, e2⟩ := Option.bind_eq_some_iff.mp e
  obtain ⟨⟨xs, ρ2⟩, e3, e4⟩ := Option.map_eq_some_iff.mp e2
  cases e4
  refine tOf_of R e1 fun v H1 F1 R1 s1 r1 => ?_
  cases x with
  | bor d => exact r1.elim
  | val d => exact ⟨F0, Z, B, F1, ρ1, xs, ρ2, R1, e3, fun vs H2 F2 R2 s2 r2 => k (v :: vs) H2 F2 R2 (s1.trans s2) ⟨v, vs, rfl, Rep.mono s2 _ _ r1, r2, fun z => by cases z⟩⟩
  | own d =>
    obtain ⟨a, rfl, h1, h2, h3, off⟩ := r1
    obtain ⟨o, ho⟩ := h3.there
    refine ⟨F1, _, B, F1, ρ1, xs, ρ2, R1.prot ho off, e3, fun vs H2 F2 R2 s2 r2 => ?_⟩
    obtain ⟨R3, g1, g2, g3⟩ := R1.unprot h1 h2 R2
    have low : ∀ {ds : List DV} {vs : List V}, DRes X.K (upd Z a o) σ ρ2 H2 F2 ds vs → DRes X.K Z σ ρ2 H2 F2 ds vs ∧ ∀ (j : Nat) (dj : DV), ds[j]? = some dj → dj.owned = true → vs[j]? ≠ some (V.ref a) := by
      intro ds
      induction ds with
      | nil => intro vs h; exact ⟨h, fun j dj e => by simp at e⟩
      | cons d ds ih =>
        rintro _ ⟨x, t, rfl, q1, q2, q3⟩
        obtain ⟨i1, i2⟩ := ih q2
        have q1' : ResOk X.K Z σ ρ2 H2 F2 x d ∧ (d.owned = true → x ≠ .ref a) := by
          cases d with
          | val d => exact ⟨q1, fun z => by cases z⟩
          | bor d => exact q1.elim
          | own d =>
            obtain ⟨b, rfl, t1, t2, t3, t4⟩ := q1
            have hb : b ≠ a := fun z => by subst z; rw [upd_same] at t2; cases t2
            rw [upd_ne hb] at t2
            exact ⟨⟨b, rfl, t1, t2, t3, t4⟩, fun _ z => hb (by injection z)⟩
        refine ⟨⟨x, t, rfl, q1'.1, i1, q3⟩, fun j dj ej oj => ?_⟩
        cases j with
        | zero =>
          simp at ej; subst ej
          simp
          exact q1'.2 oj
        | succ j =>
          simp at ej
          simpa using i2 j dj ej oj
    obtain ⟨r3, r4⟩ := low r2
    exact k (.ref a :: vs) H2 F2 R3 (s1.trans s2) ⟨.ref a, vs, rfl, ⟨a, rfl, g2, h2, h3.mono (g1.trans ho.symm) s2, g3⟩, r3, fun _ b eb j dj ej oj => by
      have : a = b := by injection eb
      subst this
      exact r4 j dj ej oj⟩
def setAll : List Nat → List DV → En → Option En
  | [], [], ρ => some ρ
  | i :: is, d :: ds, ρ => setAll is ds (ρ.set i (some d))
  | _, _, _ => none
def sPar (is : List Nat) (m : MD) : MS := fun ρ => (m ρ).bind fun p => (setAll is p.1 p.2).map .nx
def setV : List Nat → List V → L2.St → L2.St
  | i :: is, v :: vs, σ => setV is vs (σ.set i (some v))
  | _, _, σ => σ
theorem setAll_ok {K : PySem.W.Frag} {F0 Z : Hp} {B : Nat → Addr} {H F : Hp} : ∀ {is : List Nat} {ds : List DV} {vs : List V} {σ : L2.St} {ρ ρ' : En}, Rel K F0 Z B σ H F ρ → DRes K Z σ ρ H F ds vs → setAll is ds ρ = some ρ' → is.length = ds.length ∧ Rel K F0 Z B (setV is vs σ) H F ρ'
  | [], [], _, σ, ρ, ρ', R, h, e => by
    cases e
    cases h
    exact ⟨rfl, R⟩
  | [], _ :: _, _, _, _, _, _, _, e => by cases e
  | _ :: _, [], _, _, _, _, _, _, e => by cases e
  | i :: is, d :: ds, _, σ, ρ, ρ', R, ⟨x, t, ev, h1, h2, h3⟩, e => by
    subst ev
    have R1 := R.setSlot (i := i) h1
    have low : ∀ {ds : List DV} {vs : List V}, DRes K Z σ ρ H F ds vs → (∀ a, d.owned = true → x = .ref a → ∀ (j : Nat) (dj : DV), ds[j]? = some dj → dj.owned = true → vs[j]? ≠ some (V.ref a)) → DRes K Z (σ.set i (some x)) (ρ.set i (some d)) H F ds vs := by
      intro ds
      induction ds with
      | nil => intro vs h _; exact h
      | cons d' ds ih =>
        rintro _ ⟨y, t', rfl, q1, q2, q3⟩ hne
        refine ⟨y, t', rfl, ?_, ih q2 fun a oa ea j dj ej oj => by simpa using hne a oa ea (j + 1) dj (by simpa using ej) oj, q3⟩
        cases d' with
        | val d' => exact q1
        | bor d' => exact q1.elim
        | own d' =>
          obtain ⟨b, rfl, t1, t2, t3, t4⟩ := q1
          refine ⟨b, rfl, t1, t2, t3, fun j dj ej oj es => ?_⟩
          by_cases hij : i = j
          · subst hij
            have hl : i < ρ.length := by
              by_cases hl : i < ρ.length
              · exact hl
              · rw [List.getElem?_eq_none (by simpa using hl)] at ej; cases ej
            rw [List.getElem?_set_self hl] at ej
            have e1 : d = dj := Option.some.inj (Option.some.inj ej)
            subst e1
            rw [List.getElem?_set_self (by rw [← R.len]; exact hl)] at es
            have e2 : x = .ref b := Option.some.inj (Option.some.inj es)
            exact hne b oj e2 0 (.own d') rfl rfl rfl
          · rw [List.getElem?_set_ne hij] at ej es
            exact t4 j dj ej oj es
    obtain ⟨g1, g2⟩ := setAll_ok R1 (low h2 fun a oa ea j dj ej oj => h3 oa a ea j dj ej oj) (show setAll is ds (ρ.set i (some d)) = some ρ' from e)
    exact ⟨by simp [g1], g2⟩
/-- plain local names -/
theorem sm_par {i j : Nat} {x y : Str} {a b : Expr} {m : MD} {px py pt pos : Pos} {kt k2 pt2} (hc : X.calm = true) (hN : X.N.Nodup) (hi : X.N[i]? = some x) (hj : X.N[j]? = some y) (hij : i ≠ j)
    (hx : X.env.scope.names.lookup x = some .local) (hy : X.env.scope.names.lookup y = some .local) (ha : Ad X [a, b] m)
    (hw : swappedStores [.Tuple [.Name x px, .Name y py] kt pt] (.Tuple [a, b] k2 pt2) X.env = pure (some [x, y]))
    (hs : swapsWithSole [.Tuple [.Name x px, .Name y py] kt pt] (.Tuple [a, b] k2 pt2) pos.line X.env = pure false := by rfl) :
    Sm X (.Assign [.Tuple [.Name x px, .Name y py] kt pt] (.Tuple [a, b] k2 pt2) pos) (sPar [i, j] m) := PS_imp (ps_par hc hN hi hj hij hx hy ha hw hs) fun D σ H ⟨F0, Z, B, F, ρ, r, R, e, k⟩ => by
  obtain ⟨⟨ds, ρ1⟩, e1, e2⟩ := Option.bind_eq_some_iff.mp e
  obtain ⟨ρ2, e3, e4⟩ := Option.map_eq_some_iff.mp e2
  subst e4
  refine ⟨F0, Z, B, F, ρ, ds, ρ1, R, e1, fun vs H1 F1 R1 s1 r1 => ?_⟩
  obtain ⟨g1, g2⟩ := setAll_ok R1 r1 e3
  match ds, vs, g1, r1 with
  | [d1, d2], vs, _, ⟨v, t, ev, _, ⟨w, t2, et, _, et2, _⟩, _⟩ =>
    subst ev et
    cases et2
    exact ⟨v, w, rfl, k _ H1 F1 g2 s1⟩
theorem sm_par3 {i j l : Nat} {x y z : Str} {a b c : Expr} {m : MD} {px py pz pt pos : Pos} {kt k2 pt2} (hc : X.calm = true) (hN : X.N.Nodup) (hi : X.N[i]? = some x) (hj : X.N[j]? = some y) (hl : X.N[l]? = some z) (hij : i ≠ j) (hil : i ≠ l) (hjl : j ≠ l)
    (h : PS X (.Assign [.Tuple [.Name x px, .Name y py, .Name z pz] kt pt] (.Tuple [a, b, c] k2 pt2) pos) (tPar3 i j l (tDOf X.K m))) :
    Sm X (.Assign [.Tuple [.Name x px, .Name y py, .Name z pz] kt pt] (.Tuple [a, b, c] k2 pt2) pos) (sPar [i, j, l] m) := PS_imp h fun D σ H ⟨F0, Z, B, F, ρ, r, R, e, k⟩ => by
  obtain ⟨⟨ds, ρ1⟩, e1, e2⟩ := Option.bind_eq_some_iff.mp e
  obtain ⟨ρ2, e3, e4⟩ := Option.map_eq_some_iff.mp e2
  subst e4
  refine ⟨F0, Z, B, F, ρ, ds, ρ1, R, e1, fun vs H1 F1 R1 s1 r1 => ?_⟩
  obtain ⟨g1, g2⟩ := setAll_ok R1 r1 e3
  match ds, vs, g1, r1 with
  | [d1, d2, d3], vs, _, ⟨v, t, ev, _, ⟨w, t2, et, _, ⟨u, t3, et3, _, et4, _⟩, _⟩, _⟩ =>
    subst ev et et3
    cases et4
    exact ⟨v, w, u, rfl, k _ H1 F1 g2 s1⟩
/-- a tuple is laid and taken apart at once -/
def gNames : List Nat → TGs
  | [] => gNil
  | i :: is => gCons (gName i) (gNames is)
theorem gNames_run : ∀ {is : List Nat} {vs : List V} {σ : L2.St} {H : Hp} {Q : L2.St → Hp → Prop}, is.length = vs.length → Q (setV is vs σ) H → gNames is vs σ H Q
  | [], [], _, _, _, _, h => ⟨rfl, h⟩
  | [], _ :: _, _, _, _, hl, _ => by simp at hl
  | _ :: _, [], _, _, _, hl, _ => by simp at hl
  | i :: is, v :: vs, σ, H, Q, hl, h => ⟨v, vs, rfl, gNames_run (is := is) (by simpa using hl) h⟩
theorem DRes.length {K : PySem.W.Frag} {Z : Hp} {σ : L2.St} {ρ : En} {H F : Hp} : ∀ {ds : List DV} {vs : List V}, DRes K Z σ ρ H F ds vs → vs.length = ds.length
  | [], _, h => by cases h; rfl
  | d :: ds, _, ⟨x, t, ev, _, h2, _⟩ => by subst ev; simp [DRes.length h2]
theorem DRes.up {K : PySem.W.Frag} {Z : Hp} {σ : L2.St} {ρ : En} {H F : Hp} {p : Addr} {o : HO} (hp : H p = none) : ∀ {ds : List DV} {vs : List V}, DRes K Z σ ρ H F ds vs → DRes K Z σ ρ (upd H p o) F ds vs
  | [], _, h => h
  | d :: ds, _, ⟨x, t, ev, h1, h2, h3⟩ => ⟨x, t, ev, by
      cases d with
      | val d => exact h1
      | bor d => exact h1.elim
      | own d =>
        obtain ⟨a, ea, q1, q2, q3, q4⟩ := h1
        obtain ⟨u, hu⟩ := q3.there
        exact ⟨a, ea, q1, q2, q3.mono (upd_ne (ne_of_none hu hp)) (Same.refl _), q4⟩, DRes.up hp h2, h3⟩
theorem sm_parT {tg : Expr} {es : List Expr} {is : List Nat} {m : MD} {k2 : Nat} {pt2 pos : Pos} (ha : Ad X es m) (hg : PG X tg (gTup X.K is.length (gNames is))) (hsz : is.length ≤ line := by decide) (hs : swapsWithSole [tg] (.Tuple es k2 pt2) pos.line X.env = pure false := by rfl) (hw : swappedStores [tg] (.Tuple es k2 pt2) X.env = pure none := by rfl)
    (h1 : (assignEach [tg] X.env).map (·.2) = [assign tg X.env] := by rfl) : Sm X (.Assign [tg] (.Tuple es k2 pt2) pos) (sPar is m) := PS_imp (ps_asg (pe_tup ha) hg hs hw h1) fun D σ H ⟨F0, Z, B, F, ρ, r, R, e, k⟩ => by
  obtain ⟨⟨ds, ρ1⟩, e1, e2⟩ := Option.bind_eq_some_iff.mp e
  obtain ⟨ρ2, e3, e4⟩ := Option.map_eq_some_iff.mp e2
  subst e4
  refine ⟨F0, Z, B, F, ρ, ds, ρ1, R, e1, fun vs H1 F1 R1 s1 r1 => ?_⟩
  have hl := r1.length
  have hl2 := (setAll_ok R1 r1 e3).1
  refine ⟨by rw [← line_eq]; omega, fun p hp => ⟨p, vs, rfl, .of upd_same, by omega, gNames_run (by omega) ?_⟩⟩
  obtain ⟨g1, g2⟩ := setAll_ok (R1.alloc (o := .tup vs) hp) (r1.up hp) e3
  exact k _ _ F1 g2 s1
/-! ### owned lists changed -/
theorem lst_slot {K : PySem.W.Frag} {F0 Z : Hp} {B : Nat → Addr} {σ : L2.St} {H F : Hp} {ρ : En} {i : Nat} {dv : DV} {ds : List D} (R : Rel K F0 Z B σ H F ρ) (e : ρ[i]? = some (some dv)) (o : dv.owned = true) (g : dv.get = .lst ds) :
    ∃ a xs, σ[i]? = some (some (.ref a)) ∧ H a = some (.lst xs) ∧ Reps K F ds xs := by
  obtain ⟨v, ev, s⟩ := R.slot i dv e
  cases dv with
  | val d => cases o
  | own d => cases g; obtain ⟨a, rfl, _, _, xs, h1, h2⟩ := s; exact ⟨a, xs, ev, h1, h2⟩
  | bor d => cases g; obtain ⟨rfl, _, _, xs, h1, h2⟩ := s; exact ⟨_, xs, ev, h1, h2⟩
/-- the owned list in a slot -/
def lstAt (ρ : En) (i : Nat) : Option (List D) := match ρ[i]? with
  | some (some (.own (.lst ds))) => some ds
  | some (some (.bor (.lst ds))) => some ds
  | _ => none
theorem lstAt_ok {ρ : En} {i : Nat} {ds : List D} (h : lstAt ρ i = some ds) : ∃ dv, ρ[i]? = some (some dv) ∧ dv.owned = true ∧ dv.get = .lst ds := by
  unfold lstAt at h
  split at h
  · rename_i d e; cases h; exact ⟨_, e, rfl, rfl⟩
  · rename_i d e; cases h; exact ⟨_, e, rfl, rfl⟩
  · cases h
theorem put_of {ρ : En} {i : Nat} {dv : DV} {d : D} (e : ρ[i]? = some (some dv)) (o : dv.owned = true) : put ρ i d = some (ρ.set i (some (dv.to d))) := by
  unfold put
  rw [e]
  cases dv with
  | val d => cases o
  | own d => rfl
  | bor d => rfl
def sApp (i : Nat) (m : ME) : MS := fun ρ => (lstAt ρ i).bind fun _ => (fz m ρ).bind fun p => (lstAt p.2 i).bind fun ds => if ds.length < line then (put p.2 i (.lst (ds ++ [p.1]))).map .nx else none
theorem sm_append {i : Nat} {x : Str} {e : Expr} {px apos cpos pos : Pos} {m : ME} (hx : PE X (.Name x px) (tVar i)) (he : Em X e m)
    (hc : ∀ (to te : TE), PE X (.Name x px) to → PE X e te → PE X (.Call (.Attribute (.Name x px) "append" apos) [e] [] cpos) (tBM X.K "list" rAppend to (tCons te tNil)))
    (hs : swapsWith (.Call (.Attribute (.Name x px) "append" apos) [e] [] cpos) none pos.line X.env = pure false := by rfl) :
    Sm X (.Expr (.Call (.Attribute (.Name x px) "append" apos) [e] [] cpos) pos) (sApp i m) := PS_imp (ps_expr (hc _ _ hx he.fz) hs) fun D σ H ⟨F0, Z, B, F, ρ, r, R, e, k⟩ => by
  obtain ⟨ds0, e0, e1⟩ := Option.bind_eq_some_iff.mp e
  obtain ⟨⟨d, ρ1⟩, e2, e3⟩ := Option.bind_eq_some_iff.mp e1
  obtain ⟨ds, e4, e5⟩ := Option.bind_eq_some_iff.mp e3
  by_cases hl : ds.length < line
  · rw [if_pos hl] at e5
    obtain ⟨ρ2, e6, e7⟩ := Option.map_eq_some_iff.mp e5
    subst e7
    obtain ⟨dv0, q1, q2, q3⟩ := lstAt_ok e0
    obtain ⟨a, xs0, es, h1, _⟩ := lst_slot R q1 q2 q3
    refine ⟨.ref a, es, .inl ⟨rfl, xs0, .of h1⟩, tOfV_of R e2 fun v H1 F1 R1 s1 r1 => ?_⟩
    obtain ⟨dv, t1, t2, t3⟩ := lstAt_ok e4
    obtain ⟨b, xs, es1, g1, g2⟩ := lst_slot R1 t1 t2 t3
    rw [es] at es1
    have : a = b := by injection Option.some.inj (Option.some.inj es1)
    subst this
    rw [put_of t1 t2] at e6
    cases e6
    refine ⟨a, xs, v, rfl, rfl, g1, by rw [g2.length, ← line_eq]; exact hl, ?_⟩
    exact k σ _ F1 (R1.write t1 t2 es ⟨_, upd_same, g2.append (.one r1)⟩) s1
  · rw [if_neg hl] at e5; cases e5
def sExtd (i : Nat) (m : ME) : MS := fun ρ => (lstAt ρ i).bind fun _ => (fz m ρ).bind fun p => (lstAt p.2 i).bind fun ds => match p.1 with
  | .lst es => if ds.length + es.length ≤ line then (put p.2 i (.lst (ds ++ es))).map .nx else none
  | _ => none
theorem sm_extend {i : Nat} {x : Str} {e : Expr} {px apos cpos pos : Pos} {m : ME} (hx : PE X (.Name x px) (tVar i)) (he : Em X e m)
    (hc : ∀ (to te : TE), PE X (.Name x px) to → PE X e te → PE X (.Call (.Attribute (.Name x px) "extend" apos) [e] [] cpos) (tBM X.K "list" rExtend to (tCons te tNil)))
    (hs : swapsWith (.Call (.Attribute (.Name x px) "extend" apos) [e] [] cpos) none pos.line X.env = pure false := by rfl) :
    Sm X (.Expr (.Call (.Attribute (.Name x px) "extend" apos) [e] [] cpos) pos) (sExtd i m) := PS_imp (ps_expr (hc _ _ hx he.fz) hs) fun D σ H ⟨F0, Z, B, F, ρ, r, R, e, k⟩ => by
  obtain ⟨ds0, e0, e1⟩ := Option.bind_eq_some_iff.mp e
  obtain ⟨⟨d, ρ1⟩, e2, e3⟩ := Option.bind_eq_some_iff.mp e1
  obtain ⟨ds, e4, e5⟩ := Option.bind_eq_some_iff.mp e3
  obtain ⟨dv0, q1, q2, q3⟩ := lstAt_ok e0
  obtain ⟨a, xs0, es0, h1, _⟩ := lst_slot R q1 q2 q3
  refine ⟨.ref a, es0, .inl ⟨rfl, xs0, .of h1⟩, tOfV_of R e2 fun v H1 F1 R1 s1 r1 => ?_⟩
  cases d with
  | lst es =>
    have e5' : (if ds.length + es.length ≤ line then (put ρ1 i (.lst (ds ++ es))).map Res.nx else none) = some r := e5
    by_cases hl : ds.length + es.length ≤ line
    · rw [if_pos hl] at e5'
      obtain ⟨ρ2, e6, e7⟩ := Option.map_eq_some_iff.mp e5'
      subst e7
      obtain ⟨dv, t1, t2, t3⟩ := lstAt_ok e4
      obtain ⟨b, xs, es1, g1, g2⟩ := lst_slot R1 t1 t2 t3
      rw [es0] at es1
      have : a = b := by injection Option.some.inj (Option.some.inj es1)
      subst this
      rw [put_of t1 t2] at e6
      cases e6
      unfold Rep at r1
      obtain ⟨c, ys, rfl, y1, y2⟩ := r1
      refine ⟨a, c, xs, ys, rfl, rfl, g1, R1.sub _ _ y1, by rw [g2.length, y2.length, ← line_eq]; exact hl, ?_⟩
      exact k σ _ F1 (R1.write t1 t2 es0 ⟨_, upd_same, g2.append y2⟩) s1
    · rw [if_neg hl] at e5'; cases e5'
  | _ => cases e5
def sSetIx (i : Nat) (mi mv : ME) : MS := fun ρ => (fz mv ρ).bind fun p => (lstAt p.2 i).bind fun _ => (fz mi p.2).bind fun q => (lstAt q.2 i).bind fun ds => match q.1 with
  | .int n => (ixN ds.length n).bind fun j => (put q.2 i (.lst (ds.set j p.1))).map .nx
  | _ => none
theorem sm_setIx {i : Nat} {x : Str} {ei ev : Expr} {px spos pos : Pos} {mi mv : ME} (hx : PE X (.Name x px) (tVar i)) (hi : Em X ei mi) (hv : Em X ev mv)
    (hgs : ∀ (to ti : TE), PE X (.Name x px) to → PE X ei ti → PG X (.Subscript (.Name x px) ei spos) (gSub to ti rSetL)) (hs : swapsWithSole [.Subscript (.Name x px) ei spos] ev pos.line X.env = pure false := by rfl) (hw : swappedStores [.Subscript (.Name x px) ei spos] ev X.env = pure none := by rfl)
    (h1 : (assignEach [.Subscript (.Name x px) ei spos] X.env).map (·.2) = [assign (.Subscript (.Name x px) ei spos) X.env] := by rfl) :
    Sm X (.Assign [.Subscript (.Name x px) ei spos] ev pos) (sSetIx i mi mv) := PS_imp (ps_asg hv.fz (hgs _ _ hx hi.fz) hs hw h1) fun D σ H ⟨F0, Z, B, F, ρ, r, R, e, k⟩ => by
  obtain ⟨⟨d, ρ1⟩, e2, e3⟩ := Option.bind_eq_some_iff.mp e
  obtain ⟨ds0, e0, e4⟩ := Option.bind_eq_some_iff.mp e3
  obtain ⟨⟨y, ρ2⟩, e5, e6⟩ := Option.bind_eq_some_iff.mp e4
  obtain ⟨ds, e7, e8⟩ := Option.bind_eq_some_iff.mp e6
  refine tOfV_of R e2 fun v H1 F1 R1 s1 r1 => ?_
  obtain ⟨dv0, q1, q2, q3⟩ := lstAt_ok e0
  obtain ⟨a, xs0, es0, h1, _⟩ := lst_slot R1 q1 q2 q3
  refine ⟨.ref a, es0, tOfV_of R1 e5 fun u H2 F2 R2 s2 r2 => ?_⟩
  cases y with
  | int n =>
    obtain ⟨j, e9, e10⟩ := Option.bind_eq_some_iff.mp (show (ixN ds.length n).bind (fun j => (put ρ2 i (.lst (ds.set j d))).map Res.nx) = some r from e8)
    obtain ⟨ρ3, e11, e12⟩ := Option.map_eq_some_iff.mp e10
    subst e12
    obtain ⟨dv, t1, t2, t3⟩ := lstAt_ok e7
    obtain ⟨b, xs, es1, g1, g2⟩ := lst_slot R2 t1 t2 t3
    rw [es0] at es1
    have : a = b := by injection Option.some.inj (Option.some.inj es1)
    subst this
    rw [put_of t1 t2] at e11
    cases e11
    unfold Rep at r2
    subst r2
    refine ⟨a, xs, n, j, rfl, rfl, g1, by rw [g2.length]; exact e9, ?_⟩
    exact k σ _ F2 (R2.write t1 t2 es0 ⟨_, upd_same, g2.set j (Rep.mono s2 _ _ r1)⟩) (s1.trans s2)
  | _ => cases e8
/-- x.pop(e) -/
def mPopAt (i : Nat) (m : ME) : ME := fun ρ => (lstAt ρ i).bind fun _ => (fz m ρ).bind fun p => (lstAt p.2 i).bind fun ds => match p.1 with
  | .int n => if ds.length ≤ line then (ixN ds.length n).bind fun j => (ds[j]?).bind fun d => (put p.2 i (.lst (ds.eraseIdx j))).map fun ρ' => (.val d, ρ') else none
  | _ => none
theorem em_popAt {i : Nat} {x : Str} {e : Expr} {px apos cpos : Pos} {m : ME} (hx : PE X (.Name x px) (tVar i)) (he : Em X e m)
    (hc : ∀ (to te : TE), PE X (.Name x px) to → PE X e te → PE X (.Call (.Attribute (.Name x px) "pop" apos) [e] [] cpos) (tBM X.K "list" rPopAt to (tCons te tNil))) :
    Em X (.Call (.Attribute (.Name x px) "pop" apos) [e] [] cpos) (mPopAt i m) := PE_imp (hc _ _ hx he.fz) fun σ H Q ⟨F0, Z, B, F, ρ, dv, ρ', R, e, k⟩ => by
  obtain ⟨ds0, e0, e1⟩ := Option.bind_eq_some_iff.mp e
  obtain ⟨⟨d, ρ1⟩, e2, e3⟩ := Option.bind_eq_some_iff.mp e1
  obtain ⟨ds, e4, e5⟩ := Option.bind_eq_some_iff.mp e3
  obtain ⟨dv0, q1, q2, q3⟩ := lstAt_ok e0
  obtain ⟨a, xs0, es0, h1, _⟩ := lst_slot R q1 q2 q3
  refine ⟨.ref a, es0, .inl ⟨rfl, xs0, .of h1⟩, tOfV_of R e2 fun v H1 F1 R1 s1 r1 => ?_⟩
  cases d with
  | int n =>
    have e5' : (if ds.length ≤ line then (ixN ds.length n).bind fun j => (ds[j]?).bind fun d => (put ρ1 i (.lst (ds.eraseIdx j))).map fun ρ' => (DV.val d, ρ') else none) = some (dv, ρ') := e5
    by_cases hl : ds.length ≤ line
    · rw [if_pos hl] at e5'
      obtain ⟨j, e6, e7⟩ := Option.bind_eq_some_iff.mp e5'
      obtain ⟨d', e8, e9⟩ := Option.bind_eq_some_iff.mp e7
      obtain ⟨ρ2, e10, e11⟩ := Option.map_eq_some_iff.mp e9
      cases e11
      obtain ⟨dw, t1, t2, t3⟩ := lstAt_ok e4
      obtain ⟨b, xs, es1, g1, g2⟩ := lst_slot R1 t1 t2 t3
      rw [es0] at es1
      have : a = b := by injection Option.some.inj (Option.some.inj es1)
      subst this
      rw [put_of t1 t2] at e10
      cases e10
      unfold Rep at r1
      subst r1
      obtain ⟨y, f1, f2⟩ := g2.get e8
      obtain ⟨p1, p2, p3, p4⟩ := ixN_seq e6
      have hb : line = 16777216 := rfl
      refine ⟨a, xs, n, j, y, rfl, rfl, g1, by omega, by omega, by rw [g2.length]; exact p1, f1, ?_⟩
      exact k y _ F1 (R1.write t1 t2 es0 ⟨_, upd_same, g2.eraseIdx j⟩) s1 f2
    · rw [if_neg hl] at e5'; cases e5'
  | _ => cases e5
end
end Cb

set_option Elab.async false
set_option linter.all false
set_option maxRecDepth 100000
/-! Rules: what is walked, loops, comprehensions. -/
namespace Cb
open PySem PySem.Spec PyProof.Rows L2
/-! ### what is walked -/
theorem reps_ints {K : PySem.W.Frag} {F : Hp} : ∀ ns : List Int, Reps K F (ns.map D.int) (ns.map V.int)
  | [] => .nil
  | n :: ns => .cons rep_int (reps_ints ns)
def ItOk (K : PySem.W.Frag) (J : It) (F : Hp) (ds : List D) : Prop := ∀ (F0 Z : Hp) (B : Nat → Addr) (σ : L2.St) (H F1 : Hp) (ρ : En) (i : Nat), Same F F1 → Rel K F0 Z B σ H F1 ρ →
  (i < ds.length → J.go i H ∧ ∀ x H', J.yld i H x H' → ∃ F2 d, ds[i]? = some d ∧ Same F1 F2 ∧ Rel K F0 Z B σ H' F2 ρ ∧ Rep K F2 d x) ∧ (ds.length ≤ i → J.stop i H)
def tIOf (K : PySem.W.Frag) (m : MA) : TI := fun σ H R => ∃ F0 Z B F ρ ds ρ', Rel K F0 Z B σ H F ρ ∧ m ρ = some (ds, ρ') ∧ ∀ J H' F', Rel K F0 Z B σ H' F' ρ' → Same F F' → ItOk K J F' ds → R J H'
abbrev Im (X : Cx) (tg iter : Expr) (m : MA) : Prop := PI X tg iter (tIOf X.K m)
theorem PI_imp {X : Cx} {tg iter : Expr} {t t' : TI} (h : PI X tg iter t) (i : ∀ σ H R, t' σ H R → t σ H R) : PI X tg iter t' := ⟨fun pins s σ H R I q => h.run pins s σ H R I (i _ _ _ q)⟩
theorem PI_or {X : Cx} {tg iter : Expr} {t t' : TI} (h : PI X tg iter t) (h' : PI X tg iter t') : PI X tg iter (fun σ H R => t σ H R ∨ t' σ H R) := ⟨fun pins s σ H R I q => q.elim (h.run pins s σ H R I) (h'.run pins s σ H R I)⟩
section
variable {K : PySem.W.Frag}
theorem it_list {F : Hp} {a : Addr} {ds : List D} {xs : List V} (h : ∀ F1, Same F F1 → SqL K F1 a xs) (r : Reps K F ds xs) : ItOk K (Itl K a) F ds := fun F0 Z B σ H F1 ρ i s R => by
  have hH : SqL K H a xs := R.sub.seq (h F1 s)
  refine ⟨fun hi => ?_, fun hi => ⟨xs, hH, by rw [r.length]; exact hi⟩⟩
  have e : ds[i]? = some ds[i] := List.getElem?_eq_getElem hi
  obtain ⟨x, ex, rx⟩ := r.get e
  refine ⟨⟨xs, x, hH, ex⟩, fun y H' ⟨eH, hy⟩ => ?_⟩
  subst eH
  have := hy xs hH
  rw [ex] at this
  cases this
  exact ⟨F1, _, e, Same.refl _, R, Rep.mono s _ _ rx⟩
theorem it_tup {F : Hp} {a : Addr} {ds : List D} {xs : List V} (h : SqT K F a xs) (r : Reps K F ds xs) : ItOk K (Itt K a) F ds := fun F0 Z B σ H F1 ρ i s R => by
  have hH : SqT K H a xs := SqT_mono (s.trans R.sub) h
  refine ⟨fun hi => ?_, fun hi => ⟨xs, hH, by rw [r.length]; exact hi⟩⟩
  have e : ds[i]? = some ds[i] := List.getElem?_eq_getElem hi
  obtain ⟨x, ex, rx⟩ := r.get e
  refine ⟨⟨xs, x, hH, ex⟩, fun y H' ⟨eH, hy⟩ => ?_⟩
  subst eH
  have := hy xs hH
  rw [ex] at this
  cases this
  exact ⟨F1, _, e, Same.refl _, R, Rep.mono s _ _ rx⟩
def rangeD (lo : Int) (n : Nat) : List D := (List.range n).map fun i => D.int (lo + (i : Nat))
theorem rangeD_length (lo : Int) (n : Nat) : (rangeD lo n).length = n := by simp [rangeD]
theorem it_range {F : Hp} (lo : Int) (n : Nat) : ItOk K (Itr lo n) F (rangeD lo n) := fun F0 Z B σ H F1 ρ i s R => by
  refine ⟨fun hi => ?_, fun hi => by rw [rangeD_length] at hi; exact hi⟩
  rw [rangeD_length] at hi
  refine ⟨hi, fun y H' ⟨eH, hy⟩ => ?_⟩
  subst eH hy
  exact ⟨F1, .int (lo + i), by simp [rangeD, hi], Same.refl _, R, rep_int⟩
theorem it_new {F1 F0 Z H H' : Hp} {B : Nat → Addr} {σ : L2.St} {ρ : En} {T : Addr} {ds : List D} {xs : List V} (R : Rel K F0 Z B σ H F1 ρ) (hT : H T = none) (r : Reps K F1 ds xs) (e : H' = upd H T (.tup xs)) :
    ∃ F2, Same F1 F2 ∧ Rel K F0 Z B σ H' F2 ρ ∧ Rep K F2 (.tup ds) (.ref T) := by
  subst e
  obtain ⟨R2, s2, r2⟩ := new_tup R hT r
  exact ⟨_, s2, R2, r2⟩
def zipD (ds es : List D) : List D := List.zipWith (fun d e => D.tup [d, e]) ds es
theorem zipD_length (ds es : List D) : (zipD ds es).length = min ds.length es.length := by simp [zipD]
theorem it_zipL {F : Hp} {a b : Addr} {ds es : List D} {xs ys : List V} (ha : F a = some (.lst xs)) (hb : F b = some (.lst ys)) (r : Reps K F ds xs) (q : Reps K F es ys) : ItOk K (Itz K a b) F (zipD ds es) := fun F0 Z B σ H F1 ρ i s R => by
  have hA : SqL K H a xs := .of (R.sub _ _ (s _ _ ha))
  have hB : SqL K H b ys := .of (R.sub _ _ (s _ _ hb))
  refine ⟨fun hi => ?_, fun hi => ⟨xs, ys, hA, hB, by rw [zipD_length] at hi; rw [r.length, q.length]; omega⟩⟩
  rw [zipD_length] at hi
  have e1 : ds[i]? = some (ds[i]'(by omega)) := List.getElem?_eq_getElem (by omega)
  have e2 : es[i]? = some (es[i]'(by omega)) := List.getElem?_eq_getElem (by omega)
  obtain ⟨x, ex, rx⟩ := r.get e1
  obtain ⟨y, ey, ry⟩ := q.get e2
  refine ⟨⟨xs, ys, x, y, hA, hB, ex, ey⟩, fun v H' ⟨T, x', y', ev, hT, eH, f1, f2⟩ => ?_⟩
  have g1 := f1 xs hA
  have g2 := f2 ys hB
  rw [ex] at g1; cases g1
  rw [ey] at g2; cases g2
  subst ev
  obtain ⟨F2, s2, R2, r2⟩ := it_new R hT (.cons (Rep.mono s _ _ rx) (.cons (Rep.mono s _ _ ry) .nil)) eH
  refine ⟨F2, _, ?_, s2, R2, r2⟩
  simp [zipD, List.getElem?_zipWith, e1, e2]
theorem it_zipT {F : Hp} {a b : Addr} {ds es : List D} {xs ys : List V} (ha : SqT K F a xs) (hb : SqT K F b ys) (r : Reps K F ds xs) (q : Reps K F es ys) : ItOk K (RZ.ItzT K a b) F (zipD ds es) := fun F0 Z B σ H F1 ρ i s R => by
  have hA : SqT K H a xs := SqT_mono (s.trans R.sub) ha
  have hB : SqT K H b ys := SqT_mono (s.trans R.sub) hb
  refine ⟨fun hi => ?_, fun hi => ⟨xs, ys, hA, hB, by rw [zipD_length] at hi; rw [r.length, q.length]; omega⟩⟩
  rw [zipD_length] at hi
  have e1 : ds[i]? = some (ds[i]'(by omega)) := List.getElem?_eq_getElem (by omega)
  have e2 : es[i]? = some (es[i]'(by omega)) := List.getElem?_eq_getElem (by omega)
  obtain ⟨x, ex, rx⟩ := r.get e1
  obtain ⟨y, ey, ry⟩ := q.get e2
  refine ⟨⟨xs, ys, x, y, hA, hB, ex, ey⟩, fun v H' ⟨T, x', y', ev, hT, eH, f1, f2⟩ => ?_⟩
  have g1 := f1 xs hA
  have g2 := f2 ys hB
  rw [ex] at g1; cases g1
  rw [ey] at g2; cases g2
  subst ev
  obtain ⟨F2, s2, R2, r2⟩ := it_new R hT (.cons (Rep.mono s _ _ rx) (.cons (Rep.mono s _ _ ry) .nil)) eH
  refine ⟨F2, _, ?_, s2, R2, r2⟩
  simp [zipD, List.getElem?_zipWith, e1, e2]
def enumD (n : Nat) : List D → List D
  | [] => []
  | d :: ds => .tup [.int n, d] :: enumD (n + 1) ds
theorem enumD_length : ∀ (n : Nat) (ds : List D), (enumD n ds).length = ds.length
  | _, [] => rfl
  | n, d :: ds => by simp [enumD, enumD_length (n + 1) ds]
theorem enumD_get : ∀ (n : Nat) (ds : List D) (i : Nat), (enumD n ds)[i]? = (ds[i]?).map fun d => .tup [.int ((n + i : Nat) : Int), d]
  | _, [], _ => by simp [enumD]
  | n, d :: ds, 0 => by simp [enumD]
  | n, d :: ds, i + 1 => by
    simp only [enumD, List.getElem?_cons_succ]
    rw [enumD_get (n + 1) ds i]
    have : n + 1 + i = n + (i + 1) := by omega
    rw [this]
theorem it_enum {F : Hp} {a : Addr} {ds : List D} {xs : List V} (ha : F a = some (.lst xs)) (r : Reps K F ds xs) : ItOk K (Ite K a) F (enumD 0 ds) := fun F0 Z B σ H F1 ρ i s R => by
  have hA : SqL K H a xs := .of (R.sub _ _ (s _ _ ha))
  refine ⟨fun hi => ?_, fun hi => ⟨xs, hA, by rw [enumD_length] at hi; rw [r.length]; exact hi⟩⟩
  rw [enumD_length] at hi
  have e1 : ds[i]? = some ds[i] := List.getElem?_eq_getElem hi
  obtain ⟨x, ex, rx⟩ := r.get e1
  refine ⟨⟨xs, x, hA, ex⟩, fun v H' ⟨T, x', ev, hT, eH, f1⟩ => ?_⟩
  have g1 := f1 xs hA
  rw [ex] at g1; cases g1
  subst ev
  obtain ⟨F2, s2, R2, r2⟩ := it_new R hT (.cons (rep_int (i := ((i : Nat) : Int))) (.cons (Rep.mono s _ _ rx) .nil)) eH
  refine ⟨F2, _, ?_, s2, R2, r2⟩
  rw [enumD_get, e1]
  simp
end
section
variable {X : Cx} {tg : Expr}
def iSeq (m : ME) : MA := fun ρ => (fz m ρ).bind fun p => match p.1 with
  | .lst ds => some (ds, p.2)
  | .tup ds => some (ds, p.2)
  | .scr ns => some (ns.map .int, p.2)
  | _ => none
theorem im_seq {e : Expr} {m : ME} (h : Em X e m) : Im X tg e (iSeq m) := PI_imp (PI_or (pi_list h.fz) (pi_tup h.fz)) fun σ H R' ⟨F0, Z, B, F, ρ, ds, ρ', R, e, k⟩ => by
  obtain ⟨⟨d, ρ1⟩, e1, e2⟩ := Option.bind_eq_some_iff.mp e
  cases d with
  | lst es =>
    cases e2
    refine .inl (tOfV_of R e1 fun v H1 F1 R1 s1 r1 => ?_)
    unfold Rep at r1
    obtain ⟨a, xs, rfl, h1, h2⟩ := r1
    exact ⟨a, rfl, ⟨xs, .of (R1.sub _ _ h1)⟩, k _ H1 F1 R1 s1 (it_list (fun F2 s2 => .of (s2 _ _ h1)) h2)⟩
  | scr ns =>
    cases e2
    refine .inl (tOfV_of R e1 fun v H1 F1 R1 s1 r1 => ?_)
    unfold Rep at r1
    obtain ⟨a, rfl, h1⟩ := r1
    refine ⟨a, rfl, ⟨_, R1.sub.seq h1⟩, k _ H1 F1 R1 s1 (it_list (fun F2 s2 => s2.seq h1) ?_)⟩
    exact reps_ints ns
  | tup es =>
    cases e2
    refine .inr (tOfV_of R e1 fun v H1 F1 R1 s1 r1 => ?_)
    unfold Rep at r1
    obtain ⟨a, xs, rfl, h1, h2⟩ := r1
    exact ⟨a, rfl, ⟨xs, SqT_mono R1.sub h1⟩, k _ H1 F1 R1 s1 (it_tup h1 h2)⟩
  | _ => cases e2
def iRng (ms : MA) : MA := fun ρ => (ms ρ).bind fun p => match p.1 with
  | [.int j] => if -(2 ^ 62) ≤ j ∧ j < 2 ^ 62 then some (rangeD 0 j.toNat, p.2) else none
  | [.int i, .int j] => if -(2 ^ 62) ≤ i ∧ i < 2 ^ 62 ∧ -(2 ^ 62) ≤ j ∧ j < 2 ^ 62 then some (rangeD i (j - i).toNat, p.2) else none
  | _ => none
theorem im_range1 {a : Expr} {ms : MA} {p pos : Pos} (hg : Gl X "range") (hm : X.mg "range" = none) (ha : Am X [a] ms) (hl : ∀ ρ p, ms ρ = some p → p.1.length = 1) (hs : starEach [a] X.env = [(false, eval a X.env)] := by rfl) : Im X tg (.Call (.Name "range" p) [a] [] pos) (iRng ms) :=
  PI_imp (pi_range1 hg hm ha hs) fun σ H R' ⟨F0, Z, B, F, ρ, ds, ρ', R, e, k⟩ => by
    obtain ⟨⟨d, ρ1⟩, e1, e2⟩ := Option.bind_eq_some_iff.mp e
    have hn := hl ρ _ e1
    refine tAOf_of R e1 fun vs H1 F1 R1 s1 r1 => ?_
    match d, hn, e2, r1 with
    | [.int j], _, e2, r1 =>
      have e2' : (if -(2 ^ 62) ≤ j ∧ j < 2 ^ 62 then some (rangeD 0 j.toNat, ρ1) else none) = some (ds, ρ') := e2
      obtain ⟨⟨h1, h2⟩, e3⟩ := ite_some e2'
      cases e3
      obtain ⟨v, rfl, rv⟩ := reps1 r1
      unfold Rep at rv; subst rv
      exact ⟨j, rfl, h1, h2, k _ H1 F1 R1 s1 (it_range 0 j.toNat)⟩
theorem im_range2 {a b : Expr} {ms : MA} {p pos : Pos} (hg : Gl X "range") (hm : X.mg "range" = none) (ha : Am X [a, b] ms) (hl : ∀ ρ p, ms ρ = some p → p.1.length = 2) (hs : starEach [a, b] X.env = [(false, eval a X.env), (false, eval b X.env)] := by rfl) (hs2 : starEach [b] X.env = [(false, eval b X.env)] := by rfl) : Im X tg (.Call (.Name "range" p) [a, b] [] pos) (iRng ms) :=
  PI_imp (pi_range2 hg hm ha hs hs2) fun σ H R' ⟨F0, Z, B, F, ρ, ds, ρ', R, e, k⟩ => by
    obtain ⟨⟨d, ρ1⟩, e1, e2⟩ := Option.bind_eq_some_iff.mp e
    have hn := hl ρ _ e1
    refine tAOf_of R e1 fun vs H1 F1 R1 s1 r1 => ?_
    match d, hn, e2, r1 with
    | [.int i, .int j], _, e2, r1 =>
      have e2' : (if -(2 ^ 62) ≤ i ∧ i < 2 ^ 62 ∧ -(2 ^ 62) ≤ j ∧ j < 2 ^ 62 then some (rangeD i (j - i).toNat, ρ1) else none) = some (ds, ρ') := e2
      obtain ⟨hb, e3⟩ := ite_some e2'
      cases e3
      obtain ⟨v, u, rfl, rv, ru⟩ := reps2 r1
      unfold Rep at rv ru; subst rv ru
      exact ⟨i, j, rfl, hb, k _ H1 F1 R1 s1 (it_range i (j - i).toNat)⟩
def iZip (ms : MA) : MA := fun ρ => (ms ρ).bind fun p => match p.1 with
  | [.lst ds, .lst es] => some (zipD ds es, p.2)
  | [.tup ds, .tup es] => some (zipD ds es, p.2)
  | _ => none
theorem im_zip {a b : Expr} {ms : MA} {p pos tpos : Pos} {elts : List Expr} {kk : Nat} (hg : Gl X "zip") (hm : X.mg "zip" = none) (ha : Am X [a, b] ms) (hs : starEach [a, b] X.env = (false, eval a X.env) :: starEach [b] X.env := by rfl) (hpl : (backTo pos (starEach [b] X.env)).any (·.1) = false := by rfl) :
    Im X (.Tuple elts kk tpos) (.Call (.Name "zip" p) [a, b] [] pos) (iZip ms) := PI_imp (RZ.pi_zipA hg hm ha hs hpl) fun σ H R' ⟨F0, Z, B, F, ρ, ds, ρ', R, e, k⟩ => by
    obtain ⟨⟨d, ρ1⟩, e1, e2⟩ := Option.bind_eq_some_iff.mp e
    refine tAOf_of R e1 fun vs H1 F1 R1 s1 r1 => ?_
    split at e2
    · rename_i x y hd
      cases (show d = _ from hd)
      cases e2
      obtain ⟨v, u, rfl, rv, ru⟩ := reps2 r1
      unfold Rep at rv ru
      obtain ⟨a', xs, rfl, h1, h2⟩ := rv
      obtain ⟨b', ys, rfl, h3, h4⟩ := ru
      exact ⟨a', b', xs, ys, rfl, .inl ⟨.of (R1.sub _ _ h1), .of (R1.sub _ _ h3), k _ H1 F1 R1 s1 (it_zipL h1 h3 h2 h4)⟩⟩
    · rename_i x y hd
      cases (show d = _ from hd)
      cases e2
      obtain ⟨v, u, rfl, rv, ru⟩ := reps2 r1
      unfold Rep at rv ru
      obtain ⟨a', xs, rfl, h1, h2⟩ := rv
      obtain ⟨b', ys, rfl, h3, h4⟩ := ru
      exact ⟨a', b', xs, ys, rfl, .inr ⟨SqT_mono R1.sub h1, SqT_mono R1.sub h3, k _ H1 F1 R1 s1 (it_zipT h1 h3 h2 h4)⟩⟩
    · cases e2
def iEnu (ms : MA) : MA := fun ρ => (ms ρ).bind fun p => match p.1 with
  | [.lst ds] => some (enumD 0 ds, p.2)
  | _ => none
theorem im_enum {a : Expr} {ms : MA} {p pos tpos : Pos} {elts : List Expr} {kk : Nat} (hg : Gl X "enumerate") (hm : X.mg "enumerate" = none) (ha : Am X [a] ms) (hs : starEach [a] X.env = [(false, eval a X.env)] := by rfl) :
    Im X (.Tuple elts kk tpos) (.Call (.Name "enumerate" p) [a] [] pos) (iEnu ms) := PI_imp (pi_enum hg hm ha hs) fun σ H R' ⟨F0, Z, B, F, ρ, ds, ρ', R, e, k⟩ => by
    obtain ⟨⟨d, ρ1⟩, e1, e2⟩ := Option.bind_eq_some_iff.mp e
    refine tAOf_of R e1 fun vs H1 F1 R1 s1 r1 => ?_
    split at e2
    · rename_i x hd
      cases (show d = _ from hd)
      cases e2
      obtain ⟨v, rfl, rv⟩ := reps1 r1
      unfold Rep at rv
      obtain ⟨a', xs, rfl, h1, h2⟩ := rv
      exact ⟨a', xs, rfl, .of (R1.sub _ _ h1), k _ H1 F1 R1 s1 (it_enum h1 h2)⟩
    · cases e2
/-! ### for -/
def forL (g : MG) (b : MS) : List D → En → Option Res
  | [], ρ => some (.nx ρ)
  | d :: ds, ρ => (g d ρ).bind fun ρ1 => (b ρ1).bind fun r => match r with
    | .nx ρ2 => forL g b ds ρ2
    | .ct ρ2 => forL g b ds ρ2
    | .bk ρ2 => some (.nx ρ2)
    | .rt dv ρ2 => some (.rt dv ρ2)
def sFor (mi : MA) (g : MG) (b : MS) : MS := fun ρ => (mi ρ).bind fun p => forL g b p.1 p.2
theorem sm_for {iter : Expr} {body : List Stmt} {mi : MA} {ws : List Nat} {g : MG} {b : MS} {pos : Pos} (hp : PassesOwn (model X.prog X.w) X.A X.env X.xe) (hc : X.calm = true) (hi : Im X tg iter mi) (hg : Gm X tg ws g) (hb : Ss X body b)
    (hs : ∀ x, foldedSetIterable iter X.env x = pure x := by intro _; rfl) : Sm X (.For tg iter body [] pos) (sFor mi g b) := PS_imp (ps_for hp hc hi hg hb hs) fun D σ H ⟨F0, Z, B, F, ρ, r, R, e, k⟩ => by
  obtain ⟨⟨ds, ρ1⟩, e1, e2⟩ := Option.bind_eq_some_iff.mp e
  refine ⟨F0, Z, B, F, ρ, ds, ρ1, R, e1, fun J H1 F1 R1 s1 ok => ?_⟩
  refine ⟨fun i m σ' H' => m = ds.length - i ∧ i ≤ ds.length ∧ ∃ F' ρ', Rel X.K F0 Z B σ' H' F' ρ' ∧ Same F1 F' ∧ forL g b (ds.drop i) ρ' = some r, ⟨ds.length, by simp, Nat.zero_le _, F1, ρ1, R1, Same.refl _, by simpa using e2⟩, ?_⟩
  rintro i m σ' H' ⟨rfl, hle, F', ρ', R', s', eL⟩
  obtain ⟨ok1, ok2⟩ := ok F0 Z B σ' H' F' ρ' i s' R'
  by_cases hi' : i < ds.length
  · right
    obtain ⟨go, yl⟩ := ok1 hi'
    refine ⟨go, fun σ2 H2 => ∃ F2 ρ2, Rel X.K F0 Z B σ2 H2 F2 ρ2 ∧ Same F1 F2 ∧ forL g b (ds.drop (i + 1)) ρ2 = some r, fun σ2 H2 ⟨F2, ρ2, R2, s2, e3⟩ => ⟨ds.length - (i + 1), by omega, rfl, hi', F2, ρ2, R2, s2, e3⟩, fun x H2 y => ?_⟩
    obtain ⟨F2, d, ed, s2, R2, rd⟩ := yl x H2 y
    have hd : ds.drop i = d :: ds.drop (i + 1) := by
      rw [List.drop_eq_getElem_cons hi']
      congr 1
      rw [List.getElem?_eq_getElem hi'] at ed
      exact Option.some.inj ed
    rw [hd] at eL
    obtain ⟨ρ3, e3, e4⟩ := Option.bind_eq_some_iff.mp (show (g d ρ').bind _ = some r from eL)
    obtain ⟨r1, e5, e6⟩ := Option.bind_eq_some_iff.mp e4
    refine ⟨F0, Z, B, F2, ρ', d, ρ3, R2, rd, e3, fun σ3 F3 R3 s3 _ => tSOf_of R3 e5 ?_⟩
    have s13 : Same F1 F3 := s'.trans (s2.trans s3)
    cases r1 with
    | nx ρ4 => exact fun σ4 H4 F4 R4 s4 => ⟨F4, ρ4, R4, s13.trans s4, e6⟩
    | ct ρ4 => exact fun σ4 H4 F4 R4 s4 => ⟨F4, ρ4, R4, s13.trans s4, e6⟩
    | bk ρ4 => cases e6; exact fun σ4 H4 F4 R4 s4 => k σ4 H4 F4 R4 (s1.trans (s13.trans s4))
    | rt dv ρ4 => cases e6; exact fun v σ4 H4 F4 R4 s4 rr => k v σ4 H4 F4 R4 (s1.trans (s13.trans s4)) rr
  · left
    have hd : ds.drop i = [] := List.drop_eq_nil_of_le (by omega)
    rw [hd] at eL
    cases eL
    exact ⟨ok2 (by omega), k σ' H' F' R' (s1.trans s')⟩
/-! ### while -/
def whN (c : MT) (b : MS) : Nat → En → Option Res
  | 0, _ => none
  | n + 1, ρ => (c ρ).bind fun p => if p.1 = true then (b p.2).bind fun r => match r with
    | .nx ρ2 => whN c b n ρ2
    | .ct ρ2 => whN c b n ρ2
    | .bk ρ2 => some (.nx ρ2)
    | .rt dv ρ2 => some (.rt dv ρ2) else some (.nx p.2)
theorem whN_succ {c : MT} {b : MS} : ∀ {n : Nat} {ρ : En} {r : Res}, whN c b n ρ = some r → whN c b (n + 1) ρ = some r
  | 0, _, _, h => by cases h
  | n + 1, ρ, r, h => by
    obtain ⟨p, e1, e2⟩ := Option.bind_eq_some_iff.mp (show (c ρ).bind _ = some r from h)
    show (c ρ).bind _ = some r
    rw [e1]
    show (if p.1 = true then _ else _) = some r
    by_cases hp : p.1 = true
    · rw [if_pos hp] at e2 ⊢
      obtain ⟨q, e3, e4⟩ := Option.bind_eq_some_iff.mp e2
      rw [e3]
      cases q with
      | nx ρ2 => exact whN_succ (n := n) e4
      | ct ρ2 => exact whN_succ (n := n) e4
      | bk ρ2 => exact e4
      | rt dv ρ2 => exact e4
    · rw [if_neg hp] at e2 ⊢; exact e2
theorem whN_add {c : MT} {b : MS} {n : Nat} {ρ : En} {r : Res} (h : whN c b n ρ = some r) : ∀ k, whN c b (n + k) ρ = some r
  | 0 => h
  | k + 1 => whN_succ (whN_add h k)
theorem whN_det {c : MT} {b : MS} {n m : Nat} {ρ : En} {r r' : Res} (h : whN c b n ρ = some r) (h' : whN c b m ρ = some r') : r = r' := by
  have h1 := whN_add h m
  have h2 := whN_add h' n
  rw [Nat.add_comm] at h2
  rw [h1] at h2
  exact Option.some.inj h2
open Classical in
noncomputable def sWhile (c : MT) (b : MS) : MS := fun ρ => if h : ∃ r, ∃ n, whN c b n ρ = some r then some (Classical.choose h) else none
theorem sWhile_of {c : MT} {b : MS} {n : Nat} {ρ : En} {r : Res} (h : whN c b n ρ = some r) : sWhile c b ρ = some r := by
  unfold sWhile
  have hx : ∃ r, ∃ n, whN c b n ρ = some r := ⟨r, n, h⟩
  rw [dif_pos hx]
  obtain ⟨m, hm⟩ := Classical.choose_spec hx
  rw [whN_det hm h]
theorem sWhile_to {c : MT} {b : MS} {ρ : En} {r : Res} (h : sWhile c b ρ = some r) : ∃ n, whN c b n ρ = some r := by
  unfold sWhile at h
  split at h
  · rename_i hx
    obtain ⟨m, hm⟩ := Classical.choose_spec hx
    cases h
    exact ⟨m, hm⟩
  · cases h
theorem sm_while {c : Expr} {body : List Stmt} {mc : MT} {b : MS} {pos : Pos} (hp : PassesOwn (model X.prog X.w) X.A X.env X.xe) (hc : Et X c mc) (hb : Ss X body b) : Sm X (.While c body [] pos) (sWhile mc b) := PS_imp (ps_while hp hc hb) fun D σ H ⟨F0, Z, B, F, ρ, r, R, e, k⟩ => by
  obtain ⟨n, en⟩ := sWhile_to e
  refine ⟨fun m σ' H' => ∃ F' ρ', Rel X.K F0 Z B σ' H' F' ρ' ∧ Same F F' ∧ whN mc b m ρ' = some r, ⟨n, F, ρ, R, Same.refl _, en⟩, ?_⟩
  rintro m σ' H' ⟨F', ρ', R', s', em⟩
  cases m with
  | zero => cases em
  | succ m =>
    obtain ⟨⟨t, ρ1⟩, e1, e2⟩ := Option.bind_eq_some_iff.mp (show (mc ρ').bind _ = some r from em)
    refine tOfT_of R' e1 fun H1 F1 R1 s1 => ?_
    cases t with
    | true =>
      rw [if_pos rfl]
      have e2' : ((b ρ1).bind fun r => match r with
        | .nx ρ2 => whN mc b m ρ2
        | .ct ρ2 => whN mc b m ρ2
        | .bk ρ2 => some (.nx ρ2)
        | .rt dv ρ2 => some (.rt dv ρ2)) = some r := e2
      obtain ⟨q, e3, e4⟩ := Option.bind_eq_some_iff.mp e2'
      refine ⟨fun σ2 H2 => ∃ F2 ρ2, Rel X.K F0 Z B σ2 H2 F2 ρ2 ∧ Same F F2 ∧ whN mc b m ρ2 = some r, fun σ2 H2 h => ⟨m, Nat.lt_succ_self m, h⟩, tSOf_of R1 e3 ?_⟩
      have s01 := s'.trans s1
      cases q with
      | nx ρ4 => exact fun σ4 H4 F4 R4 s4 => ⟨F4, ρ4, R4, s01.trans s4, e4⟩
      | ct ρ4 => exact fun σ4 H4 F4 R4 s4 => ⟨F4, ρ4, R4, s01.trans s4, e4⟩
      | bk ρ4 => cases e4; exact fun σ4 H4 F4 R4 s4 => k σ4 H4 F4 R4 (s01.trans s4)
      | rt dv ρ4 => cases e4; exact fun v σ4 H4 F4 R4 s4 rr => k v σ4 H4 F4 R4 (s01.trans s4) rr
    | false =>
      rw [if_neg Bool.false_ne_true]
      cases e2
      exact k σ' H1 F1 R1 (s'.trans s1)
/-! ### comprehensions -/
def wipeE (ρ : En) : List Nat → En
  | [] => ρ
  | v :: vs => (wipeE ρ vs).set v none
def allVal (ρ : En) (vs : List Nat) : Bool := vs.all fun i => match ρ[i]? with
  | some (some (.val _)) => true
  | some none => true
  | _ => false
def restE (ρ' ρ : En) : List Nat → En
  | [] => ρ'
  | v :: vs => match ρ[v]? with
    | some o => (restE ρ' ρ vs).set v o
    | none => restE ρ' ρ vs
def lcL (g : MG) (c : MT) (el : ME) (vs : List Nat) : List D → En → Option (List D × En)
  | [], ρ => some ([], ρ)
  | d :: ds, ρ => (g d ρ).bind fun ρ1 => (c ρ1).bind fun t => if t.1 = true then (fz el t.2).bind fun x => (lcL g c el vs ds (wipeE x.2 vs)).map fun r => (x.1 :: r.1, r.2) else lcL g c el vs ds (wipeE t.2 vs)
def mLc (mi : MA) (g : MG) (c : MT) (el : ME) (vs : List Nat) : ME := fun ρ => (mi ρ).bind fun p => if allVal p.2 vs = true ∧ p.1.length ≤ line then (lcL g c el vs p.1 (wipeE p.2 vs)).map fun r => (.own (.lst r.1), restE r.2 p.2 vs) else none
def tYesM : MT := fun ρ => some (true, ρ)
abbrev Tm (X : Cx) (ifs : List Expr) (m : MT) : Prop := PTs X ifs (tOfT X.K m)
theorem PTs_imp {ifs : List Expr} {t t' : TT} (h : PTs X ifs t) (i : ∀ σ H Q, t' σ H Q → t σ H Q) : PTs X ifs t' := ⟨fun pins s σ H Q I q => h.run pins s σ H Q I (i _ _ _ q)⟩
theorem tm_nil : Tm X [] tYesM := PTs_imp pts_nil fun σ H Q ⟨F0, Z, B, F, ρ, b, ρ', R, e, k⟩ => by
  cases e
  exact k H F R (Same.refl _)
theorem tm_one {c : Expr} {m : MT} (h : Et X c m) : Tm X [c] m := pts_one h
theorem wipeE_length (ρ : En) : ∀ vs, (wipeE ρ vs).length = ρ.length
  | [] => rfl
  | v :: vs => by unfold wipeE; rw [List.length_set, wipeE_length ρ vs]
theorem wipeE_get {ρ : En} {i : Nat} {dv : DV} : ∀ {vs : List Nat}, (wipeE ρ vs)[i]? = some (some dv) → ρ[i]? = some (some dv) ∧ i ∉ vs
  | [], h => ⟨h, by simp⟩
  | v :: vs, h => by
    unfold wipeE at h
    obtain ⟨h1, h2⟩ := get_set_none h
    obtain ⟨h3, h4⟩ := wipeE_get h2
    exact ⟨h3, by simp only [List.mem_cons, not_or]; exact ⟨h1, h4⟩⟩
theorem Rel.wipe {K : PySem.W.Frag} {F0 Z : Hp} {B : Nat → Addr} {σ : L2.St} {H F : Hp} {ρ : En} (R : Rel K F0 Z B σ H F ρ) (vs : List Nat) : Rel K F0 Z B (L2.wipe σ vs) H F (wipeE ρ vs) where
  len := by rw [wipeE_length, wipe_length]; exact R.len
  sub := R.sub
  zsub := R.zsub
  base := R.base
  slot := fun i dv e => by
    obtain ⟨e1, ni⟩ := wipeE_get e
    obtain ⟨v, ev, s⟩ := R.slot i dv e1
    exact ⟨v, by rw [wipe_get_ne ni]; exact ev, s⟩
  apart := fun i j di dj a n e1 e2 o1 o2 s1 s2 => by
    obtain ⟨e1', ni⟩ := wipeE_get e1
    obtain ⟨e2', nj⟩ := wipeE_get e2
    rw [wipe_get_ne ni] at s1
    rw [wipe_get_ne nj] at s2
    exact R.apart i j di dj a n e1' e2' o1 o2 s1 s2
theorem restE_get {ρ' ρ : En} (hl : ρ'.length = ρ.length) : ∀ {vs : List Nat} {i : Nat}, (restE ρ' ρ vs)[i]? = (if i ∈ vs then ρ[i]? else ρ'[i]?) ∧ (restE ρ' ρ vs).length = ρ'.length
  | [], i => by simp [restE]
  | v :: vs, i => by
    obtain ⟨ih1, ih2⟩ := restE_get hl (vs := vs) (i := i)
    unfold restE
    cases e : ρ[v]? with
    | none =>
      refine ⟨?_, ih2⟩
      simp only
      rw [ih1]
      by_cases hv : i = v
      · subst hv
        have h1 : ρ'[i]? = none := by
          rw [List.getElem?_eq_none_iff] at e ⊢
          omega
        simp [e, h1]
      · simp [hv]
    | some o =>
      simp only
      refine ⟨?_, by rw [List.length_set]; exact ih2⟩
      by_cases hv : v = i
      · subst hv
        have hlt : v < ρ.length := (List.getElem?_eq_some_iff.mp e).1
        rw [List.getElem?_set_self (by rw [ih2]; omega)]
        simp [e]
      · rw [List.getElem?_set_ne hv, ih1]
        have hv' : ¬ i = v := fun z => hv z.symm
        simp [hv']
theorem Rel.rest {K : PySem.W.Frag} {F0 Z : Hp} {B : Nat → Addr} {σ : L2.St} {H F H' F' : Hp} {ρ ρ' : En} {vs : List Nat} (R : Rel K F0 Z B σ H F ρ) (hv : allVal ρ vs = true) (R' : Rel K F0 Z B (L2.wipe σ vs) H' F' ρ') (s : Same F F') : Rel K F0 Z B σ H' F' (restE ρ' ρ vs) := by
  have hl : ρ'.length = ρ.length := by rw [R'.len, R.len, wipe_length]
  have low : ∀ {i : Nat} {dv : DV}, (restE ρ' ρ vs)[i]? = some (some dv) → (i ∈ vs ∧ ∃ d, dv = .val d ∧ ρ[i]? = some (some dv)) ∨ (i ∉ vs ∧ ρ'[i]? = some (some dv)) := fun {i dv} e => by
    rw [(restE_get hl).1] at e
    by_cases hi : i ∈ vs
    · rw [if_pos hi] at e
      left
      refine ⟨hi, ?_⟩
      have := List.all_eq_true.mp hv i hi
      rw [e] at this
      cases dv with
      | val d => exact ⟨d, rfl, e⟩
      | own d => simp at this
      | bor d => simp at this
    · rw [if_neg hi] at e; exact .inr ⟨hi, e⟩
  refine ⟨by rw [(restE_get (i := 0) hl).2]; rw [hl]; exact R.len, R'.sub, R'.zsub, R'.base, fun i dv e => ?_, fun i j di dj a n e1 e2 o1 o2 s1 s2 => ?_⟩
  · rcases low e with ⟨hi, d, rfl, e'⟩ | ⟨hi, e'⟩
    · obtain ⟨v, ev, sl⟩ := R.slot i _ e'
      exact ⟨v, ev, Rep.mono s _ _ sl⟩
    · obtain ⟨v, ev, sl⟩ := R'.slot i dv e'
      rw [wipe_get_ne hi] at ev
      exact ⟨v, ev, sl⟩
  · rcases low e1 with ⟨hi, d, rfl, _⟩ | ⟨hi, e1'⟩
    · cases o1
    · rcases low e2 with ⟨hj, d, rfl, _⟩ | ⟨hj, e2'⟩
      · cases o2
      · exact R'.apart i j di dj a n e1' e2' o1 o2 (by rw [wipe_get_ne hi]; exact s1) (by rw [wipe_get_ne hj]; exact s2)
theorem lc_run {K : PySem.W.Frag} {mi : MA} {ws vs : List Nat} {g : MG} {c : MT} {el : ME} (hw : ∀ i ∈ ws, i ∈ vs) {σ : L2.St} {H : Hp} {Q : VK} (h : tOf K (mLc mi g c el vs) σ H Q) : tLc (tIOf K mi) (tGOf K ws g) (tOfT K c) (tOfV K (fz el)) vs σ H Q := by
  obtain ⟨F0, Z, B, F, ρ, dv, ρ', R, e, k⟩ := h
  obtain ⟨⟨ds, ρ1⟩, e1, e2⟩ := Option.bind_eq_some_iff.mp e
  have e2' : (if allVal ρ1 vs = true ∧ ds.length ≤ line then (lcL g c el vs ds (wipeE ρ1 vs)).map (fun r => (DV.own (.lst r.1), restE r.2 ρ1 vs)) else none) = some (dv, ρ') := e2
  by_cases hcond : allVal ρ1 vs = true ∧ ds.length ≤ line
  · rw [if_pos hcond] at e2'
    obtain ⟨hv, hlen⟩ := hcond
    obtain ⟨⟨rs, ρ2⟩, e3, e4⟩ := Option.map_eq_some_iff.mp e2'
    cases e4
    refine ⟨F0, Z, B, F, ρ, ds, ρ1, R, e1, fun J H1 F1 R1 s1 ok => fun D hD => ?_⟩
    have hFD : F1 D = none := R1.fnone hD
    have hZD : Z D = none := R1.znone hD
    -- the state at turn i: what is made so far lies at D
    refine ⟨fun i m H' => m = ds.length - i ∧ i ≤ ds.length ∧ ∃ F' ρ' acc xs rest, Rel K F1 (upd Z D (.lst xs)) B (L2.wipe σ vs) H' F' ρ' ∧ Same F1 F' ∧ F' D = none ∧ Reps K F' acc xs ∧ acc.length ≤ i ∧ lcL g c el vs (ds.drop i) ρ' = some (rest, ρ2) ∧ acc ++ rest = rs, ?_, ?_⟩
    · have R2 := (R1.alloc (o := .lst []) hD)
      have R3 := (R2.prot upd_same (R1.off_new hD)).wipe vs
      exact ⟨ds.length, by simp, Nat.zero_le _, F1, wipeE ρ1 vs, [], [], rs, R3, Same.refl _, hFD, .nil, Nat.zero_le _, by simpa using e3, rfl⟩
    rintro i m H' ⟨rfl, hle, F', ρ3, acc, xs, rest, R', s', hFD', racc, hacc, eL, er⟩
    obtain ⟨ok1, ok2⟩ := ok F1 (upd Z D (.lst xs)) B (L2.wipe σ vs) H' F' ρ3 i s' R'
    have hHD : H' D = some (.lst xs) := R'.zsub _ _ upd_same
    by_cases hi' : i < ds.length
    · right
      obtain ⟨go, yl⟩ := ok1 hi'
      refine ⟨go, fun H2 => ∃ F2 ρ' acc xs rest, Rel K F1 (upd Z D (.lst xs)) B (L2.wipe σ vs) H2 F2 ρ' ∧ Same F1 F2 ∧ F2 D = none ∧ Reps K F2 acc xs ∧ acc.length ≤ i + 1 ∧ lcL g c el vs (ds.drop (i + 1)) ρ' = some (rest, ρ2) ∧ acc ++ rest = rs, fun H2 h2 => ⟨ds.length - (i + 1), by omega, rfl, hi', h2⟩, fun x H2 y => ?_⟩
      obtain ⟨F2, d, ed, s2, R2, rd⟩ := yl x H2 y
      have hd : ds.drop i = d :: ds.drop (i + 1) := by
        rw [List.drop_eq_getElem_cons hi']
        congr 1
        rw [List.getElem?_eq_getElem hi'] at ed
        exact Option.some.inj ed
      rw [hd] at eL
      obtain ⟨ρ4, e5, e6⟩ := Option.bind_eq_some_iff.mp (show (g d ρ3).bind _ = some (rest, ρ2) from eL)
      obtain ⟨⟨t, ρ5⟩, e7, e8⟩ := Option.bind_eq_some_iff.mp e6
      refine ⟨F1, upd Z D (.lst xs), B, F2, ρ3, d, ρ4, R2, rd, e5, fun σ3 F3 R3 s3 w3 => ?_⟩
      have w3' : L2.wipe σ3 vs = L2.wipe σ vs := by
        have := wipe_sub w3 hw
        rw [this]
        exact wipe_ext (wipe_length _ _) fun j hj => wipe_get_ne hj
      have w3'' : L2.wipe σ3 vs = L2.wipe (L2.wipe σ vs) vs ∨ True := .inr trivial
      refine ⟨?_, tOfT_of R3 e7 fun H5 F5 R5 s5 => ?_⟩
      · exact w3'
      have s15 : Same F1 F5 := s'.trans (s2.trans (s3.trans s5))
      have keepD : ∀ {Fx Hx : Hp} {σx : L2.St} {ρx : En}, Rel K F1 (upd Z D (.lst xs)) B σx Hx Fx ρx → Fx D = none ∧ Hx D = some (.lst xs) := fun {Fx Hx σx ρx} Rx => by
        refine ⟨?_, Rx.zsub _ _ upd_same⟩
        cases q : Fx D with
        | none => rfl
        | some u =>
          rcases Rx.base D u q with z | z
          · rw [hFD] at z; cases z
          · rw [upd_same] at z; cases z
      cases t with
      | true =>
        rw [if_pos rfl]
        have e8' : ((fz el ρ5).bind fun x => (lcL g c el vs (ds.drop (i + 1)) (wipeE x.2 vs)).map fun r => (x.1 :: r.1, r.2)) = some (rest, ρ2) := e8
        obtain ⟨⟨z, ρ6⟩, e9, e10⟩ := Option.bind_eq_some_iff.mp e8'
        obtain ⟨⟨rest', ρ7⟩, e11, e12⟩ := Option.map_eq_some_iff.mp e10
        cases e12
        refine tOfV_of R5 e9 fun v H6 F6 R6 s6 r6 => ?_
        obtain ⟨k1, k2⟩ := keepD R6
        have hl2 : line = 16777216 := rfl
        refine ⟨xs, k2, by rw [racc.length, ← line_eq]; omega, F6, wipeE ρ6 vs, acc ++ [z], xs ++ [v], rest', ?_, s15.trans s6, k1, (Reps.mono (s2.trans (s3.trans (s5.trans s6))) _ _ racc).append (.one r6), by simp; omega, e11, by rw [← er]; simp⟩
        have R7 := R6.wipe vs
        rw [w3'] at R7
        -- D is written
        refine ⟨R7.len, fun b u q => ?_, fun b u q => ?_, fun b u q => ?_, fun j dj ej => ?_, R7.apart⟩
        · rw [upd_ne (ne_of_none q k1)]; exact R7.sub _ _ q
        · by_cases hb : b = D
          · subst hb; rw [upd_same] at q ⊢; exact q
          · rw [upd_ne hb] at q ⊢
            exact R7.zsub b u (by rw [upd_ne hb]; exact q)
        · rcases R7.base b u q with q | q
          · exact .inl q
          · by_cases hb : b = D
            · subst hb; rw [upd_same] at q; cases q
            · rw [upd_ne hb] at q; exact .inr (by rw [upd_ne hb]; exact q)
        · obtain ⟨x', ex', sl⟩ := R7.slot j dj ej
          refine ⟨x', ex', ?_⟩
          have key : ∀ b, dj.owned = true → x' = .ref b → b ≠ D := fun b ob eb z => by
            subst z
            obtain ⟨b', eb', _, hz, _⟩ := sl.addr ob
            rw [eb] at eb'; cases eb'
            rw [upd_same] at hz; cases hz
          cases dj with
          | val d => exact sl
          | own d =>
            obtain ⟨b, eb, t1, t2, t3⟩ := sl
            have nb := key b rfl eb
            exact ⟨b, eb, t1, by rw [upd_ne nb] at t2 ⊢; exact t2, t3.mono (upd_ne nb) (Same.refl _)⟩
          | bor d =>
            obtain ⟨eb, t1, t2, t3⟩ := sl
            have nb := key _ rfl eb
            exact ⟨eb, t1, by rw [upd_ne nb] at t2 ⊢; exact t2, t3.mono (upd_ne nb) (Same.refl _)⟩
      | false =>
        rw [if_neg Bool.false_ne_true]
        have e8' : lcL g c el vs (ds.drop (i + 1)) (wipeE ρ5 vs) = some (rest, ρ2) := e8
        obtain ⟨k1, k2⟩ := keepD R5
        have R7 := R5.wipe vs
        rw [w3'] at R7
        exact ⟨F5, wipeE ρ5 vs, acc, xs, rest, R7, s15, k1, Reps.mono (s2.trans (s3.trans s5)) _ _ racc, by omega, e8', er⟩
    · left
      refine ⟨ok2 (by omega), ?_⟩
      have hd : ds.drop i = [] := List.drop_eq_nil_of_le (by omega)
      rw [hd] at eL
      cases eL
      rw [List.append_nil] at er
      subst er
      -- back to the outer frame
      have Rw : Rel K F0 Z B (L2.wipe σ vs) H1 F1 (wipeE ρ1 vs) := R1.wipe vs
      have Rw2 : Rel K F0 Z B (L2.wipe σ vs) (upd H1 D (.lst xs)) F1 (wipeE ρ1 vs) := Rw.alloc hD
      obtain ⟨R8, g1, g2, g3⟩ := Rw2.unprot (o := .lst xs) hFD hZD R'
      have R9 := R1.rest hv R8 s'
      refine k (.ref D) H' F' R9 (s1.trans s') ⟨D, rfl, g2, hZD, ⟨xs, g1, racc⟩, fun j dj ej oj es => ?_⟩
      have hl : ρ2.length = ρ1.length := by rw [R8.len, R1.len, wipe_length]
      rw [(restE_get hl).1] at ej
      by_cases hj : j ∈ vs
      · rw [if_pos hj] at ej
        have := List.all_eq_true.mp hv j hj
        rw [ej] at this
        cases dj with
        | val d => cases oj
        | own d => simp at this
        | bor d => simp at this
      · rw [if_neg hj] at ej
        exact g3 j dj ej oj (by rw [wipe_get_ne hj]; exact es)
  · rw [if_neg hcond] at e2'; cases e2'
theorem em_lc {elt tgt iter : Expr} {ifs : List Expr} {scope : Scope} {own : List (Str × Nat)} {pos : Pos} {mi : MA} {ws : List Nat} {g : MG} {c : MT} {el : ME} (hw : ∀ i ∈ ws, i ∈ own.map (·.2)) (hc : X.calm = true) (hN : X.N.Nodup) (hi : Im X tgt iter mi) (ok : BlkOk X.N X.env.scope scope own)
    (hg : ∀ (s : Shared) (H : Hp) (C : Addr) (cl : List (Str × Addr)) (fp : List Addr), Gm (X.blk s H scope (compEnvC scope cl C X.env) fp) tgt ws g) (ht : ∀ (s : Shared) (H : Hp) (C : Addr) (cl : List (Str × Addr)) (fp : List Addr), Tm (X.blk s H scope (compEnvC scope cl C X.env) fp) ifs c)
    (he : ∀ (s : Shared) (H : Hp) (C : Addr) (cl : List (Str × Addr)) (fp : List Addr), Em (X.blk s H scope (compEnvC scope cl C X.env) fp) elt el) (hs : ∀ x, foldedSetIterable iter X.env x = pure x := by intro _; rfl) :
    Em X (.ListComp elt [⟨tgt, iter, ifs, 0⟩] scope pos) (mLc mi g c el (own.map (·.2))) :=
  PE_imp (pe_lc hc hN hi ok hg ht (fun s H C cl fp => (he s H C cl fp).fz) hs) fun σ H Q h => lc_run hw h
theorem sm_setLc {i : Nat} {y : Str} {py : Pos} {elt tgt iter : Expr} {ifs : List Expr} {scope : Scope} {own : List (Str × Nat)} {pos spos : Pos} {mi : MA} {ws : List Nat} {g : MG} {c : MT} {el : ME} (hw : ∀ i ∈ ws, i ∈ own.map (·.2)) (hc : X.calm = true) (hN : X.N.Nodup) (hy : X.N[i]? = some y) (hyl : X.env.scope.names.lookup y = some .local)
    (hsw : swapsWith (.ListComp elt [⟨tgt, iter, ifs, 0⟩] scope pos) (some (.Name y py)) spos.line X.env = pure true) (hi : Im X tgt iter mi) (ok : BlkOk X.N X.env.scope scope own)
    (hg : ∀ (s : Shared) (H : Hp) (C : Addr) (cl : List (Str × Addr)) (fp : List Addr), Gm (X.blk s H scope (compEnvC scope cl C X.env) fp) tgt ws g) (ht : ∀ (s : Shared) (H : Hp) (C : Addr) (cl : List (Str × Addr)) (fp : List Addr), Tm (X.blk s H scope (compEnvC scope cl C X.env) fp) ifs c)
    (he : ∀ (s : Shared) (H : Hp) (C : Addr) (cl : List (Str × Addr)) (fp : List Addr), Em (X.blk s H scope (compEnvC scope cl C X.env) fp) elt el) (hs : ∀ x, foldedSetIterable iter X.env x = pure x := by intro _; rfl) :
    Sm X (.Assign [.Name y py] (.ListComp elt [⟨tgt, iter, ifs, 0⟩] scope pos) spos) (sSet i (mLc mi g c el (own.map (·.2)))) :=
  PS_imp (ps_setLc hc hN hy hyl hsw hi ok hg ht (fun s H C cl fp => (he s H C cl fp).fz) hs) fun D σ H h => set_tail (fun σ H Q h => lc_run hw h) h
end
end Cb

set_option Elab.async false
set_option linter.all false
set_option maxRecDepth 100000
/-! Defs of a text, the head's facts with constants, the end. -/
namespace Cb
open PySem PySem.Spec PyProof.Rows L2 He
/-- a def as callers know it: k: how deep it calls -/
def Def (P : Program) (w : World) (K : PySem.W.Frag) (mg : Str → Option Value) (base : Heap) (x : Str) (k : Nat) (io : Option Nat) (n : Nat) (φ : List D → Option (DV × D)) : Prop :=
  ∃ (f : Addr) (fd : FuncData) (ps : List Str), FnOk P w K mg base CX0 k f fd ps (spF K io n φ) ∧ mg x = some (.ref f) ∧ PySem.W.keepIn K (.ref f) = true ∧ Binds K fd ps []
theorem Def.fk {X : Cx} {x : Str} {k j : Nat} {io : Option Nat} {n : Nat} {φ : List D → Option (DV × D)} (h : Def X.prog X.w X.K X.mg X.base x k io n φ) (hr : Room j X.A) (hk : k ≤ j := by decide) : Fk X x io n φ := by
  obtain ⟨f, fd, ps, F, hm, hkp, hb⟩ := h
  exact ⟨k, f, fd, ps, F, hr.mono hk, hm, hkp, hb⟩
/-- the text's def st, named x, at its place -/
structure Src (K : PySem.W.Frag) (mg : Str → Option Value) (x : Str) (st : Stmt) : Prop where
  ex : ∃ fd, FunD K x x (defArgs st) (defBody st) (defScope st) [] [] (ga K x) fd
  at_ : mg x = some (.ref (ga K x))
section
variable {P : Program} {w : World} {K : PySem.W.Frag} {mg : Str → Option Value} {base : Heap}
theorem Src.def_ {x : Str} {st : Stmt} {N ps : List Str} {k n : Nat} {io : Option Nat} {m : MS} (h : Src K mg x st) (S : FnScope N ps (defScope st)) (hn : ps.length = n)
    (hbind : ∀ (kV doc pm : Value) (an : Option Addr) (cdv ct : Value) (us : List Value), us.length = ps.length → bindArgs (PySem.W.fnOf x x (defArgs st) (defBody st) (defScope st) .none kV doc pm an cdv ct) ⟨us, []⟩ = pure (ps.zip us))
    (hb : ∀ (f : Addr) (cdv : Value) (A : Around) (outer : List Env) (s : Shared) (H : Hp) (E : XK), Room k (A.deeper (envOfC x (defScope st) s.heap.objs.size f cdv)) → Ss (cxOf CX0 P w K mg base N x (defScope st) f cdv A outer s H E).nox (defBody st) m) :
    Def P w K mg base x (k + 1) io n (runFn io N.length m) := by
  obtain ⟨fd, F⟩ := h.ex
  exact ⟨_, fd, ps, fn_ok F S hn (hb _), h.at_, F.kp, F.bindsN hbind⟩
end
/-! ### constants of the text -/
mutual
def relDB (K : PySem.W.Frag) : D → Value → Bool
  | .non, .none => true
  | .bl b, .bool c => b == c
  | .int i, .int j _ => decide (i = j)
  | .str x, .str y _ => decide (x = y)
  | .tup ds, .ref a => (match K.lookup a with
    | some ⟨.type c, _, .seq its _, _⟩ => decide (c = "tuple") && (decide (its.size ≤ sizeLine) && relDsB K ds its.toList)
    | _ => false)
  | _, _ => false
def relDsB (K : PySem.W.Frag) : List D → List Value → Bool
  | [], [] => true
  | d :: ds, u :: us => relDB K d u && relDsB K ds us
  | _, _ => false
end
mutual
theorem relDB_ok {K : PySem.W.Frag} : ∀ (d : D) (u : Value), relDB K d u = true → ∃ v, RelV v u ∧ ∀ F, Rep K F d v
  | .non, u, h => by
    cases u with
    | none => exact ⟨.non, rfl, fun F => by unfold Rep; rfl⟩
    | _ => simp [relDB] at h
  | .bl b, u, h => by
    cases u with
    | bool c =>
      have : b = c := by simpa [relDB] using h
      subst this
      exact ⟨.bl b, rfl, fun F => by unfold Rep; rfl⟩
    | _ => simp [relDB] at h
  | .int i, u, h => by
    cases u with
    | int j t =>
      have : i = j := by simpa [relDB] using h
      subst this
      exact ⟨.int i, ⟨t, rfl⟩, fun F => by unfold Rep; rfl⟩
    | _ => simp [relDB] at h
  | .str i, u, h => by
    cases u with
    | str j t =>
      have : i = j := by simpa [relDB] using h
      subst this
      exact ⟨.str i, ⟨t, rfl⟩, fun F => by unfold Rep; rfl⟩
    | _ => simp [relDB] at h
  | .tup ds, u, h => by
    cases u with
    | ref a =>
      have h1 : (match K.lookup a with
        | some ⟨.type c, _, .seq its _, _⟩ => decide (c = "tuple") && (decide (its.size ≤ sizeLine) && relDsB K ds its.toList)
        | _ => false) = true := by simpa only [relDB] using h
      cases q : K.lookup a with
      | none => rw [q] at h1; cases h1
      | some o =>
        obtain ⟨oc, od, dt, osl⟩ := o
        rw [q] at h1
        cases oc with
        | type c =>
          cases dt with
          | seq its n =>
            obtain ⟨e1, e2⟩ := ba (show (decide (c = "tuple") && (decide (its.size ≤ sizeLine) && relDsB K ds its.toList)) = true from h1)
            obtain ⟨e3, e4⟩ := ba e2
            obtain ⟨vs, rv, hr⟩ := relDsB_ok ds its.toList e4
            refine ⟨.ref a, rfl, fun F => ?_⟩
            unfold Rep
            exact ⟨a, vs, rfl, .inr ⟨_, its, n, q, congrArg Value.type (of_decide_eq_true e1), rfl, of_decide_eq_true e3, rv⟩, hr F⟩
          | _ => cases h1
        | _ => cases dt <;> cases h1
    | _ => simp [relDB] at h
  | .lst _, u, h => by cases u <;> simp [relDB] at h
  | .dk _ _, u, h => by cases u <;> simp [relDB] at h
  | .dt _ _, u, h => by cases u <;> simp [relDB] at h
  | .scr _, u, h => by cases u <;> simp [relDB] at h
theorem relDsB_ok {K : PySem.W.Frag} : ∀ (ds : List D) (us : List Value), relDsB K ds us = true → ∃ vs, Vals vs us ∧ ∀ F, Reps K F ds vs
  | [], [], _ => ⟨[], .nil, fun F => .nil⟩
  | [], _ :: _, h => by simp [relDsB] at h
  | _ :: _, [], h => by simp [relDsB] at h
  | d :: ds, u :: us, h => by
    obtain ⟨h1, h2⟩ := ba (show (relDB K d u && relDsB K ds us) = true by simpa only [relDsB] using h)
    obtain ⟨v, r, hr⟩ := relDB_ok d u h1
    obtain ⟨vs, rs, hrs⟩ := relDsB_ok ds us h2
    exact ⟨v :: vs, .cons r rs, fun F => .cons (hr F) (hrs F)⟩
end
def conB (K : PySem.W.Frag) (c : Str × D) : Bool := match PySem.W.nsIn K mainGlobals c.1 with
  | some (some u) => relDB K c.2 u
  | _ => false
theorem conB_ok {K : PySem.W.Frag} {h : Heap} {mg : Str → Option Value} (X : K.In h) (G : h.Ns mainGlobals mg) {c : Str × D} (e : conB K c = true) : Glc K mg c.1 c.2 := by
  unfold conB at e
  cases q : PySem.W.nsIn K mainGlobals c.1 with
  | none => rw [q] at e; cases e
  | some o =>
    rw [q] at e
    cases o with
    | none => cases e
    | some u =>
      obtain ⟨v, r, hr⟩ := relDB_ok c.2 u e
      exact ⟨v, u, PySem.W.mg_of X G q, r, hr⟩
/-! ### the Hook -/
abbrev AlC : Type := Bool × List FnW
def obsC (fa : List Fa) (cs : List (Str × D)) (fn : List DefD) (K : PySem.W.Frag) : AlC := ((fa.all fun f => f.ok K) && ((cs.all fun c => conB K c) && fn.all fun d => d.ok K), fn.map fun d => fnW K d.at_)
def valC (fn : List DefD) : AlC := (true, fn.map DefD.val)
def SaysC (fa : List Fa) (cs : List (Str × D)) (fn : List DefD) (K : PySem.W.Frag) : Prop := obsC fa cs fn K = valC fn
def obsCG (n : Nat) (fa : List Fa) (cs : List (Str × D)) (fn : List DefD) (g : Addr → Option Obj) : AlC := obsC fa cs fn (frG g (asD g n))
def hookC (n : Nat) (fa : List Fa) (cs : List (Str × D)) (fn : List DefD) : PySem.W.Hook where
  α := AlC
  obs := fun s => obsCG n fa cs fn s.heap.get?
  val := fun _ => valC fn
  says := fun _ h => ∃ K : PySem.W.Frag, K.In h ∧ SaysC fa cs fn K
  of := fun _ _ e => ⟨_, frG_in, e⟩
  keeps := fun _ _ _ ⟨K, hK, c⟩ k => ⟨K, PySem.W.Frag.In.keeps hK k, c⟩
theorem obsCG_eq {n : Nat} {fa : List Fa} {cs : List (Str × D)} {fn : List DefD} {g : Addr → Option Obj} {s : Shared} (h : ∀ a, g a = s.heap.get? a) : obsCG n fa cs fn g = (hookC n fa cs fn).obs s := by
  have e : g = s.heap.get? := funext h
  rw [e] <;> rfl
section
variable {fa : List Fa} {cs : List (Str × D)} {fn : List DefD} {K : PySem.W.Frag}
theorem SaysC.fact (c : SaysC fa cs fn K) (i : Nat) {f : Fa} (h : fa[i]? = some f := by rfl) : f.ok K = true := by
  have c1 := (ba (show ((fa.all fun f => f.ok K) && ((cs.all fun c => conB K c) && fn.all fun d => d.ok K)) = true from congrArg (fun z : AlC => z.1) c)).1
  exact List.all_eq_true.mp c1 f (List.mem_of_getElem? h)
theorem SaysC.con (c : SaysC fa cs fn K) (i : Nat) {f : Str × D} (h : cs[i]? = some f := by rfl) : conB K f = true := by
  have c1 := (ba (ba (show ((fa.all fun f => f.ok K) && ((cs.all fun c => conB K c) && fn.all fun d => d.ok K)) = true from congrArg (fun z : AlC => z.1) c)).2).1
  exact List.all_eq_true.mp c1 f (List.mem_of_getElem? h)
theorem SaysC.def_ (c : SaysC fa cs fn K) (i : Nat) {d : DefD} (h : fn[i]? = some d := by rfl) : ∃ fd, FunD K d.name d.qual d.params d.body d.scope (d.dvs K) (d.kws K) (fAd K d.at_) fd := by
  have c2 := (ba (ba (show ((fa.all fun f => f.ok K) && ((cs.all fun c => conB K c) && fn.all fun d => d.ok K)) = true from congrArg (fun z : AlC => z.1) c)).2).2
  have e : fn.map (fun d => fnW K d.at_) = fn.map DefD.val := congrArg (fun z : AlC => z.2) c
  have e2 : (fn.map fun d => fnW K d.at_)[i]? = (fn.map DefD.val)[i]? := by rw [e]
  rw [List.getElem?_map, List.getElem?_map, h] at e2
  exact DefD.funD (Option.some.inj e2) (List.all_eq_true.mp c2 d (List.mem_of_getElem? h))
end
/-- the i-th statement -/
def topAt (p : Program) (i : Nat) : Stmt := p.main.body.getD i (.Pass ⟨0, 0, 0, 0⟩)
def datum (x : Str) (st : Stmt) : DefD := ⟨(x, none), x, x, defArgs st, defBody st, defScope st, [], []⟩
/-! ### the end: law(script) is True -/
theorem law_sp {P : Program} {w : World} {K : PySem.W.Frag} {mg : Str → Option Value} {base : Heap} {φ : List D → Option (DV × D)} {ns : List Int} {H : Hp} {a : Addr} (e : φ [.scr ns] = some (.val (.bl true), .non)) (hS : SqL K H a (ns.map V.int)) :
    spF K none 1 φ [.ref a] H (fun v _ => v = .bl true) fun _ _ _ => False := by
  refine ⟨rfl, H, [.scr ns], _, _, Same.refl _, rfl, fun j v d ev ed => ⟨fun _ => ?_, fun z => by cases z⟩, e, fun v H' F' po => ?_⟩
  · cases j with
    | zero =>
      simp at ev ed
      subst ev ed
      unfold Rep
      exact ⟨a, rfl, hS⟩
    | succ j => simp at ev
  · have r : Rep K F' (.bl true) v := po.res
    unfold Rep at r
    exact r
end Cb

set_option Elab.async false
set_option linter.all false
set_option maxRecDepth 100000
/-! Further rules: built-ins' names, t[::-1] of lists and tuples, list(range(..)). -/
namespace Cb
open PySem PySem.Spec PyProof.Rows L2
theorem bt_len : bootBuiltins "len" = some (.builtin "len") := by decide +kernel
theorem bt_abs : bootBuiltins "abs" = some (.builtin "abs") := by decide +kernel
theorem bt_max : bootBuiltins "max" = some (.builtin "max") := by decide +kernel
theorem bt_min : bootBuiltins "min" = some (.builtin "min") := by decide +kernel
theorem bt_sum : bootBuiltins "sum" = some (.builtin "sum") := by decide +kernel
theorem bt_all : bootBuiltins "all" = some (.builtin "all") := by decide +kernel
theorem bt_any : bootBuiltins "any" = some (.builtin "any") := by decide +kernel
theorem bt_sorted : bootBuiltins "sorted" = some (.builtin "sorted") := by decide +kernel
theorem bt_isinstance : bootBuiltins "isinstance" = some (.builtin "isinstance") := by decide +kernel
theorem bt_int : bootBuiltins "int" = some (.type "int") := by decide +kernel
theorem bt_bool : bootBuiltins "bool" = some (.type "bool") := by decide +kernel
theorem bt_str : bootBuiltins "str" = some (.type "str") := by decide +kernel
theorem bt_list : bootBuiltins "list" = some (.type "list") := by decide +kernel
theorem bt_tuple : bootBuiltins "tuple" = some (.type "tuple") := by decide +kernel
theorem bt_dict : bootBuiltins "dict" = some (.type "dict") := by decide +kernel
theorem bt_set : bootBuiltins "set" = some (.type "set") := by decide +kernel
section
variable {X : Cx}
theorem PE_or {e : Expr} {t t' : TE} (h : PE X e t) (h' : PE X e t') : PE X e (fun σ H Q => t σ H Q ∨ t' σ H Q) := ⟨fun pins s σ H Q I q => q.elim (h.run pins s σ H Q I) (h'.run pins s σ H Q I)⟩
/-- x[::-1] -/
def mRev (ma : ME) : ME := fun ρ => (fz ma ρ).bind fun p => match p.1 with
  | .tup ds => some (.val (.tup ds.reverse), p.2)
  | .lst ds => some (.own (.lst ds.reverse), p.2)
  | _ => none
theorem em_rev {e : Expr} {k : Nat} {p1 p2 p3 pos : Pos} {ma : ME} (ha : Em X e ma) : Em X (.Subscript e (.Slice none none (some (.UnaryOp .USub (.Constant (.int 1) k p1) p2)) p3) pos) (mRev ma) :=
  PE_imp (PE_or (pe_revT ha.fz) (pe_revL ha.fz)) fun σ H Q ⟨F0, Z, B, F, ρ, dv, ρ', R, e, kk⟩ => by
    obtain ⟨⟨x, ρ1⟩, e1, e2⟩ := Option.bind_eq_some_iff.mp e
    cases x with
    | tup ds =>
      cases e2
      refine .inl (tOfV_of R e1 fun v H1 F1 R1 s1 r1 => ?_)
      obtain ⟨b, xs, rfl, q1, q2⟩ := st_of R1.sub r1
      refine ⟨b, xs, rfl, q1, fun p hp => ?_⟩
      obtain ⟨R5, s5, r5⟩ := new_tup R1 hp q2.reverse
      exact kk _ _ _ R5 (s1.trans s5) r5
    | lst ds =>
      cases e2
      refine .inr (tOfV_of R e1 fun v H1 F1 R1 s1 r1 => ?_)
      obtain ⟨b, xs, rfl, q1, q2⟩ := sq_of R1.sub r1
      refine ⟨b, xs, rfl, q1, fun p hp => ?_⟩
      obtain ⟨R5, r5⟩ := new_lst R1 hp q2.reverse
      exact kk _ _ _ R5 s1 r5
    | _ => cases e2
/-- list(range(n)), list(range(a, b)) -/
def mLRg (ma : ME) : ME := fun ρ => (fz ma ρ).bind fun p => match p.1 with
  | .int n => if n ≤ 16777216 ∧ 0 ≤ n then some (.own (.lst (intsFT 0 n)), p.2) else none
  | _ => none
theorem em_lrg {e : Expr} {p q pos pos' : Pos} {ma : ME} (hc : X.calm = true) (hg : Gl X "list") (hm : X.mg "list" = none) (hg2 : Gl X "range") (hm2 : X.mg "range" = none) (ha : Em X e ma) (na : starEach [e] X.env = (false, eval e X.env) :: starEach [] X.env := by rfl)
    (na2 : starEach [.Call (.Name "range" q) [e] [] pos'] X.env = (false, eval (.Call (.Name "range" q) [e] [] pos') X.env) :: starEach [] X.env := by rfl) : Em X (.Call (.Name "list" p) [.Call (.Name "range" q) [e] [] pos'] [] pos) (mLRg ma) :=
  PE_imp (pe_listRg hc hg hm (prg_1 hg2 hm2 ha.fz na) na2) fun σ H Q ⟨F0, Z, B, F, ρ, dv, ρ', R, e, kk⟩ => by
    obtain ⟨⟨x, ρ1⟩, e1, e2⟩ := Option.bind_eq_some_iff.mp e
    cases x with
    | int n =>
      obtain ⟨⟨h1, h2⟩, e3⟩ := ite_some (show (if n ≤ 16777216 ∧ 0 ≤ n then some (DV.own (.lst (intsFT 0 n)), ρ1) else none) = some (dv, ρ') from e2)
      cases e3
      refine tOfV_of R e1 fun v H1 F1 R1 s1 r1 => ?_
      unfold Rep at r1
      refine ⟨n, r1, .of_le (Int.le_refl _) h1 (by decide) h2, fun p hp => ?_⟩
      obtain ⟨R5, r5⟩ := new_lst R1 hp (reps_rg 0 n)
      exact kk _ _ _ R5 s1 r5
    | _ => cases e2
def mLRg2 (ma mb : ME) : ME := fun ρ => (fz ma ρ).bind fun p => (fz mb p.2).bind fun q => match p.1, q.1 with
  | .int a, .int n => if 0 ≤ a ∧ a ≤ 16777216 ∧ n ≤ 16777216 ∧ 0 ≤ n then some (.own (.lst (intsFT a n)), q.2) else none
  | _, _ => none
theorem em_lrg2 {e e' : Expr} {p q pos pos' : Pos} {ma mb : ME} (hc : X.calm = true) (hg : Gl X "list") (hm : X.mg "list" = none) (hg2 : Gl X "range") (hm2 : X.mg "range" = none) (ha : Em X e ma) (hb : Em X e' mb) (na : starEach [e, e'] X.env = (false, eval e X.env) :: starEach [e'] X.env := by rfl)
    (nb : starEach [e'] X.env = (false, eval e' X.env) :: starEach [] X.env := by rfl) (hp : (backTo pos' (starEach [e'] X.env)).any (·.1) = false := by rfl)
    (na2 : starEach [.Call (.Name "range" q) [e, e'] [] pos'] X.env = (false, eval (.Call (.Name "range" q) [e, e'] [] pos') X.env) :: starEach [] X.env := by rfl) : Em X (.Call (.Name "list" p) [.Call (.Name "range" q) [e, e'] [] pos'] [] pos) (mLRg2 ma mb) :=
  PE_imp (pe_listRg hc hg hm (prg_2 hg2 hm2 ha.fz hb.fz na nb hp) na2) fun σ H Q ⟨F0, Z, B, F, ρ, dv, ρ', R, e, kk⟩ => by
    obtain ⟨⟨x, ρ1⟩, e1, e2⟩ := Option.bind_eq_some_iff.mp e
    obtain ⟨⟨y, ρ2⟩, e3, e4⟩ := Option.bind_eq_some_iff.mp e2
    cases x with
    | int a =>
      cases y with
      | int n =>
        obtain ⟨⟨h0, h1, h2, h3⟩, e5⟩ := ite_some (show (if 0 ≤ a ∧ a ≤ 16777216 ∧ n ≤ 16777216 ∧ 0 ≤ n then some (DV.own (.lst (intsFT a n)), ρ2) else none) = some (dv, ρ') from e4)
        cases e5
        refine tOfV_of R e1 fun v H1 F1 R1 s1 r1 => tOfV_of R1 e3 fun u H2 F2 R2 s2 r2 => ?_
        unfold Rep at r1 r2
        refine ⟨a, n, r1, r2, .of_le h0 h2 h1 h3, fun p hp => ?_⟩
        obtain ⟨R5, r5⟩ := new_lst R2 hp (reps_rg a n)
        exact kk _ _ _ R5 (s1.trans s2) r5
      | _ => cases e4
    | _ => cases y <;> cases e4
end
end Cb

set_option Elab.async false
set_option linter.all false
set_option maxRecDepth 100000
/-! Whole numbers, fractions: what the mirror's small functions give. -/
namespace Cb
open PySem L2
/-! ### sizes -/
def Sz (n : Nat) (x : Int) : Prop := x.natAbs < 2 ^ n
instance (n : Nat) (x : Int) : Decidable (Sz n x) := inferInstanceAs (Decidable (x.natAbs < 2 ^ n))
theorem Sz.log {n : Nat} {x : Int} (h : Sz n x) : x.natAbs.log2 ≤ n := by
  unfold Sz at h
  by_cases h0 : x.natAbs = 0
  · rw [h0]; simp
  · exact Nat.le_of_lt ((Nat.log2_lt h0).mpr h)
theorem Sz.mono {n m : Nat} {x : Int} (h : Sz n x) (k : n ≤ m) : Sz m x := Nat.lt_of_lt_of_le h (Nat.pow_le_pow_right (by decide) k)
theorem Sz.mulOk {n m : Nat} {x y : Int} (h : Sz n x) (k : Sz m y) (l : n + m < 1000000 := by decide) : MulOk x y := by
  have := h.log; have := k.log; unfold MulOk; omega
theorem Sz.divOk {n : Nat} {x : Int} (h : Sz n x) (h0 : x ≠ 0) (l : n < 9000 := by decide) : DivOk x := by
  have := h.log; exact ⟨h0, by omega⟩
theorem Sz.mul {n m : Nat} {x y : Int} (h : Sz n x) (k : Sz m y) : Sz (n + m) (x * y) := by
  unfold Sz at *
  rw [Int.natAbs_mul, Nat.pow_add]
  exact Nat.mul_lt_mul'' h k
theorem Sz.add {n : Nat} {x y : Int} (h : Sz n x) (k : Sz n y) : Sz (n + 1) (x + y) := by
  unfold Sz at *
  rw [Nat.pow_succ]; omega
theorem Sz.sub {n : Nat} {x y : Int} (h : Sz n x) (k : Sz n y) : Sz (n + 1) (x - y) := by
  unfold Sz at *
  rw [Nat.pow_succ]; omega
theorem Sz.neg {n : Nat} {x : Int} (h : Sz n x) : Sz n (-x) := by
  unfold Sz at *; omega
theorem Sz.of_le {n : Nat} {x y : Int} (h : Sz n x) (k : y.natAbs ≤ x.natAbs) : Sz n y := Nat.lt_of_le_of_lt k h
theorem Sz.of_lt {n : Nat} {x : Int} (m : Nat) (h0 : 0 ≤ x) (h : x < (m : Int)) (k : m ≤ 2 ^ n := by decide) : Sz n x := by
  unfold Sz; omega
theorem Sz.pow {n : Nat} {x : Int} (h : Sz n x) : ∀ k : Nat, Sz (n * k + 1) (x ^ k)
  | 0 => by unfold Sz; simp
  | k + 1 => by
    rw [Int.pow_succ]
    exact ((h.pow k).mul h).mono (by rw [Nat.mul_succ]; omega)
/-! ### Euclid -/
def eu : Nat → Int → Int → Option Int
  | 0, _, _ => none
  | n + 1, a, b => if b = 0 then some a else eu n b (a.fmod b)
theorem gcd_fmod (a b : Int) : Int.gcd b (a.fmod b) = Int.gcd a b := by
  rw [Int.fmod_def, Int.gcd_comm a b, Int.mul_comm b]
  exact Int.gcd_sub_mul_right_right b a _
theorem eu_gcd : ∀ {n : Nat} {a b x : Int}, eu n a b = some x → x.natAbs = Int.gcd a b
  | 0, _, _, _, h => by cases h
  | n + 1, a, b, x, h => by
    unfold eu at h
    split at h
    · rename_i h0; cases h; subst h0; simp [Int.gcd]
    · rw [eu_gcd h, gcd_fmod]
theorem fmod_pos (a : Int) {b : Int} (h : 0 < b) : a.fmod b = a % b := Int.fmod_eq_emod_of_nonneg a (by omega)
theorem fmod_abs_lt (a : Int) {b : Int} (h : b ≠ 0) : (a.fmod b).natAbs < b.natAbs := by
  rcases Int.lt_or_gt_of_ne h with h | h
  · have e := Int.neg_fmod_neg a b
    have := Int.emod_nonneg (-a) (b := -b) (by omega)
    have := Int.emod_lt_of_pos (-a) (b := -b) (by omega)
    rw [fmod_pos (-a) (by omega)] at e
    omega
  · rw [fmod_pos a h]
    have := Int.emod_nonneg a (b := b) (by omega)
    have := Int.emod_lt_of_pos a (b := b) (by omega)
    omega
theorem emod_half {b r : Int} (hr : 0 < r) (h : r < b) : 2 * (b % r) < b := by
  have h1 := Int.emod_lt_of_pos b hr
  have h2 := Int.mul_ediv_add_emod b r
  have h3 : 1 ≤ b / r := by
    have := Int.ediv_le_ediv hr (Int.le_of_lt h)
    rwa [Int.ediv_self (by omega)] at this
  have h4 : r * 1 ≤ r * (b / r) := Int.mul_le_mul_of_nonneg_left h3 (by omega)
  omega
theorem fmod_half (a : Int) {b : Int} (h : b ≠ 0) (h0 : a.fmod b ≠ 0) : 2 * (b.fmod (a.fmod b)).natAbs < b.natAbs := by
  have l := fmod_abs_lt a h
  rcases Int.lt_or_gt_of_ne h with h | h
  · have e := Int.neg_fmod_neg a b
    rw [fmod_pos (-a) (by omega)] at e
    have := Int.emod_nonneg (-a) (b := -b) (by omega)
    have e2 := Int.neg_fmod_neg b (a.fmod b)
    rw [fmod_pos (-b) (by omega)] at e2
    have := emod_half (b := -b) (r := -a.fmod b) (by omega) (by omega)
    have := Int.emod_nonneg (-b) (b := -a.fmod b) (by omega)
    omega
  · have := Int.emod_nonneg a (b := b) (by omega)
    rw [← fmod_pos a h] at this
    rw [fmod_pos b (by omega)]
    have := emod_half (b := b) (r := a.fmod b) (by omega) (by omega)
    have := Int.emod_nonneg b (b := a.fmod b) (by omega)
    omega
theorem eu_some : ∀ (n : Nat) (a b : Int), b.natAbs < 2 ^ n → ∃ x, eu (2 * n + 1) a b = some x
  | 0, a, b, h => by
    have : b = 0 := by simp at h; exact h
    exact ⟨a, by simp [eu, this]⟩
  | n + 1, a, b, h => by
    show ∃ x, eu (2 * n + 2 + 1) a b = some x
    by_cases h0 : b = 0
    · exact ⟨a, by simp [eu, h0]⟩
    · by_cases h1 : a.fmod b = 0
      · exact ⟨b, by simp [eu, h0, h1]⟩
      · obtain ⟨x, hx⟩ := eu_some n (a.fmod b) (b.fmod (a.fmod b)) (by
          have := fmod_half a h0 h1
          rw [Nat.pow_succ] at h; omega)
        exact ⟨x, by simpa [eu, h0, h1] using hx⟩
theorem eu_mono : ∀ {n : Nat} {a b x : Int}, eu n a b = some x → eu (n + 1) a b = some x
  | 0, _, _, _, h => by cases h
  | n + 1, a, b, x, h => by
    unfold eu at h ⊢
    split
    · rename_i h0; rw [if_pos h0] at h; exact h
    · rename_i h0; rw [if_neg h0] at h; exact eu_mono h
/-! ### fractions -/
def fr (q : Rat) : D := .tup [.int q.num, .int q.den]
theorem fr_inj {p q : Rat} : fr p = fr q ↔ p = q := by
  constructor
  · intro h
    unfold fr at h
    injection h with h
    injection h with h1 h
    injection h with h2 h
    injection h1 with h1
    injection h2 with h2
    exact Rat.ext h1 (by exact_mod_cast h2)
  · rintro rfl; rfl
theorem okD_fr {q : Rat} : okD 8 (fr q) = true := by simp [fr, okD, okDs]
theorem nob_fr {q : Rat} : nob (fr q) = true := by simp [fr, nob, nobs]
theorem eq_fr (p q : Rat) : dEq (fr p) (fr q) = some (.val (.bl (decide (p = q)))) := by
  simp only [dEq, okD_fr, and_self, ↓reduceIte, Option.some.injEq, DV.val.injEq, D.bl.injEq]
  rw [Bool.eq_iff_iff, eqD_iff _ _ nob_fr nob_fr, fr_inj, decide_eq_true_iff]
theorem ne_fr (p q : Rat) : dNe (fr p) (fr q) = some (.val (.bl (decide (p ≠ q)))) := by
  simp only [dNe, okD_fr, and_self, ↓reduceIte, Option.some.injEq, DV.val.injEq, D.bl.injEq]
  rw [Bool.eq_iff_iff, Bool.not_eq_true', Bool.eq_false_iff, ne_eq, eqD_iff _ _ nob_fr nob_fr, fr_inj, decide_eq_true_iff]
theorem fr_one : D.tup [.int 1, .int 1] = fr 1 := rfl
theorem fr_zero : D.tup [.int 0, .int 1] = fr 0 := rfl
theorem ratio_pos {a b : Int} (h : 0 < b) : a.fdiv (Int.gcd a b) = ((a : Rat) / b).num ∧ b.fdiv (Int.gcd a b) = ((a : Rat) / b).den := by
  rw [← Rat.divInt_eq_div, Rat.num_divInt, Rat.den_divInt, Int.sign_eq_one_of_pos h, Int.one_mul, Int.gcd_comm b a, if_neg (by omega)]
  refine ⟨Int.fdiv_eq_ediv_of_nonneg _ (by omega), ?_⟩
  rw [Int.fdiv_eq_ediv_of_nonneg _ (by omega), Int.natCast_ediv]
  congr 1; omega
theorem ratio_neg {a b : Int} (h : b < 0) : a.fdiv (-(Int.gcd a b : Int)) = ((a : Rat) / b).num ∧ b.fdiv (-(Int.gcd a b : Int)) = ((a : Rat) / b).den := by
  rw [← Rat.divInt_eq_div, Rat.num_divInt, Rat.den_divInt, Int.sign_eq_neg_one_of_neg h, Int.gcd_comm b a, if_neg (by omega)]
  rw [← Int.neg_fdiv_neg a, ← Int.neg_fdiv_neg b, Int.neg_neg]
  refine ⟨?_, ?_⟩
  · rw [Int.fdiv_eq_ediv_of_nonneg _ (by omega)]; congr 1; omega
  · rw [Int.fdiv_eq_ediv_of_nonneg _ (by omega), Int.natCast_ediv]
    congr 1; omega
theorem gcd_le {a b : Int} (h : b ≠ 0) : (Int.gcd a b : Int).natAbs ≤ b.natAbs := by
  have := Nat.le_of_dvd (by omega) (Int.natAbs_dvd_natAbs.mpr (Int.gcd_dvd_right a b))
  simpa using this
theorem gcd_ne {a b : Int} (h : b ≠ 0) : (Int.gcd a b : Int) ≠ 0 := by
  intro z
  have : Int.gcd a b = 0 := by exact_mod_cast z
  exact h (Int.gcd_eq_zero_iff.mp this).2
end Cb

set_option Elab.async false
set_option linter.all false
set_option maxRecDepth 100000
/-! The mirror evaluated step by step: one equation for each combinator, applied. -/
namespace Cb
open PySem L2
noncomputable section
abbrev ok (d : D) : Option (DV × D) := some (.val d, .non)
def kSeq : Option Res → MS → Option Res
  | (some (.nx ρ)), t => t ρ
  | (some (.rt dv ρ)), t => some (.rt dv ρ)
  | (some (.bk ρ)), t => some (.bk ρ)
  | (some (.ct ρ)), t => some (.ct ρ)
  | _, _ => none
def kSet : Nat → Option (DV × En) → Option Res
  | i, (some (dv, ρ)) => some (.nx (ρ.set i (some dv)))
  | _, _ => none
def kNx : Option En → Option Res
  | (some ρ) => some (.nx ρ)
  | _ => none
def kPar : List Nat → Option (List DV × En) → Option Res
  | is, (some (dvs, ρ)) => kNx (setAll is dvs ρ)
  | _, _ => none
def kd2 : DV → Option (List DV × En) → Option (List DV × En)
  | dv, (some (dvs, ρ)) => some (dv :: dvs, ρ)
  | _, _ => none
def kd1 : Option (DV × En) → MD → Option (List DV × En)
  | (some (dv, ρ)), md => kd2 dv (md ρ)
  | _, _ => none
def kIf : Option (Bool × En) → MS → MS → Option Res
  | (some (true, ρ)), s, t => s ρ
  | (some (false, ρ)), s, t => t ρ
  | _, _, _ => none
def kRt : Option (DV × En) → Option Res
  | (some (dv, ρ)) => some (.rt dv ρ)
  | _ => none
def kEx : Option (DV × En) → Option Res
  | (some (dv, ρ)) => some (.nx ρ)
  | _ => none
def kVar : Option (Option DV) → Nat → En → Option (DV × En)
  | (some (some (.val d))), i, ρ => some (.val d, ρ)
  | (some (some (.own d))), i, ρ => some (.val d, ρ.set i (some (.val d)))
  | _, _, _ => none
def kMov : Option (Option DV) → Nat → En → Option (DV × En)
  | (some (some (.val d))), i, ρ => some (.val d, ρ)
  | (some (some (.own d))), i, ρ => some (.own d, ρ.set i none)
  | _, _, _ => none
def kfz : Option (DV × En) → Option (D × En)
  | (some (.val d, ρ)) => some (d, ρ)
  | (some (.own d, ρ)) => some (d, ρ)
  | _ => none
def kc : Option DV → En → Option (DV × En)
  | (some dv), ρ => some (dv, ρ)
  | _, _ => none
def k1 : (D → Option DV) → Option (D × En) → Option (DV × En)
  | f1, (some (x, ρ)) => kc (f1 x) ρ
  | _, _ => none
def k2b : (D → D → Option DV) → D → Option (D × En) → Option (DV × En)
  | f, x, (some (y, ρ)) => kc (f x y) ρ
  | _, _, _ => none
def k2a : (D → D → Option DV) → Option (D × En) → ME → Option (DV × En)
  | f, (some (x, ρ)), mb => k2b f x (fz mb ρ)
  | _, _, _ => none
def kt : Option (DV × En) → Option (Bool × En)
  | (some (.val (.bl bb), ρ)) => some (bb, ρ)
  | _ => none
def kn : Option (Bool × En) → Option (Bool × En)
  | (some (bb, ρ)) => some (!bb, ρ)
  | _ => none
def kAnd : Option (Bool × En) → MT → Option (Bool × En)
  | (some (true, ρ)), c => c ρ
  | (some (false, ρ)), c => some (false, ρ)
  | _, _ => none
def kOr : Option (Bool × En) → MT → Option (Bool × En)
  | (some (true, ρ)), c => some (true, ρ)
  | (some (false, ρ)), c => c ρ
  | _, _ => none
def kmA : Option (D × En) → ME → Option (DV × En)
  | (some (.bl true, ρ)), n => n ρ
  | (some (.bl false, ρ)), n => some (.val (.bl false), ρ)
  | _, _ => none
def kmO : Option (D × En) → ME → Option (DV × En)
  | (some (.bl false, ρ)), n => n ρ
  | (some (.bl true, ρ)), n => some (.val (.bl true), ρ)
  | _, _ => none
def kmI : Option (Bool × En) → ME → ME → Option (DV × En)
  | (some (true, ρ)), m, n => m ρ
  | (some (false, ρ)), m, n => n ρ
  | _, _, _ => none
def kh4 : (D → D → Option DV) → D → Option (D × En) → Option (DV × En)
  | f', y, (some (z, ρ)) => kc (f' y z) ρ
  | _, _, _ => none
def kh3 : (D → D → Option DV) → Option DV → D → En → ME → Option (DV × En)
  | f', (some (.val (.bl true))), y, ρ, mc => kh4 f' y (fz mc ρ)
  | f', (some (.val (.bl false))), y, ρ, mc => some (.val (.bl false), ρ)
  | _, _, _, _, _ => none
def kh2 : (D → D → Option DV) → (D → D → Option DV) → D → Option (D × En) → ME → Option (DV × En)
  | f, f', x, (some (y, ρ)), mc => kh3 f' (f x y) y ρ mc
  | _, _, _, _, _ => none
def kh1 : (D → D → Option DV) → (D → D → Option DV) → Option (D × En) → ME → ME → Option (DV × En)
  | f, f', (some (x, ρ)), mb, mc => kh2 f f' x (fz mb ρ) mc
  | _, _, _, _, _ => none
def kcb : Option (DV × D) → En → Option (DV × En)
  | (some (dv, o)), ρ => some (dv, ρ)
  | _, _ => none
def kca : (List D → Option (DV × D)) → Option (List D × En) → Option (DV × En)
  | φ, (some (ds, ρ)) => kcb (φ ds) ρ
  | _, _ => none
def kL5 : Option Nat → En → D → Option En
  | (some i), ρ, o => put ρ i o
  | _, _, _ => none
def kL4 : DV → Option En → Option (DV × En)
  | dv, (some ρ) => some (dv, ρ)
  | _, _ => none
def kL3 : Nat → List AV → En → Option (DV × D) → Option (DV × En)
  | io', as, ρ, (some (dv, o)) => kL4 dv (kL5 (slotAt io' as) ρ o)
  | _, _, _, _ => none
def kL2 : Nat → (List D → Option (DV × D)) → List AV → En → Option (List D) → Option (DV × En)
  | io', φ, as, ρ, (some ds) => kL3 io' as ρ (φ ds)
  | _, _, _, _, _ => none
def kL1 : Nat → (List D → Option (DV × D)) → Option (List AV × En) → Option (DV × En)
  | io', φ, (some (as, ρ)) => kL2 io' φ as ρ (resolve ρ io' 0 as)
  | _, _, _ => none
def kl2 : AV → Option (List AV × En) → Option (List AV × En)
  | av, (some (as, ρ)) => some (av :: as, ρ)
  | _, _ => none
def kl1 : Option (D × En) → ML → Option (List AV × En)
  | (some (d, ρ)), ml => kl2 (.v d) (ml ρ)
  | _, _ => none
def kl3 : Option D → Nat → ML → En → Option (List AV × En)
  | (some d), i, ml, ρ => kl2 (.s i) (ml ρ)
  | _, _, _, _ => none
def kr : D → Option (List D) → Option (List D)
  | d, (some ds) => some (d :: ds)
  | _, _ => none
def krs : Option (Option DV) → Option (List D) → Option (List D)
  | (some (some (.own d))), (some ds) => some (d :: ds)
  | (some (some (.bor d))), (some ds) => some (d :: ds)
  | _, _ => none
def kput : Option (Option DV) → En → Nat → D → Option En
  | (some (some (.own x))), ρ, i, d => some (ρ.set i (some (.own d)))
  | (some (some (.bor x))), ρ, i, d => some (ρ.set i (some (.bor d)))
  | _, _, _, _ => none
def kpk : Option (Option DV) → Option D
  | (some (some dv)) => some dv.get
  | _ => none
def klst : Option (Option DV) → Option (List D)
  | (some (some (.own (.lst ds)))) => some ds
  | (some (some (.bor (.lst ds)))) => some ds
  | _ => none
def kbor : Option (Option DV) → Option D
  | (some (some (.bor d))) => some d
  | _ => none
def ka2 : D → Option (List D × En) → Option (List D × En)
  | d, (some (ds, ρ)) => some (d :: ds, ρ)
  | _, _ => none
def ka1 : Option (D × En) → MA → Option (List D × En)
  | (some (d, ρ)), ms => ka2 d (ms ρ)
  | _, _ => none
def ktup : Option (List D × En) → Option (DV × En)
  | (some (ds, ρ)) => if ds.length ≤ line then some (.val (.tup ds), ρ) else none
  | _ => none
def kls : Option (List D × En) → Option (DV × En)
  | (some (ds, ρ)) => if ds.length ≤ line then some (.own (.lst ds), ρ) else none
  | _ => none
def kB : (List D → Option DV) → Option (List D × En) → Option (DV × En)
  | fl, (some (ds, ρ)) => kc (fl ds) ρ
  | _, _ => none
def kx3 : Option D → En → Option (DV × En)
  | (some d), ρ => some (.val d, ρ)
  | _, _ => none
def kx2 : Option D → D → En → Option (DV × En)
  | (some x), y, ρ => kx3 (dIx x y) ρ
  | _, _, _ => none
def kx1 : Option D → Option (D × En) → Nat → Option (DV × En)
  | (some d), (some (y, ρ)), i => kx2 (peek ρ i) y ρ
  | _, _, _ => none
def kx4 : Option D → En → Option (DV × En)
  | (some x), ρ => kx3 (dLen1 x) ρ
  | _, _ => none
def kis2 : Option Bool → En → Option (DV × En)
  | (some bb), ρ => some (.val (.bl bb), ρ)
  | _, _ => none
def kis : String → Option (D × En) → Option (DV × En)
  | T, (some (d, ρ)) => kis2 (dIsi T d) ρ
  | _, _ => none
def kp : Option (D × En) → Option (Option Int × En)
  | (some (.int a, ρ)) => some (some a, ρ)
  | _ => none
def ks3 : D → Option Int → Option (Option Int × En) → Option (DV × En)
  | x, l, (some (h, ρ)) => kc (dSl x l h) ρ
  | _, _, _ => none
def ks2 : D → Option (Option Int × En) → MP → Option (DV × En)
  | x, (some (l, ρ)), ph => ks3 x l (ph ρ)
  | _, _, _ => none
def ks1 : Option (D × En) → MP → MP → Option (DV × En)
  | (some (x, ρ)), pl, ph => ks2 x (pl ρ) ph
  | _, _, _ => none
def kF : Option (List D × En) → MG → MS → Option Res
  | (some (ds, ρ)), g, s => forL g s ds ρ
  | _, _, _ => none
def kF2 : Option Res → MG → MS → List D → Option Res
  | (some (.nx ρ)), g, s, ds => forL g s ds ρ
  | (some (.ct ρ)), g, s, ds => forL g s ds ρ
  | (some (.bk ρ)), g, s, ds => some (.nx ρ)
  | (some (.rt dv ρ)), g, s, ds => some (.rt dv ρ)
  | _, _, _, _ => none
def kF1 : Option En → MG → MS → List D → Option Res
  | (some ρ), g, s, ds => kF2 (s ρ) g s ds
  | _, _, _, _ => none
def kW2 : Option Res → MT → MS → Nat → Option Res
  | (some (.nx ρ)), c, s, k => whN c s k ρ
  | (some (.ct ρ)), c, s, k => whN c s k ρ
  | (some (.bk ρ)), c, s, k => some (.nx ρ)
  | (some (.rt dv ρ)), c, s, k => some (.rt dv ρ)
  | _, _, _, _ => none
def kW : Option (Bool × En) → MT → MS → Nat → Option Res
  | (some (true, ρ)), c, s, k => kW2 (s ρ) c s k
  | (some (false, ρ)), c, s, k => some (.nx ρ)
  | _, _, _, _ => none
def kg : Option En → MGs → List D → Option En
  | (some ρ), gs, ds => gs ds ρ
  | _, _, _ => none
def ksa : Option (D × En) → MG → Option Res
  | (some (d, ρ)), g => kNx (g d ρ)
  | _, _ => none
def ki : Option (D × En) → Option (List D × En)
  | (some (.lst ds, ρ)) => some (ds, ρ)
  | (some (.tup ds, ρ)) => some (ds, ρ)
  | (some (.scr ns, ρ)) => some (ns.map .int, ρ)
  | _ => none
def kap2 : Option (List D) → D → En → Nat → Option Res
  | (some ds), d, ρ, i => if ds.length < line then kNx (put ρ i (.lst (ds ++ [d]))) else none
  | _, _, _, _ => none
def kap : Option (List D) → Option (D × En) → Nat → Option Res
  | (some ds), (some (d, ρ)), i => kap2 (lstAt ρ i) d ρ i
  | _, _, _ => none
def ksx4 : Option Nat → List D → D → En → Nat → Option Res
  | (some j), ds, d, ρ, i => kNx (put ρ i (.lst (ds.set j d)))
  | _, _, _, _, _ => none
def ksx3 : Option (List D) → D → Int → En → Nat → Option Res
  | (some ds), d, a, ρ, i => ksx4 (ixN ds.length a) ds d ρ i
  | _, _, _, _, _ => none
def ksx2 : Option (List D) → D → Option (D × En) → Nat → Option Res
  | (some ds), d, (some (.int a, ρ)), i => ksx3 (lstAt ρ i) d a ρ i
  | _, _, _, _ => none
def ksx1 : Option (D × En) → Nat → ME → Option Res
  | (some (d, ρ)), i, m => ksx2 (lstAt ρ i) d (fz m ρ) i
  | _, _, _ => none
def kat {α : Type} : Option Nat → List α → Option α
  | (some j), xs => xs[j]?
  | _, _ => none
def ko : DV → Option D → Option (DV × D)
  | dv, (some d) => some (dv, d)
  | _, _ => none
def kfin : Option Nat → Option Res → Option (DV × D)
  | io, (some (.rt dv ρ)) => ko dv (outOf io ρ)
  | io, (some (.nx ρ)) => ko (.val .non) (outOf io ρ)
  | _, _ => none
def klc2 : Option (List D × En) → En → List Nat → Option (DV × En)
  | (some (ds, ρ')), ρ, vs => some (.own (.lst ds), restE ρ' ρ vs)
  | _, _, _ => none
def klc : Option (List D × En) → MG → MT → ME → List Nat → Option (DV × En)
  | (some (ds, ρ)), g, c, el, vs => if allVal ρ vs = true ∧ ds.length ≤ line then klc2 (lcL g c el vs ds (wipeE ρ vs)) ρ vs else none
  | _, _, _, _, _ => none
def kC4 : D → Option (List D × En) → Option (List D × En)
  | d, (some (ds, ρ)) => some (d :: ds, ρ)
  | _, _ => none
def kC3 : Option (D × En) → MG → MT → ME → List Nat → List D → Option (List D × En)
  | (some (d, ρ)), g, c, el, vs, ds => kC4 d (lcL g c el vs ds (wipeE ρ vs))
  | _, _, _, _, _, _ => none
def kC2 : Option (Bool × En) → MG → MT → ME → List Nat → List D → Option (List D × En)
  | (some (true, ρ)), g, c, el, vs, ds => kC3 (fz el ρ) g c el vs ds
  | (some (false, ρ)), g, c, el, vs, ds => lcL g c el vs ds (wipeE ρ vs)
  | _, _, _, _, _, _ => none
def kC1 : Option En → MG → MT → ME → List Nat → List D → Option (List D × En)
  | (some ρ), g, c, el, vs, ds => kC2 (c ρ) g c el vs ds
  | _, _, _, _, _, _ => none
def ksum : Option (List Int) → Option DV
  | (some ns) => some (.val (.int ns.sum))
  | _ => none
def kst2 : List D → Option (List D × En) → Option (List D × En)
  | es, (some (ds, ρ)) => some (es ++ ds, ρ)
  | _, _ => none
def kst : Option (D × En) → MA → Option (List D × En)
  | (some (.lst ds, ρ)), ms => kst2 ds (ms ρ)
  | (some (.tup ds, ρ)), ms => kst2 ds (ms ρ)
  | _, _ => none
def kRev : Option (D × En) → Option (DV × En)
  | (some (.tup ds, ρ)) => some (.val (.tup ds.reverse), ρ)
  | (some (.lst ds, ρ)) => some (.own (.lst ds.reverse), ρ)
  | _ => none
def krg : Option (D × En) → Option (DV × En)
  | (some (.int a, ρ)) => if a ≤ 16777216 ∧ 0 ≤ a then some (.own (.lst (intsFT 0 a)), ρ) else none
  | _ => none
def krg2 : D → Option (D × En) → Option (DV × En)
  | (.int a), (some (.int b, ρ)) => if 0 ≤ a ∧ a ≤ 16777216 ∧ b ≤ 16777216 ∧ 0 ≤ b then some (.own (.lst (intsFT a b)), ρ) else none
  | _, _ => none
def krg1 : Option (D × En) → ME → Option (DV × En)
  | (some (x, ρ)), m => krg2 x (fz m ρ)
  | _, _ => none
def kav : Option (Option DV) → Bool
  | (some (some (.val d))) => true
  | (some none) => true
  | _ => false
def krc : Option (Option DV) → En → Nat → En
  | (some u), ρ, i => ρ.set i u
  | _, ρ, _ => ρ
section
variable {ρ ρ' ρ0 : En} {m n ma mb mc el : ME} {ms : MA} {ml : ML} {md : MD} {i j k p io' : Nat} {a b : Int} {d x y z : D} {dv : DV} {c c' : MT} {s t : MS} {f f' : D → D → Option DV} {f1 : D → Option DV} {fl : List D → Option DV} {φ : List D → Option (DV × D)} {g : MG} {gs : MGs} {ds es : List D} {dvs : List DV} {as : List AV} {av : AV} {is vs : List Nat} {io : Option Nat} {bb : Bool} {ns : List Int} {mi : MA} {pl ph : MP} {o : D} {T : String} {r : Res} {l h : Option Int} {u : Option DV}
theorem kSeq_1 : kSeq (some (.nx ρ)) t = t ρ := id rfl
theorem kSeq_2 : kSeq (some (.rt dv ρ)) t = some (.rt dv ρ) := id rfl
theorem kSeq_3 : kSeq (some (.bk ρ)) t = some (.bk ρ) := id rfl
theorem kSeq_4 : kSeq (some (.ct ρ)) t = some (.ct ρ) := id rfl
theorem kSet_1 : kSet i (some (dv, ρ)) = some (.nx (ρ.set i (some dv))) := id rfl
theorem kNx_1 : kNx (some ρ) = some (.nx ρ) := id rfl
theorem kPar_1 : kPar is (some (dvs, ρ)) = kNx (setAll is dvs ρ) := id rfl
theorem kd2_1 : kd2 dv (some (dvs, ρ)) = some (dv :: dvs, ρ) := id rfl
theorem kd1_1 : kd1 (some (dv, ρ)) md = kd2 dv (md ρ) := id rfl
theorem kIf_1 : kIf (some (true, ρ)) s t = s ρ := id rfl
theorem kIf_2 : kIf (some (false, ρ)) s t = t ρ := id rfl
theorem kRt_1 : kRt (some (dv, ρ)) = some (.rt dv ρ) := id rfl
theorem kEx_1 : kEx (some (dv, ρ)) = some (.nx ρ) := id rfl
theorem kVar_1 : kVar (some (some (.val d))) i ρ = some (.val d, ρ) := id rfl
theorem kVar_2 : kVar (some (some (.own d))) i ρ = some (.val d, ρ.set i (some (.val d))) := id rfl
theorem kMov_1 : kMov (some (some (.val d))) i ρ = some (.val d, ρ) := id rfl
theorem kMov_2 : kMov (some (some (.own d))) i ρ = some (.own d, ρ.set i none) := id rfl
theorem kfz_1 : kfz (some (.val d, ρ)) = some (d, ρ) := id rfl
theorem kfz_2 : kfz (some (.own d, ρ)) = some (d, ρ) := id rfl
theorem kc_1 : kc (some dv) ρ = some (dv, ρ) := id rfl
theorem k1_1 : k1 f1 (some (x, ρ)) = kc (f1 x) ρ := id rfl
theorem k2b_1 : k2b f x (some (y, ρ)) = kc (f x y) ρ := id rfl
theorem k2a_1 : k2a f (some (x, ρ)) mb = k2b f x (fz mb ρ) := id rfl
theorem kt_1 : kt (some (.val (.bl bb), ρ)) = some (bb, ρ) := id rfl
theorem kn_1 : kn (some (bb, ρ)) = some (!bb, ρ) := id rfl
theorem kAnd_1 : kAnd (some (true, ρ)) c = c ρ := id rfl
theorem kAnd_2 : kAnd (some (false, ρ)) c = some (false, ρ) := id rfl
theorem kOr_1 : kOr (some (true, ρ)) c = some (true, ρ) := id rfl
theorem kOr_2 : kOr (some (false, ρ)) c = c ρ := id rfl
theorem kmA_1 : kmA (some (.bl true, ρ)) n = n ρ := id rfl
theorem kmA_2 : kmA (some (.bl false, ρ)) n = some (.val (.bl false), ρ) := id rfl
theorem kmO_1 : kmO (some (.bl false, ρ)) n = n ρ := id rfl
theorem kmO_2 : kmO (some (.bl true, ρ)) n = some (.val (.bl true), ρ) := id rfl
theorem kmI_1 : kmI (some (true, ρ)) m n = m ρ := id rfl
theorem kmI_2 : kmI (some (false, ρ)) m n = n ρ := id rfl
theorem kh4_1 : kh4 f' y (some (z, ρ)) = kc (f' y z) ρ := id rfl
theorem kh3_1 : kh3 f' (some (.val (.bl true))) y ρ mc = kh4 f' y (fz mc ρ) := id rfl
theorem kh3_2 : kh3 f' (some (.val (.bl false))) y ρ mc = some (.val (.bl false), ρ) := id rfl
theorem kh2_1 : kh2 f f' x (some (y, ρ)) mc = kh3 f' (f x y) y ρ mc := id rfl
theorem kh1_1 : kh1 f f' (some (x, ρ)) mb mc = kh2 f f' x (fz mb ρ) mc := id rfl
theorem kcb_1 : kcb (some (dv, o)) ρ = some (dv, ρ) := id rfl
theorem kca_1 : kca φ (some (ds, ρ)) = kcb (φ ds) ρ := id rfl
theorem kL5_1 : kL5 (some i) ρ o = put ρ i o := id rfl
theorem kL4_1 : kL4 dv (some ρ) = some (dv, ρ) := id rfl
theorem kL3_1 : kL3 io' as ρ (some (dv, o)) = kL4 dv (kL5 (slotAt io' as) ρ o) := id rfl
theorem kL2_1 : kL2 io' φ as ρ (some ds) = kL3 io' as ρ (φ ds) := id rfl
theorem kL1_1 : kL1 io' φ (some (as, ρ)) = kL2 io' φ as ρ (resolve ρ io' 0 as) := id rfl
theorem kl2_1 : kl2 av (some (as, ρ)) = some (av :: as, ρ) := id rfl
theorem kl1_1 : kl1 (some (d, ρ)) ml = kl2 (.v d) (ml ρ) := id rfl
theorem kl3_1 : kl3 (some d) i ml ρ = kl2 (.s i) (ml ρ) := id rfl
theorem kr_1 : kr d (some ds) = some (d :: ds) := id rfl
theorem krs_1 : krs (some (some (.own d))) (some ds) = some (d :: ds) := id rfl
theorem krs_2 : krs (some (some (.bor d))) (some ds) = some (d :: ds) := id rfl
theorem kput_1 : kput (some (some (.own x))) ρ i d = some (ρ.set i (some (.own d))) := id rfl
theorem kput_2 : kput (some (some (.bor x))) ρ i d = some (ρ.set i (some (.bor d))) := id rfl
theorem kpk_1 : kpk (some (some dv)) = some dv.get := id rfl
theorem klst_1 : klst (some (some (.own (.lst ds)))) = some ds := id rfl
theorem klst_2 : klst (some (some (.bor (.lst ds)))) = some ds := id rfl
theorem kbor_1 : kbor (some (some (.bor d))) = some d := id rfl
theorem ka2_1 : ka2 d (some (ds, ρ)) = some (d :: ds, ρ) := id rfl
theorem ka1_1 : ka1 (some (d, ρ)) ms = ka2 d (ms ρ) := id rfl
theorem ktup_1 : ktup (some (ds, ρ)) = (if ds.length ≤ line then some (.val (.tup ds), ρ) else none) := id rfl
theorem kls_1 : kls (some (ds, ρ)) = (if ds.length ≤ line then some (.own (.lst ds), ρ) else none) := id rfl
theorem kB_1 : kB fl (some (ds, ρ)) = kc (fl ds) ρ := id rfl
theorem kx3_1 : kx3 (some d) ρ = some (.val d, ρ) := id rfl
theorem kx2_1 : kx2 (some x) y ρ = kx3 (dIx x y) ρ := id rfl
theorem kx1_1 : kx1 (some d) (some (y, ρ)) i = kx2 (peek ρ i) y ρ := id rfl
theorem kx4_1 : kx4 (some x) ρ = kx3 (dLen1 x) ρ := id rfl
theorem kis2_1 : kis2 (some bb) ρ = some (.val (.bl bb), ρ) := id rfl
theorem kis_1 : kis T (some (d, ρ)) = kis2 (dIsi T d) ρ := id rfl
theorem kp_1 : kp (some (.int a, ρ)) = some (some a, ρ) := id rfl
theorem ks3_1 : ks3 x l (some (h, ρ)) = kc (dSl x l h) ρ := id rfl
theorem ks2_1 : ks2 x (some (l, ρ)) ph = ks3 x l (ph ρ) := id rfl
theorem ks1_1 : ks1 (some (x, ρ)) pl ph = ks2 x (pl ρ) ph := id rfl
theorem kF_1 : kF (some (ds, ρ)) g s = forL g s ds ρ := id rfl
theorem kF2_1 : kF2 (some (.nx ρ)) g s ds = forL g s ds ρ := id rfl
theorem kF2_2 : kF2 (some (.ct ρ)) g s ds = forL g s ds ρ := id rfl
theorem kF2_3 : kF2 (some (.bk ρ)) g s ds = some (.nx ρ) := id rfl
theorem kF2_4 : kF2 (some (.rt dv ρ)) g s ds = some (.rt dv ρ) := id rfl
theorem kF1_1 : kF1 (some ρ) g s ds = kF2 (s ρ) g s ds := id rfl
theorem kW2_1 : kW2 (some (.nx ρ)) c s k = whN c s k ρ := id rfl
theorem kW2_2 : kW2 (some (.ct ρ)) c s k = whN c s k ρ := id rfl
theorem kW2_3 : kW2 (some (.bk ρ)) c s k = some (.nx ρ) := id rfl
theorem kW2_4 : kW2 (some (.rt dv ρ)) c s k = some (.rt dv ρ) := id rfl
theorem kW_1 : kW (some (true, ρ)) c s k = kW2 (s ρ) c s k := id rfl
theorem kW_2 : kW (some (false, ρ)) c s k = some (.nx ρ) := id rfl
theorem kg_1 : kg (some ρ) gs ds = gs ds ρ := id rfl
theorem ksa_1 : ksa (some (d, ρ)) g = kNx (g d ρ) := id rfl
theorem ki_1 : ki (some (.lst ds, ρ)) = some (ds, ρ) := id rfl
theorem ki_2 : ki (some (.tup ds, ρ)) = some (ds, ρ) := id rfl
theorem ki_3 : ki (some (.scr ns, ρ)) = some (ns.map .int, ρ) := id rfl
theorem kap2_1 : kap2 (some ds) d ρ i = (if ds.length < line then kNx (put ρ i (.lst (ds ++ [d]))) else none) := id rfl
theorem kap_1 : kap (some ds) (some (d, ρ)) i = kap2 (lstAt ρ i) d ρ i := id rfl
theorem ksx4_1 : ksx4 (some j) ds d ρ i = kNx (put ρ i (.lst (ds.set j d))) := id rfl
theorem ksx3_1 : ksx3 (some ds) d a ρ i = ksx4 (ixN ds.length a) ds d ρ i := id rfl
theorem ksx2_1 : ksx2 (some ds) d (some (.int a, ρ)) i = ksx3 (lstAt ρ i) d a ρ i := id rfl
theorem ksx1_1 : ksx1 (some (d, ρ)) i m = ksx2 (lstAt ρ i) d (fz m ρ) i := id rfl
theorem kat_1 {α : Type} {xs : List α} : kat (some j) xs = xs[j]? := id rfl
theorem ko_1 : ko dv (some d) = some (dv, d) := id rfl
theorem kfin_1 : kfin io (some (.rt dv ρ)) = ko dv (outOf io ρ) := id rfl
theorem kfin_2 : kfin io (some (.nx ρ)) = ko (.val .non) (outOf io ρ) := id rfl
theorem klc2_1 : klc2 (some (ds, ρ')) ρ vs = some (.own (.lst ds), restE ρ' ρ vs) := id rfl
theorem klc_1 : klc (some (ds, ρ)) g c el vs = (if allVal ρ vs = true ∧ ds.length ≤ line then klc2 (lcL g c el vs ds (wipeE ρ vs)) ρ vs else none) := id rfl
theorem kC4_1 : kC4 d (some (ds, ρ)) = some (d :: ds, ρ) := id rfl
theorem kC3_1 : kC3 (some (d, ρ)) g c el vs ds = kC4 d (lcL g c el vs ds (wipeE ρ vs)) := id rfl
theorem kC2_1 : kC2 (some (true, ρ)) g c el vs ds = kC3 (fz el ρ) g c el vs ds := id rfl
theorem kC2_2 : kC2 (some (false, ρ)) g c el vs ds = lcL g c el vs ds (wipeE ρ vs) := id rfl
theorem kC1_1 : kC1 (some ρ) g c el vs ds = kC2 (c ρ) g c el vs ds := id rfl
theorem ksum_1 : ksum (some ns) = some (.val (.int ns.sum)) := id rfl
theorem kst2_1 : kst2 es (some (ds, ρ)) = some (es ++ ds, ρ) := id rfl
theorem kst_1 : kst (some (.lst ds, ρ)) ms = kst2 ds (ms ρ) := id rfl
theorem kst_2 : kst (some (.tup ds, ρ)) ms = kst2 ds (ms ρ) := id rfl
theorem kRev_1 : kRev (some (.tup ds, ρ)) = some (.val (.tup ds.reverse), ρ) := id rfl
theorem kRev_2 : kRev (some (.lst ds, ρ)) = some (.own (.lst ds.reverse), ρ) := id rfl
theorem krg_1 : krg (some (.int a, ρ)) = (if a ≤ 16777216 ∧ 0 ≤ a then some (.own (.lst (intsFT 0 a)), ρ) else none) := id rfl
theorem krg2_1 : krg2 (.int a) (some (.int b, ρ)) = (if 0 ≤ a ∧ a ≤ 16777216 ∧ b ≤ 16777216 ∧ 0 ≤ b then some (.own (.lst (intsFT a b)), ρ) else none) := id rfl
theorem krg1_1 : krg1 (some (x, ρ)) m = krg2 x (fz m ρ) := id rfl
theorem kav_1 : kav (some (some (.val d))) = true := id rfl
theorem kav_2 : kav (some none) = true := id rfl
theorem krc_1 : krc (some u) ρ i = ρ.set i u := id rfl
theorem runFn_a : runFn io k s ds = kfin io (s (ini io k ds)) := by
  unfold runFn; cases s (ini io k ds) with
  | none => rfl
  | some r => cases r <;> simp [kfin, fin] <;> (rename_i ρ; cases outOf io ρ <;> rfl)
theorem out_n : outOf none ρ = some .non := id rfl
theorem out_s : outOf (some j) ρ = kbor ρ[j]? := by
  show (match ρ[j]? with
    | some (some (.bor d)) => some d
    | _ => none) = _
  unfold kbor; rcases ρ[j]? with _ | _ | (_ | _ | _) <;> rfl
theorem ini_a : ini io k ds = iniL io 0 ds ++ List.replicate (k - ds.length) none := id rfl
theorem iniL_n : iniL none j (d :: ds) = some (.val d) :: iniL none (j + 1) ds := id rfl
theorem iniL_0 : iniL (some 0) 0 (d :: ds) = some (.bor d) :: iniL none 1 ds := by
  have : ∀ (ds : List D) (k : Nat), 0 < k → iniL (some 0) k ds = iniL none k ds := by
    intro ds
    induction ds with
    | nil => intros; rfl
    | cons e es ih => intro k hk; simp only [iniL]; rw [ih _ (by omega)]; simp; omega
  simp only [iniL]; rw [this ds 1 (by omega)]; simp
theorem iniL_e : iniL io j [] = [] := id rfl
theorem sSeq_a : sSeq s t ρ = kSeq (s ρ) t := by
  unfold sSeq kSeq; rcases s ρ with _ | (_ | _ | _ | _) <;> rfl
theorem sSet_a : sSet i m ρ = kSet i (m ρ) := by
  unfold sSet kSet; rcases m ρ with _ | ⟨_, _⟩ <;> rfl
theorem sPar_a : sPar is md ρ = kPar is (md ρ) := by
  unfold sPar kPar kNx; rcases md ρ with _ | ⟨u, v⟩
  · rfl
  · cases h : setAll is u v <;> simp [h]
theorem dNil_a : dNil ρ = some ([], ρ) := id rfl
theorem dCons_a : dCons m md ρ = kd1 (m ρ) md := by
  unfold dCons kd1 kd2; rcases m ρ with _ | ⟨u, v⟩
  · rfl
  · cases h : md v <;> simp [h]
theorem setAll_n : setAll [] [] ρ = some ρ := id rfl
theorem setAll_c : setAll (i :: is) (dv :: dvs) ρ = setAll is dvs (ρ.set i (some dv)) := id rfl
theorem sIf_a : sIf c s t ρ = kIf (c ρ) s t := by
  unfold sIf kIf; rcases c ρ with _ | ⟨_ | _, v⟩ <;> rfl
theorem sRet_a : sRet m ρ = kRt (m ρ) := by
  unfold sRet kRt; rcases m ρ with _ | ⟨_, _⟩ <;> rfl
theorem sExpr_a : sExpr m ρ = kEx (m ρ) := by
  unfold sExpr kEx; rcases m ρ with _ | ⟨_, _⟩ <;> rfl
theorem sNext_a : sNext ρ = some (.nx ρ) := id rfl
theorem sBreak_a : sBreak ρ = some (.bk ρ) := id rfl
theorem sCont_a : sCont ρ = some (.ct ρ) := id rfl
theorem mC_a : mC d ρ = some (.val d, ρ) := id rfl
theorem mVar_a : mVar i ρ = kVar ρ[i]? i ρ := by
  unfold mVar kVar; rcases ρ[i]? with _ | _ | (_ | _ | _) <;> rfl
theorem mMove_a : mMove i ρ = kMov ρ[i]? i ρ := by
  unfold mMove kMov; rcases ρ[i]? with _ | _ | (_ | _ | _) <;> rfl
theorem fz_a : fz m ρ = kfz (m ρ) := by
  unfold fz kfz; rcases m ρ with _ | ⟨_ | _ | _, _⟩ <;> rfl
theorem m1_a : m1 f1 ma ρ = k1 f1 (fz ma ρ) := by
  unfold m1 k1 kc; rcases fz ma ρ with _ | ⟨u, v⟩
  · rfl
  · cases h : f1 u <;> simp [h]
theorem m2_a : m2 f ma mb ρ = k2a f (fz ma ρ) mb := by
  unfold m2 k2a; rcases fz ma ρ with _ | ⟨u, v⟩
  · rfl
  · show Option.bind (fz mb v) _ = k2b f u (fz mb v)
    unfold k2b; cases fz mb v with
    | none => rfl
    | some q => show Option.map _ (f u q.1) = kc (f u q.1) q.2; cases f u q.1 <;> rfl
theorem tst_a : tst m ρ = kt (m ρ) := by
  unfold tst kt; rcases m ρ with _ | ⟨(_ | _ | _ | _ | _ | _ | _ | _ | _) | _ | _, _⟩ <;> rfl
theorem tNot_a : tNotm c ρ = kn (c ρ) := by
  unfold tNotm kn; rcases c ρ with _ | ⟨_, _⟩ <;> rfl
theorem tAnd_a : tAndm c c' ρ = kAnd (c ρ) c' := by
  unfold tAndm kAnd; rcases c ρ with _ | ⟨_ | _, _⟩ <;> rfl
theorem tOr_a : tOrm c c' ρ = kOr (c ρ) c' := by
  unfold tOrm kOr; rcases c ρ with _ | ⟨_ | _, _⟩ <;> rfl
theorem tYes_a : tYesM ρ = some (true, ρ) := id rfl
theorem mAnd_a : mAnd m n ρ = kmA (fz m ρ) n := by
  unfold mAnd kmA; rcases fz m ρ with _ | ⟨_ | (_ | _) | _ | _ | _ | _ | _ | _ | _, _⟩ <;> rfl
theorem mOr_a : mOr m n ρ = kmO (fz m ρ) n := by
  unfold mOr kmO; rcases fz m ρ with _ | ⟨_ | (_ | _) | _ | _ | _ | _ | _ | _ | _, _⟩ <;> rfl
theorem mIf_a : mIf c m n ρ = kmI (c ρ) m n := by
  unfold mIf kmI; rcases c ρ with _ | ⟨_ | _, v⟩ <;> rfl
theorem mChain_a : mChain f f' ma mb mc ρ = kh1 f f' (fz ma ρ) mb mc := by
  unfold mChain kh1; rcases fz ma ρ with _ | ⟨u, v⟩
  · rfl
  · show Option.bind (fz mb v) _ = kh2 f f' u (fz mb v) mc
    unfold kh2; cases h : fz mb v with
    | none => rfl
    | some q =>
      show Option.bind (f u q.1) _ = kh3 f' (f u q.1) q.1 q.2 mc
      unfold kh3; rcases f u q.1 with _ | ((_ | (_ | _) | _ | _ | _ | _ | _ | _ | _) | _ | _) <;> try rfl
      show Option.bind (fz mc q.2) _ = kh4 f' q.1 (fz mc q.2)
      unfold kh4 kc; rcases fz mc q.2 with _ | ⟨u1, v1⟩
      · rfl
      · show Option.map _ (f' q.1 u1) = _
        cases h3 : f' q.1 u1 <;> simp [h3]
theorem mCall_a : mCall φ ms ρ = kca φ (ms ρ) := by
  unfold mCall kca kcb; rcases ms ρ with _ | ⟨u, v⟩
  · rfl
  · cases h : φ u <;> simp [h]
theorem mCallL_a : mCallL io' φ ml ρ = kL1 io' φ (ml ρ) := by
  unfold mCallL kL1; rcases ml ρ with _ | ⟨u, v⟩
  · rfl
  · show Option.bind (resolve v io' 0 u) _ = kL2 io' φ u v (resolve v io' 0 u)
    unfold kL2; cases resolve v io' 0 u with
    | none => rfl
    | some ds =>
      show Option.bind (φ ds) _ = kL3 io' u v (φ ds)
      unfold kL3; rcases φ ds with _ | ⟨dv, o⟩
      · rfl
      · show Option.bind (slotAt io' u) _ = kL4 dv (kL5 (slotAt io' u) v o)
        unfold kL5; cases slotAt io' u with
        | none => rfl
        | some i =>
          show Option.map _ (put v i o) = kL4 dv (put v i o)
          cases put v i o <;> rfl
theorem lNil_a : lNil ρ = some ([], ρ) := id rfl
theorem lCons_a : lCons m ml ρ = kl1 (fz m ρ) ml := by
  unfold lCons kl1 kl2; rcases fz m ρ with _ | ⟨u, v⟩
  · rfl
  · cases h : ml v <;> simp [h]
theorem lLend_a : lLend i ml ρ = kl3 (peek ρ i) i ml ρ := by
  unfold lLend kl3 kl2; rcases peek ρ i with _ | u
  · rfl
  · cases h : ml ρ <;> simp [h]
theorem res_e : resolve ρ io' p [] = some [] := id rfl
theorem res_v : resolve ρ io' p (.v d :: as) = if p = io' then none else kr d (resolve ρ io' (p + 1) as) := by
  show (if p = io' then none else _) = _
  split
  · rfl
  · cases resolve ρ io' (p + 1) as <;> rfl
theorem res_s : resolve ρ io' p (.s i :: as) = if p = io' then krs ρ[i]? (resolve ρ io' (p + 1) as) else none := by
  show (if p = io' then _ else none) = _
  split
  · rcases ρ[i]? with _ | _ | (_ | _ | _) <;> cases resolve ρ io' (p + 1) as <;> rfl
  · rfl
theorem slot_0 : slotAt 0 (.s i :: as) = some i := id rfl
theorem slot_s : slotAt (i + 1) (av :: as) = slotAt i as := by
  cases av <;> rfl
theorem put_a : put ρ i d = kput ρ[i]? ρ i d := by
  unfold put kput; rcases ρ[i]? with _ | _ | (_ | _ | _) <;> rfl
theorem peek_a : peek ρ i = kpk ρ[i]? := by
  unfold peek kpk; rcases ρ[i]? with _ | _ | (_ | _ | _) <;> rfl
theorem lstAt_a : lstAt ρ i = klst ρ[i]? := by
  unfold lstAt klst; rcases ρ[i]? with _ | _ | ((_ | _ | _ | _ | _ | _ | _ | _ | _) | (_ | _ | _ | _ | _ | _ | _ | _ | _) | (_ | _ | _ | _ | _ | _ | _ | _ | _)) <;> rfl
theorem get_v : (DV.val d).get = d := id rfl
theorem get_o : (DV.own d).get = d := id rfl
theorem get_b : (DV.bor d).get = d := id rfl
theorem aNil_a : aNil ρ = some ([], ρ) := id rfl
theorem aCons_a : aCons m ms ρ = ka1 (fz m ρ) ms := by
  unfold aCons ka1 ka2; rcases fz m ρ with _ | ⟨u, v⟩
  · rfl
  · cases h : ms v <;> simp [h]
theorem aStar_a : aStar m ms ρ = kst (fz m ρ) ms := by
  unfold aStar kst; rcases fz m ρ with _ | ⟨_ | _ | _ | _ | ds | ds | _ | _ | _, v⟩ <;> try rfl
  all_goals (show Option.map _ (ms v) = kst2 ds (ms v); cases ms v <;> rfl)
theorem mTup_a : mTup ms ρ = ktup (ms ρ) := by
  unfold mTup ktup; rcases ms ρ with _ | ⟨_, _⟩ <;> rfl
theorem mLst_a : mLst ms ρ = kls (ms ρ) := by
  unfold mLst kls; rcases ms ρ with _ | ⟨_, _⟩ <;> rfl
theorem mB_a : mB fl ms ρ = kB fl (ms ρ) := by
  unfold mB kB kc; rcases ms ρ with _ | ⟨u, v⟩
  · rfl
  · cases h : fl u <;> simp [h]
theorem mIxS_a : mIxS i mb ρ = kx1 (peek ρ i) (fz mb ρ) i := by
  unfold mIxS kx1; rcases peek ρ i with _ | u
  · rfl
  · show Option.bind (fz mb ρ) _ = _
    rcases fz mb ρ with _ | ⟨y, v⟩
    · rfl
    · show Option.bind (peek v i) _ = kx2 (peek v i) y v
      unfold kx2; cases peek v i with
      | none => rfl
      | some x =>
        show Option.map _ (dIx x y) = kx3 (dIx x y) v
        cases dIx x y <;> rfl
theorem mLenS_a : mLenS i ρ = kx4 (peek ρ i) ρ := by
  unfold mLenS kx4 kx3; rcases peek ρ i with _ | u
  · rfl
  · cases h : dLen1 u <;> simp [h]
theorem mIsi_a : mIsi T m ρ = kis T (fz m ρ) := by
  unfold mIsi kis kis2; rcases fz m ρ with _ | ⟨u, v⟩
  · rfl
  · cases h : dIsi T u <;> simp [h]
theorem pNone_a : pNone ρ = some (none, ρ) := id rfl
theorem pSome_a : pSome m ρ = kp (fz m ρ) := by
  unfold pSome kp; rcases fz m ρ with _ | ⟨_ | _ | _ | _ | _ | _ | _ | _ | _, _⟩ <;> rfl
theorem mSl_a : mSl ma pl ph ρ = ks1 (fz ma ρ) pl ph := by
  unfold mSl ks1; rcases fz ma ρ with _ | ⟨x, v⟩
  · rfl
  · show Option.bind (pl v) _ = ks2 x (pl v) ph
    unfold ks2; rcases pl v with _ | ⟨l, v⟩
    · rfl
    · show Option.bind (ph v) _ = ks3 x l (ph v)
      unfold ks3 kc; rcases ph v with _ | ⟨h, v⟩
      · rfl
      · show Option.map _ (dSl x l h) = _
        cases h2 : dSl x l h <;> simp [h2]
theorem sFor_a : sFor mi g s ρ = kF (mi ρ) g s := by
  unfold sFor kF; rcases mi ρ with _ | ⟨_, _⟩ <;> rfl
theorem forL_n : forL g s [] ρ = some (.nx ρ) := id rfl
theorem forL_c : forL g s (d :: ds) ρ = kF1 (g d ρ) g s ds := by
  show Option.bind (g d ρ) _ = _
  unfold kF1; cases g d ρ with
  | none => rfl
  | some v => show Option.bind (s v) _ = kF2 (s v) g s ds; rcases s v with _ | (_ | _ | _ | _) <;> rfl
theorem whN_s : whN c s (k + 1) ρ = kW (c ρ) c s k := by
  show Option.bind (c ρ) _ = _
  unfold kW; rcases c ρ with _ | ⟨_ | _, v⟩ <;> try rfl
  show Option.bind (s v) _ = kW2 (s v) c s k
  unfold kW2; rcases s v with _ | (_ | _ | _ | _) <;> rfl
theorem gN_a : gN i d ρ = some (ρ.set i (some (.val d))) := id rfl
theorem gT_a : gT gs (.tup ds) ρ = gs ds ρ := id rfl
theorem gsC_a : gsCons g gs (d :: ds) ρ = kg (g d ρ) gs ds := by
  unfold gsCons kg; show Option.bind (g d ρ) _ = _; cases g d ρ <;> rfl
theorem gsN_a : gsNil [] ρ = some ρ := id rfl
theorem sAsg_a : sAsg m g ρ = ksa (fz m ρ) g := by
  unfold sAsg ksa kNx; rcases fz m ρ with _ | ⟨u, v⟩
  · rfl
  · cases h : g u v <;> simp [h]
theorem iSeq_a : iSeq m ρ = ki (fz m ρ) := by
  unfold iSeq ki; rcases fz m ρ with _ | ⟨_ | _ | _ | _ | _ | _ | _ | _ | _, v⟩ <;> rfl
theorem sApp_a : sApp i m ρ = kap (lstAt ρ i) (fz m ρ) i := by
  unfold sApp kap; cases lstAt ρ i with
  | none => rfl
  | some u =>
    show Option.bind (fz m ρ) _ = _
    rcases fz m ρ with _ | ⟨d, v⟩
    · rfl
    · show Option.bind (lstAt v i) _ = kap2 (lstAt v i) d v i
      unfold kap2; cases lstAt v i with
      | none => rfl
      | some ds =>
        show (if ds.length < line then Option.map Res.nx (put v i (.lst (ds ++ [d]))) else none) = if ds.length < line then kNx (put v i (.lst (ds ++ [d]))) else none
        split
        · cases put v i (.lst (ds ++ [d])) <;> rfl
        · rfl
theorem sSetIx_a : sSetIx i ma mb ρ = ksx1 (fz mb ρ) i ma := by
  unfold sSetIx ksx1; rcases fz mb ρ with _ | ⟨d, v⟩
  · rfl
  · show Option.bind (lstAt v i) _ = ksx2 (lstAt v i) d (fz ma v) i
    unfold ksx2; cases lstAt v i with
    | none => rfl
    | some u =>
      show Option.bind (fz ma v) _ = _
      rcases fz ma v with _ | ⟨x, w⟩
      · rfl
      · show Option.bind (lstAt w i) _ = _
        cases x <;> try (cases lstAt w i <;> rfl)
        rename_i n
        show _ = ksx3 (lstAt w i) d n w i
        unfold ksx3; cases lstAt w i with
        | none => rfl
        | some ds =>
          show Option.bind (ixN ds.length n) _ = ksx4 (ixN ds.length n) ds d w i
          unfold ksx4; cases ixN ds.length n with
          | none => rfl
          | some j => show Option.map _ (put w i (.lst (ds.set j d))) = kNx (put w i (.lst (ds.set j d))); cases put w i (.lst (ds.set j d)) <;> rfl
theorem mLc_a : mLc mi g c el vs ρ = klc (mi ρ) g c el vs := by
  unfold mLc klc; rcases mi ρ with _ | ⟨ds, v⟩
  · rfl
  · show (if allVal v vs = true ∧ ds.length ≤ line then Option.map _ (lcL g c el vs ds (wipeE v vs)) else none) = if allVal v vs = true ∧ ds.length ≤ line then klc2 (lcL g c el vs ds (wipeE v vs)) v vs else none
    split
    · rcases lcL g c el vs ds (wipeE v vs) with _ | ⟨_, _⟩ <;> rfl
    · rfl
theorem lcL_n : lcL g c el vs [] ρ = some ([], ρ) := id rfl
theorem lcL_c : lcL g c el vs (d :: ds) ρ = kC1 (g d ρ) g c el vs ds := by
  show Option.bind (g d ρ) _ = _
  unfold kC1; cases g d ρ with
  | none => rfl
  | some v =>
    show Option.bind (c v) _ = kC2 (c v) g c el vs ds
    unfold kC2; rcases c v with _ | ⟨_ | _, w⟩ <;> try rfl
    show Option.bind (fz el w) _ = kC3 (fz el w) g c el vs ds
    unfold kC3; rcases fz el w with _ | ⟨x, z⟩
    · rfl
    · show Option.map _ (lcL g c el vs ds (wipeE z vs)) = kC4 x (lcL g c el vs ds (wipeE z vs)); cases lcL g c el vs ds (wipeE z vs) <;> rfl
theorem wipe_n : wipeE ρ [] = ρ := id rfl
theorem wipe_c : wipeE ρ (i :: vs) = (wipeE ρ vs).set i none := id rfl
theorem rest_n : restE ρ' ρ [] = ρ' := id rfl
theorem rest_c : restE ρ' ρ (i :: vs) = krc ρ[i]? (restE ρ' ρ vs) i := by
  show (match ρ[i]? with
    | some o => (restE ρ' ρ vs).set i o
    | none => restE ρ' ρ vs) = _
  unfold krc; cases ρ[i]? <;> rfl
theorem allVal_n : allVal ρ [] = true := id rfl
theorem allVal_c : allVal ρ (i :: vs) = (kav ρ[i]? && allVal ρ vs) := by
  unfold allVal kav; rw [List.all_cons]; try (rcases ρ[i]? with _ | _ | (_ | _ | _) <;> rfl)
theorem mRev_a : mRev m ρ = kRev (fz m ρ) := by
  unfold mRev kRev; rcases fz m ρ with _ | ⟨_ | _ | _ | _ | _ | _ | _ | _ | _, v⟩ <;> rfl
theorem mLRg_a : mLRg m ρ = krg (fz m ρ) := by
  unfold mLRg krg; rcases fz m ρ with _ | ⟨_ | _ | _ | _ | _ | _ | _ | _ | _, v⟩ <;> rfl
theorem mLRg2_a : mLRg2 ma mb ρ = krg1 (fz ma ρ) mb := by
  unfold mLRg2 krg1; rcases fz ma ρ with _ | ⟨x, v⟩
  · rfl
  · show Option.bind (fz mb v) _ = krg2 x (fz mb v)
    unfold krg2; rcases fz mb v with _ | ⟨y, w⟩
    · cases x <;> rfl
    · cases x <;> cases y <;> rfl
theorem iZip_a (e0 : ms ρ = some ([.lst ds, .lst es], ρ0)) : iZip ms ρ = some (zipD ds es, ρ0) := by
  unfold iZip; rw [e0]; rfl
theorem iZipT_a (e0 : ms ρ = some ([.tup ds, .tup es], ρ0)) : iZip ms ρ = some (zipD ds es, ρ0) := by
  unfold iZip; rw [e0]; rfl
theorem iEnu_a (e0 : ms ρ = some ([.lst ds], ρ0)) : iEnu ms ρ = some (enumD 0 ds, ρ0) := by
  unfold iEnu; rw [e0]; rfl
theorem lt_int : dLt (.int a) (.int b) = some (.val (.bl (decide (a < b)))) := id rfl
theorem le_int : dLe (.int a) (.int b) = some (.val (.bl (decide (a ≤ b)))) := id rfl
theorem gt_int : dGt (.int a) (.int b) = some (.val (.bl (decide (b < a)))) := id rfl
theorem ge_int : dGe (.int a) (.int b) = some (.val (.bl (decide (b ≤ a)))) := id rfl
theorem sub_int : dSub (.int a) (.int b) = some (.val (.int (a - b))) := id rfl
theorem add_int : dAdd (.int a) (.int b) = some (.val (.int (a + b))) := id rfl
theorem mod_int (h0 : b ≠ 0) : dMod (.int a) (.int b) = some (.val (.int (a.fmod b))) := by
  show Option.map DV.val (if b ≠ 0 then _ else _) = _
  rw [if_pos h0]; rfl
theorem fdiv_int (h0 : DivOk b) : dFdiv (.int a) (.int b) = some (.val (.int (a.fdiv b))) := by
  show Option.map DV.val (if DivOk b then _ else _) = _
  rw [if_pos h0]; rfl
theorem pow_int' (h0 : PowOk a b) : dPow (.int a) (.int b) = some (.val (.int (a ^ b.toNat))) := by
  show Option.map DV.val (if PowOk a b then _ else _) = _
  rw [if_pos h0]; rfl
theorem mul_ok (h0 : MulOk a b) : dMul (.int a) (.int b) = some (.val (.int (a * b))) := by
  show (if MulOk a b then _ else _) = _
  rw [if_pos h0]
theorem eq_int : dEq (.int a) (.int b) = some (.val (.bl (decide (a = b)))) := by
  simp [dEq, okD, eqD]; rfl
theorem ne_int : dNe (.int a) (.int b) = some (.val (.bl (decide (a ≠ b)))) := by
  simp [dNe, okD, eqD]; rfl
theorem neg_int : dNeg (.int a) = some (.val (.int (-a))) := id rfl
theorem not_bl : dNot (.bl bb) = some (.val (.bl (!bb))) := id rfl
theorem abs_int : dAbs [.int a] = some (.val (.int a.natAbs)) := by
  show some (DV.val (D.int (if a < 0 then -a else a))) = _
  congr 3; split <;> omega
theorem int_int : dInt [.int a] = some (.val (.int a)) := id rfl
theorem int_bl : dInt [.bl bb] = some (.val (.int (if bb then 1 else 0))) := id rfl
theorem max_2 : dMax [.int a, .int b] = some (.val (.int (max a b))) := id rfl
theorem min_2 : dMin [.int a, .int b] = some (.val (.int (min a b))) := id rfl
theorem max_3 {e : Int} : dMax [.int a, .int b, .int e] = some (.val (.int (max (max a b) e))) := id rfl
theorem min_3 {e : Int} : dMin [.int a, .int b, .int e] = some (.val (.int (min (min a b) e))) := id rfl
theorem len_l : dLen1 (.lst ds) = some (.int ds.length) := id rfl
theorem len_t : dLen1 (.tup ds) = some (.int ds.length) := id rfl
theorem len_s : dLen1 (.scr ns) = some (.int ns.length) := id rfl
theorem lenB_l : dLen [.lst ds] = some (.val (.int ds.length)) := id rfl
theorem lenB_t : dLen [.tup ds] = some (.val (.int ds.length)) := id rfl
theorem lenB_s : dLen [.scr ns] = some (.val (.int ns.length)) := id rfl
theorem ix_l : dIx (.lst ds) (.int a) = atI ds a := id rfl
theorem ix_t : dIx (.tup ds) (.int a) = atI ds a := id rfl
theorem ix_s : dIx (.scr ns) (.int a) = (atI ns a).map .int := id rfl
theorem ixV_a : dIxV x y = (dIx x y).map .val := id rfl
theorem at_a {α : Type} {xs : List α} : atI xs a = kat (ixN xs.length a) xs := by
  unfold atI kat; cases ixN xs.length a <;> rfl
theorem tuple_l : dTuple [.lst ds] = some (.val (.tup ds)) := id rfl
theorem tuple_t : dTuple [.tup ds] = some (.val (.tup ds)) := id rfl
theorem list_l : dList [.lst ds] = some (.own (.lst ds)) := id rfl
theorem list_t : dList [.tup ds] = some (.own (.lst ds)) := id rfl
theorem sum_l : dSum [.lst ds] = ksum (intsOf ds) := by
  show Option.map _ (intsOf ds) = _; cases intsOf ds <;> rfl
theorem all_l : dAll [.lst ds] = (boolsOf ds).map fun bs => .val (.bl (bs.all id)) := id rfl
theorem any_l : dAny [.lst ds] = (boolsOf ds).map fun bs => .val (.bl (bs.any id)) := id rfl
theorem isi_int : dIsi "int" (.int a) = some true := id rfl
theorem isi_bool : dIsi "bool" (.int a) = some false := (by decide : L2.kitB "int" "bool" = some false)
theorem isi_tup : dIsi "tuple" (.tup ds) = some true := id rfl
theorem ix_fr0 {w : Rat} : dIx (fr w) (.int 0) = some (.int w.num) := id rfl
theorem ix_fr1 {w : Rat} : dIx (fr w) (.int 1) = some (.int w.den) := id rfl
theorem mul_l (h1 : -(2 ^ 63) ≤ a) (h2 : a < 2 ^ 63) (h3 : ds.length * a.toNat ≤ line) : dMul (.lst ds) (.int a) = some (.own (.lst (rptL ds a.toNat))) := by
  show (if _ then _ else _) = _
  rw [if_pos ⟨h1, h2, h3⟩]
theorem cat_l (h1 : ds.length + es.length ≤ line) : dAdd (.lst ds) (.lst es) = some (.own (.lst (ds ++ es))) := by
  show (if _ then _ else _) = _
  rw [if_pos h1]
theorem cat_t (h1 : ds.length + es.length ≤ line) : dAdd (.tup ds) (.tup es) = some (.val (.tup (ds ++ es))) := by
  show (if _ then _ else _) = _
  rw [if_pos h1]
theorem sl_l : dSl (.lst ds) l h = some (.own (.lst (cutL ds l h))) := id rfl
theorem sl_t : dSl (.tup ds) l h = some (.val (.tup (cutL ds l h))) := id rfl
theorem sl_s : dSl (.scr ns) l h = some (.own (.lst ((cutL ns l h).map .int))) := id rfl
end
end
end Cb

set_option Elab.async false
set_option linter.all false
set_option maxRecDepth 100000
/-! The small functions that many texts share. -/
namespace Cb
open PySem L2
noncomputable section
def cb_common_of : MS :=
  (sSeq (sWhile (tst (m2 dNe (mVar 1) (mC (.int 0)))) (sPar [0, 1] (dCons (mVar 1) (dCons (m2 dMod (mVar 0) (mVar 1)) dNil))))
    (sRet (mB dAbs (aCons (mVar 0) aNil))))
def c_common_of : List D → Option (DV × D) := runFn none 2 cb_common_of
def cb_ratio_of : MS :=
  (sSeq (sSet 2 (mCall c_common_of (aCons (mVar 0) (aCons (mVar 1) aNil))))
    (sSeq (sIf (tst (m2 dLt (mVar 1) (mC (.int 0)))) (sSet 2 (m1 dNeg (mVar 2))) sNext)
    (sRet (mTup (aCons (m2 dFdiv (mVar 0) (mVar 2)) (aCons (m2 dFdiv (mVar 1) (mVar 2)) aNil))))))
def c_ratio_of : List D → Option (DV × D) := runFn none 3 cb_ratio_of
def cb_whole_power : MS :=
  (sSeq (sSet 2 (mC (.int 1)))
    (sSeq (sFor (iRng (aCons (mVar 1) aNil)) (gN 3) (sSet 2 (m2 dMul (mVar 2) (mVar 0))))
    (sRet (mMove 2))))
def c_whole_power : List D → Option (DV × D) := runFn none 4 cb_whole_power
def cb_choose_of : MS :=
  (sSeq (sIf (tNotm (tst (mChain dLe dLe (mC (.int 0)) (mVar 1) (mVar 0)))) (sRet (mC (.int 0))) sNext)
    (sSeq (sSet 2 (mC (.int 1)))
    (sSeq (sFor (iRng (aCons (mB dMin (aCons (mVar 1) (aCons (m2 dSub (mVar 0) (mVar 1)) aNil))) aNil)) (gN 3) (sSet 2 (m2 dFdiv (m2 dMul (mVar 2) (m2 dSub (mVar 0) (mVar 3))) (m2 dAdd (mVar 3) (mC (.int 1))))))
    (sRet (mMove 2)))))
def c_choose_of : List D → Option (DV × D) := runFn none 4 cb_choose_of
def cb_is_whole : MS :=
  (sRet (mAnd (mIsi "int" (mVar 0)) (m1 dNot (mIsi "bool" (mVar 0)))))
def c_is_whole : List D → Option (DV × D) := runFn none 1 cb_is_whole
def cb_is_integer : MS :=
  (sRet (mAnd (mCall c_is_whole (aCons (mVar 0) aNil)) (mChain dLe dLe (mVar 1) (mVar 0) (mVar 2))))
def c_is_integer : List D → Option (DV × D) := runFn none 3 cb_is_integer
def cb_is_tuple : MS :=
  (sRet (mAnd (mIsi "tuple" (mVar 0)) (mChain dLe dLe (mVar 1) (mLenS 0) (mVar 2))))
def c_is_tuple : List D → Option (DV × D) := runFn none 3 cb_is_tuple
def cb_is_size : MS :=
  (sRet (mAnd (mCall c_is_whole (aCons (mVar 0) aNil)) (mChain dLt dLt (m1 dNeg (mC (.int 10000000000000000000000000000000000000000))) (mVar 0) (mC (.int 10000000000000000000000000000000000000000)))))
def c_is_size : List D → Option (DV × D) := runFn none 1 cb_is_size
def cb_is_fraction : MS :=
  (sSeq (sIf (tOrm (tNotm (tst (mCall c_is_tuple (aCons (mVar 0) (aCons (mC (.int 2)) (aCons (mC (.int 2)) aNil)))))) (tNotm (tst (mB dAll (aCons (mLc (iSeq (mVar 0)) (gN 1) tYesM (mCall c_is_size (aCons (mVar 1) aNil)) [1]) aNil))))) (sRet (mC (.bl false))) sNext)
    (sRet (mAnd (m2 dGt (mIxS 0 (mC (.int 1))) (mC (.int 0))) (m2 dEq (mCall c_common_of (aCons (mIxS 0 (mC (.int 0))) (aCons (mIxS 0 (mC (.int 1))) aNil))) (mC (.int 1))))))
def c_is_fraction : List D → Option (DV × D) := runFn none 2 cb_is_fraction
def cb_is_share : MS :=
  (sRet (mAnd (mCall c_is_fraction (aCons (mVar 0) aNil)) (mChain dLe dLe (mC (.int 0)) (mIxS 0 (mC (.int 0))) (mIxS 0 (mC (.int 1))))))
def c_is_share : List D → Option (DV × D) := runFn none 1 cb_is_share
def cb__law_gcd : MS :=
  (sSeq (sFor (iRng (aCons (m2 dPow (mC (.int 10)) (mC (.int 6))) aNil)) (gN 2) (sSeq (sIf (tst (m2 dEq (mVar 1) (mC (.int 0)))) sBreak sNext)
    (sPar [0, 1] (dCons (mVar 1) (dCons (m2 dMod (mVar 0) (mVar 1)) dNil)))))
    (sRet (mB dAbs (aCons (mVar 0) aNil))))
def c__law_gcd : List D → Option (DV × D) := runFn none 3 cb__law_gcd
def cb__law_ratio : MS :=
  (sSeq (sSet 2 (m2 dMul (mCall c__law_gcd (aCons (mVar 0) (aCons (mVar 1) aNil))) (mIf (tst (m2 dGt (mVar 1) (mC (.int 0)))) (mC (.int 1)) (m1 dNeg (mC (.int 1))))))
    (sRet (mTup (aCons (m2 dFdiv (mVar 0) (mVar 2)) (aCons (m2 dFdiv (mVar 1) (mVar 2)) aNil)))))
def c__law_ratio : List D → Option (DV × D) := runFn none 3 cb__law_ratio
def cb__law_plus : MS :=
  (sRet (mCall c__law_ratio (aCons (m2 dAdd (m2 dMul (mIxS 0 (mC (.int 0))) (mIxS 1 (mC (.int 1)))) (m2 dMul (mIxS 1 (mC (.int 0))) (mIxS 0 (mC (.int 1))))) (aCons (m2 dMul (mIxS 0 (mC (.int 1))) (mIxS 1 (mC (.int 1)))) aNil))))
def c__law_plus : List D → Option (DV × D) := runFn none 2 cb__law_plus
def cb__law_below : MS :=
  (sRet (m2 dLt (m2 dMul (mIxS 0 (mC (.int 0))) (mIxS 1 (mC (.int 1)))) (m2 dMul (mIxS 1 (mC (.int 0))) (mIxS 0 (mC (.int 1))))))
def c__law_below : List D → Option (DV × D) := runFn none 2 cb__law_below
def cb__law_rest : MS :=
  (sRet (mCall c__law_ratio (aCons (m2 dSub (mIxS 0 (mC (.int 1))) (mIxS 0 (mC (.int 0)))) (aCons (mIxS 0 (mC (.int 1))) aNil))))
def c__law_rest : List D → Option (DV × D) := runFn none 1 cb__law_rest
def cb__law_take (F G H : Int) : MS :=
  (sSeq (sIf (tst (m2 dGt (mIxS 0 (mC (.int 0))) (mC (.int 0)))) (sSeq (sSet 2 (m2 dMod (mB dInt (aCons (mIxS 0 (mC (.int 0))) aNil)) (mVar 1)))
    (sSeq (sSetIx 0 (mC (.int 0)) (m2 dFdiv (mIxS 0 (mC (.int 0))) (mVar 1)))
    (sRet (mMove 2)))) sNext)
    (sSeq (sSetIx 0 (mC (.int 2)) (m2 dAdd (mIxS 0 (mC (.int 2))) (mC (.int 1))))
    (sSeq (sSet 3 (m2 dIxV (mLst (aCons (mC (.int 2147483647)) (aCons (mC (.int 2147483629)) (aCons (mC (.int 2147483587)) (aCons (mC (.int 2147483579)) aNil))))) (m2 dMod (mB dInt (aCons (mIxS 0 (mC (.int 2))) aNil)) (mC (.int 4)))))
    (sSeq (sSet 4 (m2 dMod (mB dInt (aCons (m2 dPow (mB dInt (aCons (m2 dAdd (m2 dAdd (mIxS 0 (mC (.int 1))) (m2 dMul (m2 dMul (mC (.int F)) (mIxS 0 (mC (.int 2)))) (mIxS 0 (mC (.int 2))))) (mC (.int G))) aNil)) (mC (.int 3))) aNil)) (mVar 3)))
    (sRet (m2 dMod (mB dInt (aCons (m2 dFdiv (m2 dMul (mVar 4) (m2 dAdd (m2 dMod (mB dInt (aCons (mVar 4) aNil)) (mC (.int 10007))) (m2 dMul (mC (.int H)) (mIxS 0 (mC (.int 2)))))) (mC (.int 307))) aNil)) (mVar 1)))))))
def c__law_take (F G H : Int) : List D → Option (DV × D) := runFn (some 0) 5 (cb__law_take F G H)
def cb__law_of (F G H : Int) : MS :=
  (sRet (mIxS 1 (mCallL 0 (c__law_take F G H) (lLend 0 (lCons (mLenS 1) lNil)))))
def c__law_of (F G H : Int) : List D → Option (DV × D) := runFn (some 0) 2 (cb__law_of F G H)
def cb__law_pot (A B C F G : Int) : MS :=
  (sSeq (sSet 2 (mIf (tst (m2 dLt (mVar 1) (mLenS 0))) (mIxS 0 (mVar 1)) (m2 dAdd (m2 dAdd (m2 dMod (mB dInt (aCons (mB dSum (aCons (mSl (mVar 0) pNone (pSome (mC (.int 1)))) aNil)) aNil)) (mC (.int 1000003))) (m2 dMul (mC (.int A)) (mVar 1))) (mC (.int B)))))
    (sSeq (sSet 3 (m2 dMul (m2 dMod (mB dInt (aCons (mB dAbs (aCons (mVar 2) aNil)) aNil)) (m2 dPow (m2 dPow (mC (.int 10)) (mC (.int 60))) (mC (.int 5)))) (mB dInt (aCons (m2 dGe (mB dAbs (aCons (mVar 2) aNil)) (m2 dPow (mC (.int 10)) (mC (.int 18)))) aNil))))
    (sSeq (sSet 4 (m2 dMod (mB dInt (aCons (mVar 2) aNil)) (mC (.int 2305843009213693951))))
    (sRet (mLst (aCons (mVar 3) (aCons (m2 dMod (mB dInt (aCons (m2 dAdd (m2 dAdd (m2 dMul (mVar 4) (mC (.int C))) (m2 dMul (m2 dMul (mC (.int F)) (mVar 1)) (mVar 1))) (mC (.int G))) aNil)) (mC (.int 2305843009213693921))) (aCons (mC (.int 0)) aNil))))))))
def c__law_pot (A B C F G : Int) : List D → Option (DV × D) := runFn none 5 (cb__law_pot A B C F G)
def cb__law_cells : MS :=
  (sRet (mLRg (mB dMax (aCons (mC (.int 1)) (aCons (mB dMin (aCons (mVar 1) (aCons (mLenS 0) aNil))) aNil)))))
def c__law_cells : List D → Option (DV × D) := runFn none 2 cb__law_cells
theorem common_wh : ∀ {n : Nat} {a b x : Int}, eu n a b = some x → whN (tst (m2 dNe (mVar 1) (mC (.int 0)))) (sPar [0, 1] (dCons (mVar 1) (dCons (m2 dMod (mVar 0) (mVar 1)) dNil))) n [some (.val (.int a)), some (.val (.int b))] = some (.nx [some (.val (.int x)), some (.val (.int 0))])
  | 0, _, _, _, h => by cases h
  | n + 1, a, b, x, h => by
    by_cases h0 : b = 0
    · subst h0
      simp only [eu, if_true, Option.some.injEq] at h
      subst h
      simp [whN_s, kSeq_1, kSeq_2, kSeq_3, kSeq_4, kSet_1, kNx_1, kPar_1, kd2_1, kd1_1, kIf_1, kIf_2, kRt_1, kEx_1, kVar_1, kVar_2, kMov_1, kMov_2, kfz_1, kfz_2, kc_1, k1_1, k2b_1, k2a_1, kt_1, kn_1, kAnd_1, kAnd_2, kOr_1, kOr_2, kmA_1, kmA_2, kmO_1, kmO_2, kmI_1, kmI_2, kh4_1, kh3_1, kh3_2, kh2_1, kh1_1, kcb_1, kca_1, kL5_1, kL4_1, kL3_1, kL2_1, kL1_1, kl2_1, kl1_1, kl3_1, kr_1, krs_1, krs_2, kput_1, kput_2, kpk_1, klst_1, klst_2, kbor_1, ka2_1, ka1_1, ktup_1, kls_1, kB_1, kx3_1, kx2_1, kx1_1, kx4_1, kis2_1, kis_1, kp_1, ks3_1, ks2_1, ks1_1, kF_1, kF2_1, kF2_2, kF2_3, kF2_4, kF1_1, kW2_1, kW2_2, kW2_3, kW2_4, kW_1, kW_2, kg_1, ksa_1, ki_1, ki_2, ki_3, kap2_1, kap_1, ksx4_1, ksx3_1, ksx2_1, ksx1_1, kat_1, ko_1, kfin_1, kfin_2, klc2_1, klc_1, kC4_1, kC3_1, kC2_1, kC2_2, kC1_1, ksum_1, kst2_1, kst_1, kst_2, kRev_1, kRev_2, krg_1, krg2_1, krg1_1, kav_1, kav_2, krc_1, runFn_a, out_n, out_s, ini_a, iniL_n, iniL_0, iniL_e, sSeq_a, sSet_a, sPar_a, dNil_a, dCons_a, setAll_n, setAll_c, sIf_a, sRet_a, sExpr_a, sNext_a, sBreak_a, sCont_a, mC_a, mVar_a, mMove_a, fz_a, m1_a, m2_a, tst_a, tNot_a, tAnd_a, tOr_a, tYes_a, mAnd_a, mOr_a, mIf_a, mChain_a, mCall_a, mCallL_a, lNil_a, lCons_a, lLend_a, res_e, res_v, res_s, slot_0, slot_s, put_a, peek_a, lstAt_a, get_v, get_o, get_b, aNil_a, aCons_a, aStar_a, mTup_a, mLst_a, mB_a, mIxS_a, mLenS_a, mIsi_a, pNone_a, pSome_a, mSl_a, sFor_a, forL_n, forL_c, whN_s, gN_a, gT_a, gsC_a, gsN_a, sAsg_a, iSeq_a, sApp_a, sSetIx_a, mLc_a, lcL_n, lcL_c, wipe_n, wipe_c, rest_n, rest_c, allVal_n, allVal_c, mRev_a, mLRg_a, mLRg2_a, lt_int, le_int, gt_int, ge_int, sub_int, add_int, mod_int, fdiv_int, pow_int', mul_ok, eq_int, ne_int, neg_int, not_bl, abs_int, int_int, int_bl, max_2, min_2, max_3, min_3, len_l, len_t, len_s, lenB_l, lenB_t, lenB_s, ix_l, ix_t, ix_s, ixV_a, at_a, tuple_l, tuple_t, list_l, list_t, sum_l, all_l, any_l, isi_int, isi_bool, isi_tup, ix_fr0, ix_fr1, mul_l, cat_l, cat_t, sl_l, sl_t, sl_s, line, L2.ixN]
    · have ih := common_wh (n := n) (a := b) (b := a.fmod b) (x := x) (by simpa [eu, h0] using h)
      simp [whN_s, kSeq_1, kSeq_2, kSeq_3, kSeq_4, kSet_1, kNx_1, kPar_1, kd2_1, kd1_1, kIf_1, kIf_2, kRt_1, kEx_1, kVar_1, kVar_2, kMov_1, kMov_2, kfz_1, kfz_2, kc_1, k1_1, k2b_1, k2a_1, kt_1, kn_1, kAnd_1, kAnd_2, kOr_1, kOr_2, kmA_1, kmA_2, kmO_1, kmO_2, kmI_1, kmI_2, kh4_1, kh3_1, kh3_2, kh2_1, kh1_1, kcb_1, kca_1, kL5_1, kL4_1, kL3_1, kL2_1, kL1_1, kl2_1, kl1_1, kl3_1, kr_1, krs_1, krs_2, kput_1, kput_2, kpk_1, klst_1, klst_2, kbor_1, ka2_1, ka1_1, ktup_1, kls_1, kB_1, kx3_1, kx2_1, kx1_1, kx4_1, kis2_1, kis_1, kp_1, ks3_1, ks2_1, ks1_1, kF_1, kF2_1, kF2_2, kF2_3, kF2_4, kF1_1, kW2_1, kW2_2, kW2_3, kW2_4, kW_1, kW_2, kg_1, ksa_1, ki_1, ki_2, ki_3, kap2_1, kap_1, ksx4_1, ksx3_1, ksx2_1, ksx1_1, kat_1, ko_1, kfin_1, kfin_2, klc2_1, klc_1, kC4_1, kC3_1, kC2_1, kC2_2, kC1_1, ksum_1, kst2_1, kst_1, kst_2, kRev_1, kRev_2, krg_1, krg2_1, krg1_1, kav_1, kav_2, krc_1, runFn_a, out_n, out_s, ini_a, iniL_n, iniL_0, iniL_e, sSeq_a, sSet_a, sPar_a, dNil_a, dCons_a, setAll_n, setAll_c, sIf_a, sRet_a, sExpr_a, sNext_a, sBreak_a, sCont_a, mC_a, mVar_a, mMove_a, fz_a, m1_a, m2_a, tst_a, tNot_a, tAnd_a, tOr_a, tYes_a, mAnd_a, mOr_a, mIf_a, mChain_a, mCall_a, mCallL_a, lNil_a, lCons_a, lLend_a, res_e, res_v, res_s, slot_0, slot_s, put_a, peek_a, lstAt_a, get_v, get_o, get_b, aNil_a, aCons_a, aStar_a, mTup_a, mLst_a, mB_a, mIxS_a, mLenS_a, mIsi_a, pNone_a, pSome_a, mSl_a, sFor_a, forL_n, forL_c, whN_s, gN_a, gT_a, gsC_a, gsN_a, sAsg_a, iSeq_a, sApp_a, sSetIx_a, mLc_a, lcL_n, lcL_c, wipe_n, wipe_c, rest_n, rest_c, allVal_n, allVal_c, mRev_a, mLRg_a, mLRg2_a, lt_int, le_int, gt_int, ge_int, sub_int, add_int, mod_int, fdiv_int, pow_int', mul_ok, eq_int, ne_int, neg_int, not_bl, abs_int, int_int, int_bl, max_2, min_2, max_3, min_3, len_l, len_t, len_s, lenB_l, lenB_t, lenB_s, ix_l, ix_t, ix_s, ixV_a, at_a, tuple_l, tuple_t, list_l, list_t, sum_l, all_l, any_l, isi_int, isi_bool, isi_tup, ix_fr0, ix_fr1, mul_l, cat_l, cat_t, sl_l, sl_t, sl_s, line, L2.ixN, h0]
      exact ih
theorem eu_ex (a b : Int) : ∃ n x, eu n a b = some x := by
  obtain ⟨x, h⟩ := eu_some (b.natAbs) a b Nat.lt_two_pow_self
  exact ⟨_, x, h⟩
theorem common_of_ok (a b : Int) : c_common_of [.int a, .int b] = ok (.int (Int.gcd a b)) := by
  obtain ⟨n, x, h⟩ := eu_ex a b
  have w := sWhile_of (common_wh h)
  have g := eu_gcd h
  simp [c_common_of, cb_common_of, kSeq_1, kSeq_2, kSeq_3, kSeq_4, kSet_1, kNx_1, kPar_1, kd2_1, kd1_1, kIf_1, kIf_2, kRt_1, kEx_1, kVar_1, kVar_2, kMov_1, kMov_2, kfz_1, kfz_2, kc_1, k1_1, k2b_1, k2a_1, kt_1, kn_1, kAnd_1, kAnd_2, kOr_1, kOr_2, kmA_1, kmA_2, kmO_1, kmO_2, kmI_1, kmI_2, kh4_1, kh3_1, kh3_2, kh2_1, kh1_1, kcb_1, kca_1, kL5_1, kL4_1, kL3_1, kL2_1, kL1_1, kl2_1, kl1_1, kl3_1, kr_1, krs_1, krs_2, kput_1, kput_2, kpk_1, klst_1, klst_2, kbor_1, ka2_1, ka1_1, ktup_1, kls_1, kB_1, kx3_1, kx2_1, kx1_1, kx4_1, kis2_1, kis_1, kp_1, ks3_1, ks2_1, ks1_1, kF_1, kF2_1, kF2_2, kF2_3, kF2_4, kF1_1, kW2_1, kW2_2, kW2_3, kW2_4, kW_1, kW_2, kg_1, ksa_1, ki_1, ki_2, ki_3, kap2_1, kap_1, ksx4_1, ksx3_1, ksx2_1, ksx1_1, kat_1, ko_1, kfin_1, kfin_2, klc2_1, klc_1, kC4_1, kC3_1, kC2_1, kC2_2, kC1_1, ksum_1, kst2_1, kst_1, kst_2, kRev_1, kRev_2, krg_1, krg2_1, krg1_1, kav_1, kav_2, krc_1, runFn_a, out_n, out_s, ini_a, iniL_n, iniL_0, iniL_e, sSeq_a, sSet_a, sPar_a, dNil_a, dCons_a, setAll_n, setAll_c, sIf_a, sRet_a, sExpr_a, sNext_a, sBreak_a, sCont_a, mC_a, mVar_a, mMove_a, fz_a, m1_a, m2_a, tst_a, tNot_a, tAnd_a, tOr_a, tYes_a, mAnd_a, mOr_a, mIf_a, mChain_a, mCall_a, mCallL_a, lNil_a, lCons_a, lLend_a, res_e, res_v, res_s, slot_0, slot_s, put_a, peek_a, lstAt_a, get_v, get_o, get_b, aNil_a, aCons_a, aStar_a, mTup_a, mLst_a, mB_a, mIxS_a, mLenS_a, mIsi_a, pNone_a, pSome_a, mSl_a, sFor_a, forL_n, forL_c, whN_s, gN_a, gT_a, gsC_a, gsN_a, sAsg_a, iSeq_a, sApp_a, sSetIx_a, mLc_a, lcL_n, lcL_c, wipe_n, wipe_c, rest_n, rest_c, allVal_n, allVal_c, mRev_a, mLRg_a, mLRg2_a, lt_int, le_int, gt_int, ge_int, sub_int, add_int, mod_int, fdiv_int, pow_int', mul_ok, eq_int, ne_int, neg_int, not_bl, abs_int, int_int, int_bl, max_2, min_2, max_3, min_3, len_l, len_t, len_s, lenB_l, lenB_t, lenB_s, ix_l, ix_t, ix_s, ixV_a, at_a, tuple_l, tuple_t, list_l, list_t, sum_l, all_l, any_l, isi_int, isi_bool, isi_tup, ix_fr0, ix_fr1, mul_l, cat_l, cat_t, sl_l, sl_t, sl_s, line, L2.ixN, w, g]
theorem ratio_of_ok {a b : Int} (hb : b ≠ 0) {n : Nat} (hs : Sz n b) (hn : n < 9000 := by decide) : c_ratio_of [.int a, .int b] = ok (fr ((a : Rat) / b)) := by
  have d1 : DivOk (Int.gcd a b) := (hs.of_le (gcd_le hb)).divOk (gcd_ne hb) hn
  have d2 : DivOk (-(Int.gcd a b : Int)) := (hs.of_le (gcd_le hb)).neg.divOk (by have := gcd_ne (a := a) hb; omega) hn
  by_cases h : b < 0
  · obtain ⟨e1, e2⟩ := ratio_neg (a := a) h
    simp [c_ratio_of, cb_ratio_of, kSeq_1, kSeq_2, kSeq_3, kSeq_4, kSet_1, kNx_1, kPar_1, kd2_1, kd1_1, kIf_1, kIf_2, kRt_1, kEx_1, kVar_1, kVar_2, kMov_1, kMov_2, kfz_1, kfz_2, kc_1, k1_1, k2b_1, k2a_1, kt_1, kn_1, kAnd_1, kAnd_2, kOr_1, kOr_2, kmA_1, kmA_2, kmO_1, kmO_2, kmI_1, kmI_2, kh4_1, kh3_1, kh3_2, kh2_1, kh1_1, kcb_1, kca_1, kL5_1, kL4_1, kL3_1, kL2_1, kL1_1, kl2_1, kl1_1, kl3_1, kr_1, krs_1, krs_2, kput_1, kput_2, kpk_1, klst_1, klst_2, kbor_1, ka2_1, ka1_1, ktup_1, kls_1, kB_1, kx3_1, kx2_1, kx1_1, kx4_1, kis2_1, kis_1, kp_1, ks3_1, ks2_1, ks1_1, kF_1, kF2_1, kF2_2, kF2_3, kF2_4, kF1_1, kW2_1, kW2_2, kW2_3, kW2_4, kW_1, kW_2, kg_1, ksa_1, ki_1, ki_2, ki_3, kap2_1, kap_1, ksx4_1, ksx3_1, ksx2_1, ksx1_1, kat_1, ko_1, kfin_1, kfin_2, klc2_1, klc_1, kC4_1, kC3_1, kC2_1, kC2_2, kC1_1, ksum_1, kst2_1, kst_1, kst_2, kRev_1, kRev_2, krg_1, krg2_1, krg1_1, kav_1, kav_2, krc_1, runFn_a, out_n, out_s, ini_a, iniL_n, iniL_0, iniL_e, sSeq_a, sSet_a, sPar_a, dNil_a, dCons_a, setAll_n, setAll_c, sIf_a, sRet_a, sExpr_a, sNext_a, sBreak_a, sCont_a, mC_a, mVar_a, mMove_a, fz_a, m1_a, m2_a, tst_a, tNot_a, tAnd_a, tOr_a, tYes_a, mAnd_a, mOr_a, mIf_a, mChain_a, mCall_a, mCallL_a, lNil_a, lCons_a, lLend_a, res_e, res_v, res_s, slot_0, slot_s, put_a, peek_a, lstAt_a, get_v, get_o, get_b, aNil_a, aCons_a, aStar_a, mTup_a, mLst_a, mB_a, mIxS_a, mLenS_a, mIsi_a, pNone_a, pSome_a, mSl_a, sFor_a, forL_n, forL_c, whN_s, gN_a, gT_a, gsC_a, gsN_a, sAsg_a, iSeq_a, sApp_a, sSetIx_a, mLc_a, lcL_n, lcL_c, wipe_n, wipe_c, rest_n, rest_c, allVal_n, allVal_c, mRev_a, mLRg_a, mLRg2_a, lt_int, le_int, gt_int, ge_int, sub_int, add_int, mod_int, fdiv_int, pow_int', mul_ok, eq_int, ne_int, neg_int, not_bl, abs_int, int_int, int_bl, max_2, min_2, max_3, min_3, len_l, len_t, len_s, lenB_l, lenB_t, lenB_s, ix_l, ix_t, ix_s, ixV_a, at_a, tuple_l, tuple_t, list_l, list_t, sum_l, all_l, any_l, isi_int, isi_bool, isi_tup, ix_fr0, ix_fr1, mul_l, cat_l, cat_t, sl_l, sl_t, sl_s, line, L2.ixN, common_of_ok, h, d2, e1, e2, fr]
  · obtain ⟨e1, e2⟩ := ratio_pos (a := a) (b := b) (by omega)
    simp [c_ratio_of, cb_ratio_of, kSeq_1, kSeq_2, kSeq_3, kSeq_4, kSet_1, kNx_1, kPar_1, kd2_1, kd1_1, kIf_1, kIf_2, kRt_1, kEx_1, kVar_1, kVar_2, kMov_1, kMov_2, kfz_1, kfz_2, kc_1, k1_1, k2b_1, k2a_1, kt_1, kn_1, kAnd_1, kAnd_2, kOr_1, kOr_2, kmA_1, kmA_2, kmO_1, kmO_2, kmI_1, kmI_2, kh4_1, kh3_1, kh3_2, kh2_1, kh1_1, kcb_1, kca_1, kL5_1, kL4_1, kL3_1, kL2_1, kL1_1, kl2_1, kl1_1, kl3_1, kr_1, krs_1, krs_2, kput_1, kput_2, kpk_1, klst_1, klst_2, kbor_1, ka2_1, ka1_1, ktup_1, kls_1, kB_1, kx3_1, kx2_1, kx1_1, kx4_1, kis2_1, kis_1, kp_1, ks3_1, ks2_1, ks1_1, kF_1, kF2_1, kF2_2, kF2_3, kF2_4, kF1_1, kW2_1, kW2_2, kW2_3, kW2_4, kW_1, kW_2, kg_1, ksa_1, ki_1, ki_2, ki_3, kap2_1, kap_1, ksx4_1, ksx3_1, ksx2_1, ksx1_1, kat_1, ko_1, kfin_1, kfin_2, klc2_1, klc_1, kC4_1, kC3_1, kC2_1, kC2_2, kC1_1, ksum_1, kst2_1, kst_1, kst_2, kRev_1, kRev_2, krg_1, krg2_1, krg1_1, kav_1, kav_2, krc_1, runFn_a, out_n, out_s, ini_a, iniL_n, iniL_0, iniL_e, sSeq_a, sSet_a, sPar_a, dNil_a, dCons_a, setAll_n, setAll_c, sIf_a, sRet_a, sExpr_a, sNext_a, sBreak_a, sCont_a, mC_a, mVar_a, mMove_a, fz_a, m1_a, m2_a, tst_a, tNot_a, tAnd_a, tOr_a, tYes_a, mAnd_a, mOr_a, mIf_a, mChain_a, mCall_a, mCallL_a, lNil_a, lCons_a, lLend_a, res_e, res_v, res_s, slot_0, slot_s, put_a, peek_a, lstAt_a, get_v, get_o, get_b, aNil_a, aCons_a, aStar_a, mTup_a, mLst_a, mB_a, mIxS_a, mLenS_a, mIsi_a, pNone_a, pSome_a, mSl_a, sFor_a, forL_n, forL_c, whN_s, gN_a, gT_a, gsC_a, gsN_a, sAsg_a, iSeq_a, sApp_a, sSetIx_a, mLc_a, lcL_n, lcL_c, wipe_n, wipe_c, rest_n, rest_c, allVal_n, allVal_c, mRev_a, mLRg_a, mLRg2_a, lt_int, le_int, gt_int, ge_int, sub_int, add_int, mod_int, fdiv_int, pow_int', mul_ok, eq_int, ne_int, neg_int, not_bl, abs_int, int_int, int_bl, max_2, min_2, max_3, min_3, len_l, len_t, len_s, lenB_l, lenB_t, lenB_s, ix_l, ix_t, ix_s, ixV_a, at_a, tuple_l, tuple_t, list_l, list_t, sum_l, all_l, any_l, isi_int, isi_bool, isi_tup, ix_fr0, ix_fr1, mul_l, cat_l, cat_t, sl_l, sl_t, sl_s, line, L2.ixN, common_of_ok, h, d1, e1, e2, fr]
theorem p62a : (2000001 : Int) ≤ 2 ^ 62 := by decide
theorem p62b : -(2 ^ 62) ≤ (-2000000 : Int) := by decide
theorem range_D (n : Nat) (h : n ≤ 2000000) (ρ ρ' : En) (ms : MA) (e : ms ρ = some ([.int n], ρ')) : iRng ms ρ = some (rangeD 0 n, ρ') := by
  have h0 : ∀ A B : Int, A ≤ -2000000 → 2000001 ≤ B → A ≤ (n : Int) ∧ (n : Int) < B := fun A B h1 h2 => ⟨by omega, by omega⟩
  have h1 := h0 _ _ p62b p62a
  unfold iRng
  rw [e, Option.bind_some]
  exact (if_pos h1).trans (by rw [Int.toNat_natCast])
theorem range_D2 (lo hi : Int) (h1 : -2000000 ≤ lo) (h2 : lo ≤ 2000000) (h3 : -2000000 ≤ hi) (h4 : hi ≤ 2000000) (ρ ρ' : En) (ms : MA) (e : ms ρ = some ([.int lo, .int hi], ρ')) : iRng ms ρ = some (rangeD lo (hi - lo).toNat, ρ') := by
  have h0 : ∀ A B : Int, A ≤ -2000000 → 2000001 ≤ B → A ≤ lo ∧ lo < B ∧ A ≤ hi ∧ hi < B := fun A B h1 h2 => ⟨by omega, by omega, by omega, by omega⟩
  have h1 := h0 _ _ p62b p62a
  unfold iRng
  rw [e, Option.bind_some]
  exact if_pos h1
theorem pow_loop {a : Int} {n : Nat} (hs : Sz n a) : ∀ (L : List D) (x m : D) (k : Nat) (o : Option DV), n * (k + L.length + 2) < 900000 → ∃ o',
    forL (gN 3) (sSet 2 (m2 dMul (mVar 2) (mVar 0))) L [some (.val (.int a)), some (.val m), some (.val (.int (a ^ k))), o] = some (.nx [some (.val (.int a)), some (.val m), some (.val (.int (a ^ (k + L.length)))), o'])
  | [], x, m, k, o, hl => ⟨o, by simp [forL]⟩
  | d :: L, x, m, k, o, hl => by
    have hm : MulOk (a ^ k) a := (hs.pow k).mulOk hs (by
      simp only [List.length_cons, Nat.mul_add, Nat.mul_one] at hl ⊢
      omega)
    obtain ⟨o', ih⟩ := pow_loop hs L x m (k + 1) (some (.val d)) (by
      simp only [List.length_cons] at hl
      have e : k + 1 + L.length + 2 = k + (L.length + 1) + 2 := by omega
      rw [e]; exact hl)
    refine ⟨o', ?_⟩
    have e : k + (d :: L).length = k + 1 + L.length := by simp only [List.length_cons]; omega
    rw [e, ← ih]
    simp [kSeq_1, kSeq_2, kSeq_3, kSeq_4, kSet_1, kNx_1, kPar_1, kd2_1, kd1_1, kIf_1, kIf_2, kRt_1, kEx_1, kVar_1, kVar_2, kMov_1, kMov_2, kfz_1, kfz_2, kc_1, k1_1, k2b_1, k2a_1, kt_1, kn_1, kAnd_1, kAnd_2, kOr_1, kOr_2, kmA_1, kmA_2, kmO_1, kmO_2, kmI_1, kmI_2, kh4_1, kh3_1, kh3_2, kh2_1, kh1_1, kcb_1, kca_1, kL5_1, kL4_1, kL3_1, kL2_1, kL1_1, kl2_1, kl1_1, kl3_1, kr_1, krs_1, krs_2, kput_1, kput_2, kpk_1, klst_1, klst_2, kbor_1, ka2_1, ka1_1, ktup_1, kls_1, kB_1, kx3_1, kx2_1, kx1_1, kx4_1, kis2_1, kis_1, kp_1, ks3_1, ks2_1, ks1_1, kF_1, kF2_1, kF2_2, kF2_3, kF2_4, kF1_1, kW2_1, kW2_2, kW2_3, kW2_4, kW_1, kW_2, kg_1, ksa_1, ki_1, ki_2, ki_3, kap2_1, kap_1, ksx4_1, ksx3_1, ksx2_1, ksx1_1, kat_1, ko_1, kfin_1, kfin_2, klc2_1, klc_1, kC4_1, kC3_1, kC2_1, kC2_2, kC1_1, ksum_1, kst2_1, kst_1, kst_2, kRev_1, kRev_2, krg_1, krg2_1, krg1_1, kav_1, kav_2, krc_1, runFn_a, out_n, out_s, ini_a, iniL_n, iniL_0, iniL_e, sSeq_a, sSet_a, sPar_a, dNil_a, dCons_a, setAll_n, setAll_c, sIf_a, sRet_a, sExpr_a, sNext_a, sBreak_a, sCont_a, mC_a, mVar_a, mMove_a, fz_a, m1_a, m2_a, tst_a, tNot_a, tAnd_a, tOr_a, tYes_a, mAnd_a, mOr_a, mIf_a, mChain_a, mCall_a, mCallL_a, lNil_a, lCons_a, lLend_a, res_e, res_v, res_s, slot_0, slot_s, put_a, peek_a, lstAt_a, get_v, get_o, get_b, aNil_a, aCons_a, aStar_a, mTup_a, mLst_a, mB_a, mIxS_a, mLenS_a, mIsi_a, pNone_a, pSome_a, mSl_a, sFor_a, forL_n, forL_c, whN_s, gN_a, gT_a, gsC_a, gsN_a, sAsg_a, iSeq_a, sApp_a, sSetIx_a, mLc_a, lcL_n, lcL_c, wipe_n, wipe_c, rest_n, rest_c, allVal_n, allVal_c, mRev_a, mLRg_a, mLRg2_a, lt_int, le_int, gt_int, ge_int, sub_int, add_int, mod_int, fdiv_int, pow_int', mul_ok, eq_int, ne_int, neg_int, not_bl, abs_int, int_int, int_bl, max_2, min_2, max_3, min_3, len_l, len_t, len_s, lenB_l, lenB_t, lenB_s, ix_l, ix_t, ix_s, ixV_a, at_a, tuple_l, tuple_t, list_l, list_t, sum_l, all_l, any_l, isi_int, isi_bool, isi_tup, ix_fr0, ix_fr1, mul_l, cat_l, cat_t, sl_l, sl_t, sl_s, line, L2.ixN, hm, Int.pow_succ]
theorem whole_power_ok {a : Int} {n k : Nat} (hs : Sz n a) (hl : n * (k + 2) < 900000 := by decide) (hk : k ≤ 2000000) : c_whole_power [.int a, .int k] = ok (.int (a ^ k)) := by
  obtain ⟨o', h⟩ := pow_loop hs (rangeD 0 k) (.int 0) (.int k) 0 none (by rw [rangeD_length]; rw [Nat.zero_add]; exact hl)
  rw [rangeD_length, Nat.zero_add, Int.pow_zero] at h
  have hr := range_D k hk [some (.val (.int a)), some (.val (.int k)), some (.val (.int 1)), none] [some (.val (.int a)), some (.val (.int k)), some (.val (.int 1)), none] (aCons (mVar 1) aNil) (by simp [kSeq_1, kSeq_2, kSeq_3, kSeq_4, kSet_1, kNx_1, kPar_1, kd2_1, kd1_1, kIf_1, kIf_2, kRt_1, kEx_1, kVar_1, kVar_2, kMov_1, kMov_2, kfz_1, kfz_2, kc_1, k1_1, k2b_1, k2a_1, kt_1, kn_1, kAnd_1, kAnd_2, kOr_1, kOr_2, kmA_1, kmA_2, kmO_1, kmO_2, kmI_1, kmI_2, kh4_1, kh3_1, kh3_2, kh2_1, kh1_1, kcb_1, kca_1, kL5_1, kL4_1, kL3_1, kL2_1, kL1_1, kl2_1, kl1_1, kl3_1, kr_1, krs_1, krs_2, kput_1, kput_2, kpk_1, klst_1, klst_2, kbor_1, ka2_1, ka1_1, ktup_1, kls_1, kB_1, kx3_1, kx2_1, kx1_1, kx4_1, kis2_1, kis_1, kp_1, ks3_1, ks2_1, ks1_1, kF_1, kF2_1, kF2_2, kF2_3, kF2_4, kF1_1, kW2_1, kW2_2, kW2_3, kW2_4, kW_1, kW_2, kg_1, ksa_1, ki_1, ki_2, ki_3, kap2_1, kap_1, ksx4_1, ksx3_1, ksx2_1, ksx1_1, kat_1, ko_1, kfin_1, kfin_2, klc2_1, klc_1, kC4_1, kC3_1, kC2_1, kC2_2, kC1_1, ksum_1, kst2_1, kst_1, kst_2, kRev_1, kRev_2, krg_1, krg2_1, krg1_1, kav_1, kav_2, krc_1, runFn_a, out_n, out_s, ini_a, iniL_n, iniL_0, iniL_e, sSeq_a, sSet_a, sPar_a, dNil_a, dCons_a, setAll_n, setAll_c, sIf_a, sRet_a, sExpr_a, sNext_a, sBreak_a, sCont_a, mC_a, mVar_a, mMove_a, fz_a, m1_a, m2_a, tst_a, tNot_a, tAnd_a, tOr_a, tYes_a, mAnd_a, mOr_a, mIf_a, mChain_a, mCall_a, mCallL_a, lNil_a, lCons_a, lLend_a, res_e, res_v, res_s, slot_0, slot_s, put_a, peek_a, lstAt_a, get_v, get_o, get_b, aNil_a, aCons_a, aStar_a, mTup_a, mLst_a, mB_a, mIxS_a, mLenS_a, mIsi_a, pNone_a, pSome_a, mSl_a, sFor_a, forL_n, forL_c, whN_s, gN_a, gT_a, gsC_a, gsN_a, sAsg_a, iSeq_a, sApp_a, sSetIx_a, mLc_a, lcL_n, lcL_c, wipe_n, wipe_c, rest_n, rest_c, allVal_n, allVal_c, mRev_a, mLRg_a, mLRg2_a, lt_int, le_int, gt_int, ge_int, sub_int, add_int, mod_int, fdiv_int, pow_int', mul_ok, eq_int, ne_int, neg_int, not_bl, abs_int, int_int, int_bl, max_2, min_2, max_3, min_3, len_l, len_t, len_s, lenB_l, lenB_t, lenB_s, ix_l, ix_t, ix_s, ixV_a, at_a, tuple_l, tuple_t, list_l, list_t, sum_l, all_l, any_l, isi_int, isi_bool, isi_tup, ix_fr0, ix_fr1, mul_l, cat_l, cat_t, sl_l, sl_t, sl_s, line, L2.ixN])
  simp [c_whole_power, cb_whole_power, kSeq_1, kSeq_2, kSeq_3, kSeq_4, kSet_1, kNx_1, kPar_1, kd2_1, kd1_1, kIf_1, kIf_2, kRt_1, kEx_1, kVar_1, kVar_2, kMov_1, kMov_2, kfz_1, kfz_2, kc_1, k1_1, k2b_1, k2a_1, kt_1, kn_1, kAnd_1, kAnd_2, kOr_1, kOr_2, kmA_1, kmA_2, kmO_1, kmO_2, kmI_1, kmI_2, kh4_1, kh3_1, kh3_2, kh2_1, kh1_1, kcb_1, kca_1, kL5_1, kL4_1, kL3_1, kL2_1, kL1_1, kl2_1, kl1_1, kl3_1, kr_1, krs_1, krs_2, kput_1, kput_2, kpk_1, klst_1, klst_2, kbor_1, ka2_1, ka1_1, ktup_1, kls_1, kB_1, kx3_1, kx2_1, kx1_1, kx4_1, kis2_1, kis_1, kp_1, ks3_1, ks2_1, ks1_1, kF_1, kF2_1, kF2_2, kF2_3, kF2_4, kF1_1, kW2_1, kW2_2, kW2_3, kW2_4, kW_1, kW_2, kg_1, ksa_1, ki_1, ki_2, ki_3, kap2_1, kap_1, ksx4_1, ksx3_1, ksx2_1, ksx1_1, kat_1, ko_1, kfin_1, kfin_2, klc2_1, klc_1, kC4_1, kC3_1, kC2_1, kC2_2, kC1_1, ksum_1, kst2_1, kst_1, kst_2, kRev_1, kRev_2, krg_1, krg2_1, krg1_1, kav_1, kav_2, krc_1, runFn_a, out_n, out_s, ini_a, iniL_n, iniL_0, iniL_e, sSeq_a, sSet_a, sPar_a, dNil_a, dCons_a, setAll_n, setAll_c, sIf_a, sRet_a, sExpr_a, sNext_a, sBreak_a, sCont_a, mC_a, mVar_a, mMove_a, fz_a, m1_a, m2_a, tst_a, tNot_a, tAnd_a, tOr_a, tYes_a, mAnd_a, mOr_a, mIf_a, mChain_a, mCall_a, mCallL_a, lNil_a, lCons_a, lLend_a, res_e, res_v, res_s, slot_0, slot_s, put_a, peek_a, lstAt_a, get_v, get_o, get_b, aNil_a, aCons_a, aStar_a, mTup_a, mLst_a, mB_a, mIxS_a, mLenS_a, mIsi_a, pNone_a, pSome_a, mSl_a, sFor_a, forL_n, forL_c, whN_s, gN_a, gT_a, gsC_a, gsN_a, sAsg_a, iSeq_a, sApp_a, sSetIx_a, mLc_a, lcL_n, lcL_c, wipe_n, wipe_c, rest_n, rest_c, allVal_n, allVal_c, mRev_a, mLRg_a, mLRg2_a, lt_int, le_int, gt_int, ge_int, sub_int, add_int, mod_int, fdiv_int, pow_int', mul_ok, eq_int, ne_int, neg_int, not_bl, abs_int, int_int, int_bl, max_2, min_2, max_3, min_3, len_l, len_t, len_s, lenB_l, lenB_t, lenB_s, ix_l, ix_t, ix_s, ixV_a, at_a, tuple_l, tuple_t, list_l, list_t, sum_l, all_l, any_l, isi_int, isi_bool, isi_tup, ix_fr0, ix_fr1, mul_l, cat_l, cat_t, sl_l, sl_t, sl_s, line, L2.ixN, hr, h]
end
end Cb

set_option Elab.async false
set_option linter.all false
set_option maxRecDepth 100000
/-! Binomials, checks, the drawing functions of the laws. -/
namespace Cb
open PySem L2
noncomputable section
theorem p63a : (2000001 : Int) ≤ 2 ^ 63 := by decide
/-! ### binomials -/
def ch : Nat → Nat → Nat
  | _, 0 => 1
  | 0, _ + 1 => 0
  | n + 1, k + 1 => ch n k + ch n (k + 1)
theorem ch_0 (n : Nat) : ch n 0 = 1 := by cases n <;> rfl
theorem ch_lt : ∀ {n k : Nat}, n < k → ch n k = 0
  | 0, k + 1, _ => rfl
  | n + 1, k + 1, h => by
    show ch n k + ch n (k + 1) = 0
    rw [ch_lt (by omega), ch_lt (by omega)]
theorem ch_self : ∀ n : Nat, ch n n = 1
  | 0 => rfl
  | n + 1 => by
    show ch n n + ch n (n + 1) = 1
    rw [ch_self n, ch_lt (by omega)]
theorem ch_step : ∀ (n k : Nat), ch n (k + 1) * (k + 1) = ch n k * (n - k)
  | 0, k => by cases k <;> simp [ch]
  | n + 1, 0 => by
    show (ch n 0 + ch n 1) * 1 = 1 * (n + 1)
    have := ch_step n 0
    rw [ch_0] at *
    simp at this ⊢; omega
  | n + 1, k + 1 => by
    show (ch n (k + 1) + ch n (k + 1 + 1)) * (k + 1 + 1) = (ch n k + ch n (k + 1)) * (n + 1 - (k + 1))
    have h1 := ch_step n k
    have h2 := ch_step n (k + 1)
    rw [Nat.add_mul, h2, Nat.add_mul, show n + 1 - (k + 1) = n - k by omega, ← h1, ← Nat.mul_add, ← Nat.mul_add]
    by_cases h : k < n
    · congr 1; omega
    · rw [ch_lt (n := n) (k := k + 1) (by omega)]; simp
theorem ch_symm : ∀ (s a b : Nat), a + b = s → ch (a + b) a = ch (a + b) b
  | 0, a, b, h => by
    have h1 : a = 0 := by omega
    have h2 : b = 0 := by omega
    rw [h1, h2]
  | s + 1, 0, b, h => by rw [ch_0, Nat.zero_add, ch_self]
  | s + 1, a + 1, 0, h => by rw [ch_0, Nat.add_zero, ch_self]
  | s + 1, a + 1, b + 1, h => by
    show ch (a + 1 + b) a + ch (a + 1 + b) (a + 1) = ch (a + 1 + b) b + ch (a + 1 + b) (b + 1)
    have h1 := ch_symm s (a + 1) b (by omega)
    have h2 := ch_symm s a (b + 1) (by omega)
    rw [show a + (b + 1) = a + 1 + b by omega] at h2
    rw [h1, h2]; omega
theorem ch_sub {n k : Nat} (h : k ≤ n) : ch n (n - k) = ch n k := by
  have := ch_symm n k (n - k) (by omega)
  rw [show k + (n - k) = n by omega] at this
  exact this.symm
theorem ch_le : ∀ (n k : Nat), ch n k ≤ 2 ^ n
  | n, 0 => by rw [ch_0]; exact Nat.one_le_two_pow
  | 0, k + 1 => by simp [ch]
  | n + 1, k + 1 => by
    show ch n k + ch n (k + 1) ≤ 2 ^ (n + 1)
    have := ch_le n k
    have := ch_le n (k + 1)
    rw [Nat.pow_succ]; omega
theorem ch_pos {n k : Nat} (h : k ≤ n) : 0 < ch n k := by
  induction n generalizing k with
  | zero => have : k = 0 := by omega
            subst this; simp [ch]
  | succ n ih =>
    cases k with
    | zero => rw [ch_0]; omega
    | succ k =>
      have := ih (k := k) (by omega)
      show 0 < ch n k + ch n (k + 1)
      omega
theorem ch_sz (n k : Nat) : Sz (n + 1) (ch n k : Int) := by
  unfold Sz
  have := ch_le n k
  rw [Nat.pow_succ]
  have : 0 < 2 ^ n := Nat.two_pow_pos n
  simp; omega
/-! ### ranges -/
theorem rangeD_0 (lo : Int) : rangeD lo 0 = [] := rfl
theorem rangeD_s (lo : Int) (n : Nat) : rangeD lo (n + 1) = .int lo :: rangeD (lo + 1) n := by
  unfold rangeD
  rw [List.range_succ_eq_map, List.map_cons, List.map_map]
  congr 1
  · simp
  · apply List.map_congr_left
    intro i _
    show D.int (lo + ((i + 1 : Nat) : Int)) = D.int (lo + 1 + (i : Int))
    congr 1; omega
theorem choose_loop {n : Nat} (hn : n < 400000) (sm : D) : ∀ (L j : Nat) (o : Option DV), j + L ≤ n → ∃ o',
    forL (gN 3) (sSet 2 (m2 dFdiv (m2 dMul (mVar 2) (m2 dSub (mVar 0) (mVar 3))) (m2 dAdd (mVar 3) (mC (.int 1))))) (rangeD (j : Int) L) [some (.val (.int n)), some (.val sm), some (.val (.int (ch n j))), o] = some (.nx [some (.val (.int n)), some (.val sm), some (.val (.int (ch n (j + L)))), o'])
  | 0, j, o, h => ⟨o, by simp [rangeD_0, kSeq_1, kSeq_2, kSeq_3, kSeq_4, kSet_1, kNx_1, kPar_1, kd2_1, kd1_1, kIf_1, kIf_2, kRt_1, kEx_1, kVar_1, kVar_2, kMov_1, kMov_2, kfz_1, kfz_2, kc_1, k1_1, k2b_1, k2a_1, kt_1, kn_1, kAnd_1, kAnd_2, kOr_1, kOr_2, kmA_1, kmA_2, kmO_1, kmO_2, kmI_1, kmI_2, kh4_1, kh3_1, kh3_2, kh2_1, kh1_1, kcb_1, kca_1, kL5_1, kL4_1, kL3_1, kL2_1, kL1_1, kl2_1, kl1_1, kl3_1, kr_1, krs_1, krs_2, kput_1, kput_2, kpk_1, klst_1, klst_2, kbor_1, ka2_1, ka1_1, ktup_1, kls_1, kB_1, kx3_1, kx2_1, kx1_1, kx4_1, kis2_1, kis_1, kp_1, ks3_1, ks2_1, ks1_1, kF_1, kF2_1, kF2_2, kF2_3, kF2_4, kF1_1, kW2_1, kW2_2, kW2_3, kW2_4, kW_1, kW_2, kg_1, ksa_1, ki_1, ki_2, ki_3, kap2_1, kap_1, ksx4_1, ksx3_1, ksx2_1, ksx1_1, kat_1, ko_1, kfin_1, kfin_2, klc2_1, klc_1, kC4_1, kC3_1, kC2_1, kC2_2, kC1_1, ksum_1, kst2_1, kst_1, kst_2, kRev_1, kRev_2, krg_1, krg2_1, krg1_1, kav_1, kav_2, krc_1, runFn_a, out_n, out_s, ini_a, iniL_n, iniL_0, iniL_e, sSeq_a, sSet_a, sPar_a, dNil_a, dCons_a, setAll_n, setAll_c, sIf_a, sRet_a, sExpr_a, sNext_a, sBreak_a, sCont_a, mC_a, mVar_a, mMove_a, fz_a, m1_a, m2_a, tst_a, tNot_a, tAnd_a, tOr_a, tYes_a, mAnd_a, mOr_a, mIf_a, mChain_a, mCall_a, mCallL_a, lNil_a, lCons_a, lLend_a, res_e, res_v, res_s, slot_0, slot_s, put_a, peek_a, lstAt_a, get_v, get_o, get_b, aNil_a, aCons_a, aStar_a, mTup_a, mLst_a, mB_a, mIxS_a, mLenS_a, mIsi_a, pNone_a, pSome_a, mSl_a, sFor_a, forL_n, forL_c, whN_s, gN_a, gT_a, gsC_a, gsN_a, sAsg_a, iSeq_a, sApp_a, sSetIx_a, mLc_a, lcL_n, lcL_c, wipe_n, wipe_c, rest_n, rest_c, allVal_n, allVal_c, mRev_a, mLRg_a, mLRg2_a, lt_int, le_int, gt_int, ge_int, sub_int, add_int, mod_int, fdiv_int, pow_int', mul_ok, eq_int, ne_int, neg_int, not_bl, abs_int, int_int, int_bl, max_2, min_2, max_3, min_3, len_l, len_t, len_s, lenB_l, lenB_t, lenB_s, ix_l, ix_t, ix_s, ixV_a, at_a, tuple_l, tuple_t, list_l, list_t, sum_l, all_l, any_l, isi_int, isi_bool, isi_tup, ix_fr0, ix_fr1, mul_l, cat_l, cat_t, sl_l, sl_t, sl_s, line, L2.ixN]⟩
  | L + 1, j, o, h => by
    obtain ⟨o', ih⟩ := choose_loop hn sm L (j + 1) (some (.val (.int j))) (by omega)
    refine ⟨o', ?_⟩
    have hs : Sz 30 ((n : Int) - j) := by unfold Sz; omega
    have hm : MulOk (ch n j : Int) ((n : Int) - j) := (ch_sz n j).mulOk hs (by omega)
    have hs2 : Sz 30 ((j : Int) + 1) := by unfold Sz; omega
    have hd : DivOk ((j : Int) + 1) := hs2.divOk (by omega)
    have e1 : ((ch n j : Int) * ((n : Int) - j)).fdiv ((j : Int) + 1) = (ch n (j + 1) : Int) := by
      have := ch_step n j
      have e2 : (ch n j : Int) * ((n : Int) - j) = (ch n (j + 1) : Int) * ((j : Int) + 1) := by
        rw [show (n : Int) - j = ((n - j : Nat) : Int) by omega, show (j : Int) + 1 = ((j + 1 : Nat) : Int) by omega, ← Int.natCast_mul, ← Int.natCast_mul, this]
      rw [e2, Int.mul_fdiv_cancel _ (by omega)]
    rw [rangeD_s, show j + (L + 1) = j + 1 + L by omega, ← ih]
    simp [kSeq_1, kSeq_2, kSeq_3, kSeq_4, kSet_1, kNx_1, kPar_1, kd2_1, kd1_1, kIf_1, kIf_2, kRt_1, kEx_1, kVar_1, kVar_2, kMov_1, kMov_2, kfz_1, kfz_2, kc_1, k1_1, k2b_1, k2a_1, kt_1, kn_1, kAnd_1, kAnd_2, kOr_1, kOr_2, kmA_1, kmA_2, kmO_1, kmO_2, kmI_1, kmI_2, kh4_1, kh3_1, kh3_2, kh2_1, kh1_1, kcb_1, kca_1, kL5_1, kL4_1, kL3_1, kL2_1, kL1_1, kl2_1, kl1_1, kl3_1, kr_1, krs_1, krs_2, kput_1, kput_2, kpk_1, klst_1, klst_2, kbor_1, ka2_1, ka1_1, ktup_1, kls_1, kB_1, kx3_1, kx2_1, kx1_1, kx4_1, kis2_1, kis_1, kp_1, ks3_1, ks2_1, ks1_1, kF_1, kF2_1, kF2_2, kF2_3, kF2_4, kF1_1, kW2_1, kW2_2, kW2_3, kW2_4, kW_1, kW_2, kg_1, ksa_1, ki_1, ki_2, ki_3, kap2_1, kap_1, ksx4_1, ksx3_1, ksx2_1, ksx1_1, kat_1, ko_1, kfin_1, kfin_2, klc2_1, klc_1, kC4_1, kC3_1, kC2_1, kC2_2, kC1_1, ksum_1, kst2_1, kst_1, kst_2, kRev_1, kRev_2, krg_1, krg2_1, krg1_1, kav_1, kav_2, krc_1, runFn_a, out_n, out_s, ini_a, iniL_n, iniL_0, iniL_e, sSeq_a, sSet_a, sPar_a, dNil_a, dCons_a, setAll_n, setAll_c, sIf_a, sRet_a, sExpr_a, sNext_a, sBreak_a, sCont_a, mC_a, mVar_a, mMove_a, fz_a, m1_a, m2_a, tst_a, tNot_a, tAnd_a, tOr_a, tYes_a, mAnd_a, mOr_a, mIf_a, mChain_a, mCall_a, mCallL_a, lNil_a, lCons_a, lLend_a, res_e, res_v, res_s, slot_0, slot_s, put_a, peek_a, lstAt_a, get_v, get_o, get_b, aNil_a, aCons_a, aStar_a, mTup_a, mLst_a, mB_a, mIxS_a, mLenS_a, mIsi_a, pNone_a, pSome_a, mSl_a, sFor_a, forL_n, forL_c, whN_s, gN_a, gT_a, gsC_a, gsN_a, sAsg_a, iSeq_a, sApp_a, sSetIx_a, mLc_a, lcL_n, lcL_c, wipe_n, wipe_c, rest_n, rest_c, allVal_n, allVal_c, mRev_a, mLRg_a, mLRg2_a, lt_int, le_int, gt_int, ge_int, sub_int, add_int, mod_int, fdiv_int, pow_int', mul_ok, eq_int, ne_int, neg_int, not_bl, abs_int, int_int, int_bl, max_2, min_2, max_3, min_3, len_l, len_t, len_s, lenB_l, lenB_t, lenB_s, ix_l, ix_t, ix_s, ixV_a, at_a, tuple_l, tuple_t, list_l, list_t, sum_l, all_l, any_l, isi_int, isi_bool, isi_tup, ix_fr0, ix_fr1, mul_l, cat_l, cat_t, sl_l, sl_t, sl_s, line, L2.ixN, hm, hd, e1]
theorem choose_of_ok {n k : Nat} (hn : n < 400000) : c_choose_of [.int n, .int k] = ok (.int (ch n k)) := by
  by_cases h : k ≤ n
  · obtain ⟨o', hl⟩ := choose_loop hn (.int k) (min k (n - k)) 0 none (by omega)
    have hm : min (k : Int) ((n : Int) - k) = ((min k (n - k) : Nat) : Int) := by omega
    have hr := range_D (min k (n - k)) (by omega) [some (.val (.int n)), some (.val (.int k)), some (.val (.int 1)), none] [some (.val (.int n)), some (.val (.int k)), some (.val (.int 1)), none] (aCons (mB dMin (aCons (mVar 1) (aCons (m2 dSub (mVar 0) (mVar 1)) aNil))) aNil) (by simp only [kSeq_1, kSeq_2, kSeq_3, kSeq_4, kSet_1, kNx_1, kPar_1, kd2_1, kd1_1, kIf_1, kIf_2, kRt_1, kEx_1, kVar_1, kVar_2, kMov_1, kMov_2, kfz_1, kfz_2, kc_1, k1_1, k2b_1, k2a_1, kt_1, kn_1, kAnd_1, kAnd_2, kOr_1, kOr_2, kmA_1, kmA_2, kmO_1, kmO_2, kmI_1, kmI_2, kh4_1, kh3_1, kh3_2, kh2_1, kh1_1, kcb_1, kca_1, kL5_1, kL4_1, kL3_1, kL2_1, kL1_1, kl2_1, kl1_1, kl3_1, kr_1, krs_1, krs_2, kput_1, kput_2, kpk_1, klst_1, klst_2, kbor_1, ka2_1, ka1_1, ktup_1, kls_1, kB_1, kx3_1, kx2_1, kx1_1, kx4_1, kis2_1, kis_1, kp_1, ks3_1, ks2_1, ks1_1, kF_1, kF2_1, kF2_2, kF2_3, kF2_4, kF1_1, kW2_1, kW2_2, kW2_3, kW2_4, kW_1, kW_2, kg_1, ksa_1, ki_1, ki_2, ki_3, kap2_1, kap_1, ksx4_1, ksx3_1, ksx2_1, ksx1_1, kat_1, ko_1, kfin_1, kfin_2, klc2_1, klc_1, kC4_1, kC3_1, kC2_1, kC2_2, kC1_1, ksum_1, kst2_1, kst_1, kst_2, kRev_1, kRev_2, krg_1, krg2_1, krg1_1, kav_1, kav_2, krc_1, runFn_a, out_n, out_s, ini_a, iniL_n, iniL_0, iniL_e, sSeq_a, sSet_a, sPar_a, dNil_a, dCons_a, setAll_n, setAll_c, sIf_a, sRet_a, sExpr_a, sNext_a, sBreak_a, sCont_a, mC_a, mVar_a, mMove_a, fz_a, m1_a, m2_a, tst_a, tNot_a, tAnd_a, tOr_a, tYes_a, mAnd_a, mOr_a, mIf_a, mChain_a, mCall_a, mCallL_a, lNil_a, lCons_a, lLend_a, res_e, res_v, res_s, slot_0, slot_s, put_a, peek_a, lstAt_a, get_v, get_o, get_b, aNil_a, aCons_a, aStar_a, mTup_a, mLst_a, mB_a, mIxS_a, mLenS_a, mIsi_a, pNone_a, pSome_a, mSl_a, sFor_a, forL_n, forL_c, whN_s, gN_a, gT_a, gsC_a, gsN_a, sAsg_a, iSeq_a, sApp_a, sSetIx_a, mLc_a, lcL_n, lcL_c, wipe_n, wipe_c, rest_n, rest_c, allVal_n, allVal_c, mRev_a, mLRg_a, mLRg2_a, lt_int, le_int, gt_int, ge_int, sub_int, add_int, mod_int, fdiv_int, pow_int', mul_ok, eq_int, ne_int, neg_int, not_bl, abs_int, int_int, int_bl, max_2, min_2, max_3, min_3, len_l, len_t, len_s, lenB_l, lenB_t, lenB_s, ix_l, ix_t, ix_s, ixV_a, at_a, tuple_l, tuple_t, list_l, list_t, sum_l, all_l, any_l, isi_int, isi_bool, isi_tup, ix_fr0, ix_fr1, mul_l, cat_l, cat_t, sl_l, sl_t, sl_s, line, L2.ixN, hm, List.getElem?_cons_succ, List.getElem?_cons_zero])
    have e : ch n (0 + min k (n - k)) = ch n k := by
      rw [Nat.zero_add]
      by_cases h2 : k ≤ n - k
      · rw [Nat.min_eq_left h2]
      · rw [Nat.min_eq_right (by omega), ch_sub h]
    rw [ch_0] at hl
    simp only [e] at hl
    have c1 : (k : Int) ≤ n := by omega
    simp [c_choose_of, cb_choose_of, kSeq_1, kSeq_2, kSeq_3, kSeq_4, kSet_1, kNx_1, kPar_1, kd2_1, kd1_1, kIf_1, kIf_2, kRt_1, kEx_1, kVar_1, kVar_2, kMov_1, kMov_2, kfz_1, kfz_2, kc_1, k1_1, k2b_1, k2a_1, kt_1, kn_1, kAnd_1, kAnd_2, kOr_1, kOr_2, kmA_1, kmA_2, kmO_1, kmO_2, kmI_1, kmI_2, kh4_1, kh3_1, kh3_2, kh2_1, kh1_1, kcb_1, kca_1, kL5_1, kL4_1, kL3_1, kL2_1, kL1_1, kl2_1, kl1_1, kl3_1, kr_1, krs_1, krs_2, kput_1, kput_2, kpk_1, klst_1, klst_2, kbor_1, ka2_1, ka1_1, ktup_1, kls_1, kB_1, kx3_1, kx2_1, kx1_1, kx4_1, kis2_1, kis_1, kp_1, ks3_1, ks2_1, ks1_1, kF_1, kF2_1, kF2_2, kF2_3, kF2_4, kF1_1, kW2_1, kW2_2, kW2_3, kW2_4, kW_1, kW_2, kg_1, ksa_1, ki_1, ki_2, ki_3, kap2_1, kap_1, ksx4_1, ksx3_1, ksx2_1, ksx1_1, kat_1, ko_1, kfin_1, kfin_2, klc2_1, klc_1, kC4_1, kC3_1, kC2_1, kC2_2, kC1_1, ksum_1, kst2_1, kst_1, kst_2, kRev_1, kRev_2, krg_1, krg2_1, krg1_1, kav_1, kav_2, krc_1, runFn_a, out_n, out_s, ini_a, iniL_n, iniL_0, iniL_e, sSeq_a, sSet_a, sPar_a, dNil_a, dCons_a, setAll_n, setAll_c, sIf_a, sRet_a, sExpr_a, sNext_a, sBreak_a, sCont_a, mC_a, mVar_a, mMove_a, fz_a, m1_a, m2_a, tst_a, tNot_a, tAnd_a, tOr_a, tYes_a, mAnd_a, mOr_a, mIf_a, mChain_a, mCall_a, mCallL_a, lNil_a, lCons_a, lLend_a, res_e, res_v, res_s, slot_0, slot_s, put_a, peek_a, lstAt_a, get_v, get_o, get_b, aNil_a, aCons_a, aStar_a, mTup_a, mLst_a, mB_a, mIxS_a, mLenS_a, mIsi_a, pNone_a, pSome_a, mSl_a, sFor_a, forL_n, forL_c, whN_s, gN_a, gT_a, gsC_a, gsN_a, sAsg_a, iSeq_a, sApp_a, sSetIx_a, mLc_a, lcL_n, lcL_c, wipe_n, wipe_c, rest_n, rest_c, allVal_n, allVal_c, mRev_a, mLRg_a, mLRg2_a, lt_int, le_int, gt_int, ge_int, sub_int, add_int, mod_int, fdiv_int, pow_int', mul_ok, eq_int, ne_int, neg_int, not_bl, abs_int, int_int, int_bl, max_2, min_2, max_3, min_3, len_l, len_t, len_s, lenB_l, lenB_t, lenB_s, ix_l, ix_t, ix_s, ixV_a, at_a, tuple_l, tuple_t, list_l, list_t, sum_l, all_l, any_l, isi_int, isi_bool, isi_tup, ix_fr0, ix_fr1, mul_l, cat_l, cat_t, sl_l, sl_t, sl_s, line, L2.ixN, c1, hr]
    simpa [kSeq_1, kSeq_2, kSeq_3, kSeq_4, kSet_1, kNx_1, kPar_1, kd2_1, kd1_1, kIf_1, kIf_2, kRt_1, kEx_1, kVar_1, kVar_2, kMov_1, kMov_2, kfz_1, kfz_2, kc_1, k1_1, k2b_1, k2a_1, kt_1, kn_1, kAnd_1, kAnd_2, kOr_1, kOr_2, kmA_1, kmA_2, kmO_1, kmO_2, kmI_1, kmI_2, kh4_1, kh3_1, kh3_2, kh2_1, kh1_1, kcb_1, kca_1, kL5_1, kL4_1, kL3_1, kL2_1, kL1_1, kl2_1, kl1_1, kl3_1, kr_1, krs_1, krs_2, kput_1, kput_2, kpk_1, klst_1, klst_2, kbor_1, ka2_1, ka1_1, ktup_1, kls_1, kB_1, kx3_1, kx2_1, kx1_1, kx4_1, kis2_1, kis_1, kp_1, ks3_1, ks2_1, ks1_1, kF_1, kF2_1, kF2_2, kF2_3, kF2_4, kF1_1, kW2_1, kW2_2, kW2_3, kW2_4, kW_1, kW_2, kg_1, ksa_1, ki_1, ki_2, ki_3, kap2_1, kap_1, ksx4_1, ksx3_1, ksx2_1, ksx1_1, kat_1, ko_1, kfin_1, kfin_2, klc2_1, klc_1, kC4_1, kC3_1, kC2_1, kC2_2, kC1_1, ksum_1, kst2_1, kst_1, kst_2, kRev_1, kRev_2, krg_1, krg2_1, krg1_1, kav_1, kav_2, krc_1, runFn_a, out_n, out_s, ini_a, iniL_n, iniL_0, iniL_e, sSeq_a, sSet_a, sPar_a, dNil_a, dCons_a, setAll_n, setAll_c, sIf_a, sRet_a, sExpr_a, sNext_a, sBreak_a, sCont_a, mC_a, mVar_a, mMove_a, fz_a, m1_a, m2_a, tst_a, tNot_a, tAnd_a, tOr_a, tYes_a, mAnd_a, mOr_a, mIf_a, mChain_a, mCall_a, mCallL_a, lNil_a, lCons_a, lLend_a, res_e, res_v, res_s, slot_0, slot_s, put_a, peek_a, lstAt_a, get_v, get_o, get_b, aNil_a, aCons_a, aStar_a, mTup_a, mLst_a, mB_a, mIxS_a, mLenS_a, mIsi_a, pNone_a, pSome_a, mSl_a, sFor_a, forL_n, forL_c, whN_s, gN_a, gT_a, gsC_a, gsN_a, sAsg_a, iSeq_a, sApp_a, sSetIx_a, mLc_a, lcL_n, lcL_c, wipe_n, wipe_c, rest_n, rest_c, allVal_n, allVal_c, mRev_a, mLRg_a, mLRg2_a, lt_int, le_int, gt_int, ge_int, sub_int, add_int, mod_int, fdiv_int, pow_int', mul_ok, eq_int, ne_int, neg_int, not_bl, abs_int, int_int, int_bl, max_2, min_2, max_3, min_3, len_l, len_t, len_s, lenB_l, lenB_t, lenB_s, ix_l, ix_t, ix_s, ixV_a, at_a, tuple_l, tuple_t, list_l, list_t, sum_l, all_l, any_l, isi_int, isi_bool, isi_tup, ix_fr0, ix_fr1, mul_l, cat_l, cat_t, sl_l, sl_t, sl_s, line, L2.ixN] using congrArg (fun r => kfin none (kSeq r (sRet (mMove 2)))) hl
  · have c1 : ¬ ((k : Int) ≤ n) := by omega
    rw [ch_lt (by omega)]
    simp [c_choose_of, cb_choose_of, kSeq_1, kSeq_2, kSeq_3, kSeq_4, kSet_1, kNx_1, kPar_1, kd2_1, kd1_1, kIf_1, kIf_2, kRt_1, kEx_1, kVar_1, kVar_2, kMov_1, kMov_2, kfz_1, kfz_2, kc_1, k1_1, k2b_1, k2a_1, kt_1, kn_1, kAnd_1, kAnd_2, kOr_1, kOr_2, kmA_1, kmA_2, kmO_1, kmO_2, kmI_1, kmI_2, kh4_1, kh3_1, kh3_2, kh2_1, kh1_1, kcb_1, kca_1, kL5_1, kL4_1, kL3_1, kL2_1, kL1_1, kl2_1, kl1_1, kl3_1, kr_1, krs_1, krs_2, kput_1, kput_2, kpk_1, klst_1, klst_2, kbor_1, ka2_1, ka1_1, ktup_1, kls_1, kB_1, kx3_1, kx2_1, kx1_1, kx4_1, kis2_1, kis_1, kp_1, ks3_1, ks2_1, ks1_1, kF_1, kF2_1, kF2_2, kF2_3, kF2_4, kF1_1, kW2_1, kW2_2, kW2_3, kW2_4, kW_1, kW_2, kg_1, ksa_1, ki_1, ki_2, ki_3, kap2_1, kap_1, ksx4_1, ksx3_1, ksx2_1, ksx1_1, kat_1, ko_1, kfin_1, kfin_2, klc2_1, klc_1, kC4_1, kC3_1, kC2_1, kC2_2, kC1_1, ksum_1, kst2_1, kst_1, kst_2, kRev_1, kRev_2, krg_1, krg2_1, krg1_1, kav_1, kav_2, krc_1, runFn_a, out_n, out_s, ini_a, iniL_n, iniL_0, iniL_e, sSeq_a, sSet_a, sPar_a, dNil_a, dCons_a, setAll_n, setAll_c, sIf_a, sRet_a, sExpr_a, sNext_a, sBreak_a, sCont_a, mC_a, mVar_a, mMove_a, fz_a, m1_a, m2_a, tst_a, tNot_a, tAnd_a, tOr_a, tYes_a, mAnd_a, mOr_a, mIf_a, mChain_a, mCall_a, mCallL_a, lNil_a, lCons_a, lLend_a, res_e, res_v, res_s, slot_0, slot_s, put_a, peek_a, lstAt_a, get_v, get_o, get_b, aNil_a, aCons_a, aStar_a, mTup_a, mLst_a, mB_a, mIxS_a, mLenS_a, mIsi_a, pNone_a, pSome_a, mSl_a, sFor_a, forL_n, forL_c, whN_s, gN_a, gT_a, gsC_a, gsN_a, sAsg_a, iSeq_a, sApp_a, sSetIx_a, mLc_a, lcL_n, lcL_c, wipe_n, wipe_c, rest_n, rest_c, allVal_n, allVal_c, mRev_a, mLRg_a, mLRg2_a, lt_int, le_int, gt_int, ge_int, sub_int, add_int, mod_int, fdiv_int, pow_int', mul_ok, eq_int, ne_int, neg_int, not_bl, abs_int, int_int, int_bl, max_2, min_2, max_3, min_3, len_l, len_t, len_s, lenB_l, lenB_t, lenB_s, ix_l, ix_t, ix_s, ixV_a, at_a, tuple_l, tuple_t, list_l, list_t, sum_l, all_l, any_l, isi_int, isi_bool, isi_tup, ix_fr0, ix_fr1, mul_l, cat_l, cat_t, sl_l, sl_t, sl_s, line, L2.ixN, c1]
theorem choose_of_neg {n k : Int} (h : k < 0) : c_choose_of [.int n, .int k] = ok (.int 0) := by
  have c1 : ¬ (0 ≤ k) := by omega
  simp [c_choose_of, cb_choose_of, kSeq_1, kSeq_2, kSeq_3, kSeq_4, kSet_1, kNx_1, kPar_1, kd2_1, kd1_1, kIf_1, kIf_2, kRt_1, kEx_1, kVar_1, kVar_2, kMov_1, kMov_2, kfz_1, kfz_2, kc_1, k1_1, k2b_1, k2a_1, kt_1, kn_1, kAnd_1, kAnd_2, kOr_1, kOr_2, kmA_1, kmA_2, kmO_1, kmO_2, kmI_1, kmI_2, kh4_1, kh3_1, kh3_2, kh2_1, kh1_1, kcb_1, kca_1, kL5_1, kL4_1, kL3_1, kL2_1, kL1_1, kl2_1, kl1_1, kl3_1, kr_1, krs_1, krs_2, kput_1, kput_2, kpk_1, klst_1, klst_2, kbor_1, ka2_1, ka1_1, ktup_1, kls_1, kB_1, kx3_1, kx2_1, kx1_1, kx4_1, kis2_1, kis_1, kp_1, ks3_1, ks2_1, ks1_1, kF_1, kF2_1, kF2_2, kF2_3, kF2_4, kF1_1, kW2_1, kW2_2, kW2_3, kW2_4, kW_1, kW_2, kg_1, ksa_1, ki_1, ki_2, ki_3, kap2_1, kap_1, ksx4_1, ksx3_1, ksx2_1, ksx1_1, kat_1, ko_1, kfin_1, kfin_2, klc2_1, klc_1, kC4_1, kC3_1, kC2_1, kC2_2, kC1_1, ksum_1, kst2_1, kst_1, kst_2, kRev_1, kRev_2, krg_1, krg2_1, krg1_1, kav_1, kav_2, krc_1, runFn_a, out_n, out_s, ini_a, iniL_n, iniL_0, iniL_e, sSeq_a, sSet_a, sPar_a, dNil_a, dCons_a, setAll_n, setAll_c, sIf_a, sRet_a, sExpr_a, sNext_a, sBreak_a, sCont_a, mC_a, mVar_a, mMove_a, fz_a, m1_a, m2_a, tst_a, tNot_a, tAnd_a, tOr_a, tYes_a, mAnd_a, mOr_a, mIf_a, mChain_a, mCall_a, mCallL_a, lNil_a, lCons_a, lLend_a, res_e, res_v, res_s, slot_0, slot_s, put_a, peek_a, lstAt_a, get_v, get_o, get_b, aNil_a, aCons_a, aStar_a, mTup_a, mLst_a, mB_a, mIxS_a, mLenS_a, mIsi_a, pNone_a, pSome_a, mSl_a, sFor_a, forL_n, forL_c, whN_s, gN_a, gT_a, gsC_a, gsN_a, sAsg_a, iSeq_a, sApp_a, sSetIx_a, mLc_a, lcL_n, lcL_c, wipe_n, wipe_c, rest_n, rest_c, allVal_n, allVal_c, mRev_a, mLRg_a, mLRg2_a, lt_int, le_int, gt_int, ge_int, sub_int, add_int, mod_int, fdiv_int, pow_int', mul_ok, eq_int, ne_int, neg_int, not_bl, abs_int, int_int, int_bl, max_2, min_2, max_3, min_3, len_l, len_t, len_s, lenB_l, lenB_t, lenB_s, ix_l, ix_t, ix_s, ixV_a, at_a, tuple_l, tuple_t, list_l, list_t, sum_l, all_l, any_l, isi_int, isi_bool, isi_tup, ix_fr0, ix_fr1, mul_l, cat_l, cat_t, sl_l, sl_t, sl_s, line, L2.ixN, c1]
/-! ### checks -/
theorem is_whole_ok (i : Int) : c_is_whole [.int i] = ok (.bl true) := by
  simp [c_is_whole, cb_is_whole, kSeq_1, kSeq_2, kSeq_3, kSeq_4, kSet_1, kNx_1, kPar_1, kd2_1, kd1_1, kIf_1, kIf_2, kRt_1, kEx_1, kVar_1, kVar_2, kMov_1, kMov_2, kfz_1, kfz_2, kc_1, k1_1, k2b_1, k2a_1, kt_1, kn_1, kAnd_1, kAnd_2, kOr_1, kOr_2, kmA_1, kmA_2, kmO_1, kmO_2, kmI_1, kmI_2, kh4_1, kh3_1, kh3_2, kh2_1, kh1_1, kcb_1, kca_1, kL5_1, kL4_1, kL3_1, kL2_1, kL1_1, kl2_1, kl1_1, kl3_1, kr_1, krs_1, krs_2, kput_1, kput_2, kpk_1, klst_1, klst_2, kbor_1, ka2_1, ka1_1, ktup_1, kls_1, kB_1, kx3_1, kx2_1, kx1_1, kx4_1, kis2_1, kis_1, kp_1, ks3_1, ks2_1, ks1_1, kF_1, kF2_1, kF2_2, kF2_3, kF2_4, kF1_1, kW2_1, kW2_2, kW2_3, kW2_4, kW_1, kW_2, kg_1, ksa_1, ki_1, ki_2, ki_3, kap2_1, kap_1, ksx4_1, ksx3_1, ksx2_1, ksx1_1, kat_1, ko_1, kfin_1, kfin_2, klc2_1, klc_1, kC4_1, kC3_1, kC2_1, kC2_2, kC1_1, ksum_1, kst2_1, kst_1, kst_2, kRev_1, kRev_2, krg_1, krg2_1, krg1_1, kav_1, kav_2, krc_1, runFn_a, out_n, out_s, ini_a, iniL_n, iniL_0, iniL_e, sSeq_a, sSet_a, sPar_a, dNil_a, dCons_a, setAll_n, setAll_c, sIf_a, sRet_a, sExpr_a, sNext_a, sBreak_a, sCont_a, mC_a, mVar_a, mMove_a, fz_a, m1_a, m2_a, tst_a, tNot_a, tAnd_a, tOr_a, tYes_a, mAnd_a, mOr_a, mIf_a, mChain_a, mCall_a, mCallL_a, lNil_a, lCons_a, lLend_a, res_e, res_v, res_s, slot_0, slot_s, put_a, peek_a, lstAt_a, get_v, get_o, get_b, aNil_a, aCons_a, aStar_a, mTup_a, mLst_a, mB_a, mIxS_a, mLenS_a, mIsi_a, pNone_a, pSome_a, mSl_a, sFor_a, forL_n, forL_c, whN_s, gN_a, gT_a, gsC_a, gsN_a, sAsg_a, iSeq_a, sApp_a, sSetIx_a, mLc_a, lcL_n, lcL_c, wipe_n, wipe_c, rest_n, rest_c, allVal_n, allVal_c, mRev_a, mLRg_a, mLRg2_a, lt_int, le_int, gt_int, ge_int, sub_int, add_int, mod_int, fdiv_int, pow_int', mul_ok, eq_int, ne_int, neg_int, not_bl, abs_int, int_int, int_bl, max_2, min_2, max_3, min_3, len_l, len_t, len_s, lenB_l, lenB_t, lenB_s, ix_l, ix_t, ix_s, ixV_a, at_a, tuple_l, tuple_t, list_l, list_t, sum_l, all_l, any_l, isi_int, isi_bool, isi_tup, ix_fr0, ix_fr1, mul_l, cat_l, cat_t, sl_l, sl_t, sl_s, line, L2.ixN]
theorem is_integer_ok (i lo hi : Int) : c_is_integer [.int i, .int lo, .int hi] = ok (.bl (decide (lo ≤ i ∧ i ≤ hi))) := by
  by_cases h : lo ≤ i
  · simp [c_is_integer, cb_is_integer, kSeq_1, kSeq_2, kSeq_3, kSeq_4, kSet_1, kNx_1, kPar_1, kd2_1, kd1_1, kIf_1, kIf_2, kRt_1, kEx_1, kVar_1, kVar_2, kMov_1, kMov_2, kfz_1, kfz_2, kc_1, k1_1, k2b_1, k2a_1, kt_1, kn_1, kAnd_1, kAnd_2, kOr_1, kOr_2, kmA_1, kmA_2, kmO_1, kmO_2, kmI_1, kmI_2, kh4_1, kh3_1, kh3_2, kh2_1, kh1_1, kcb_1, kca_1, kL5_1, kL4_1, kL3_1, kL2_1, kL1_1, kl2_1, kl1_1, kl3_1, kr_1, krs_1, krs_2, kput_1, kput_2, kpk_1, klst_1, klst_2, kbor_1, ka2_1, ka1_1, ktup_1, kls_1, kB_1, kx3_1, kx2_1, kx1_1, kx4_1, kis2_1, kis_1, kp_1, ks3_1, ks2_1, ks1_1, kF_1, kF2_1, kF2_2, kF2_3, kF2_4, kF1_1, kW2_1, kW2_2, kW2_3, kW2_4, kW_1, kW_2, kg_1, ksa_1, ki_1, ki_2, ki_3, kap2_1, kap_1, ksx4_1, ksx3_1, ksx2_1, ksx1_1, kat_1, ko_1, kfin_1, kfin_2, klc2_1, klc_1, kC4_1, kC3_1, kC2_1, kC2_2, kC1_1, ksum_1, kst2_1, kst_1, kst_2, kRev_1, kRev_2, krg_1, krg2_1, krg1_1, kav_1, kav_2, krc_1, runFn_a, out_n, out_s, ini_a, iniL_n, iniL_0, iniL_e, sSeq_a, sSet_a, sPar_a, dNil_a, dCons_a, setAll_n, setAll_c, sIf_a, sRet_a, sExpr_a, sNext_a, sBreak_a, sCont_a, mC_a, mVar_a, mMove_a, fz_a, m1_a, m2_a, tst_a, tNot_a, tAnd_a, tOr_a, tYes_a, mAnd_a, mOr_a, mIf_a, mChain_a, mCall_a, mCallL_a, lNil_a, lCons_a, lLend_a, res_e, res_v, res_s, slot_0, slot_s, put_a, peek_a, lstAt_a, get_v, get_o, get_b, aNil_a, aCons_a, aStar_a, mTup_a, mLst_a, mB_a, mIxS_a, mLenS_a, mIsi_a, pNone_a, pSome_a, mSl_a, sFor_a, forL_n, forL_c, whN_s, gN_a, gT_a, gsC_a, gsN_a, sAsg_a, iSeq_a, sApp_a, sSetIx_a, mLc_a, lcL_n, lcL_c, wipe_n, wipe_c, rest_n, rest_c, allVal_n, allVal_c, mRev_a, mLRg_a, mLRg2_a, lt_int, le_int, gt_int, ge_int, sub_int, add_int, mod_int, fdiv_int, pow_int', mul_ok, eq_int, ne_int, neg_int, not_bl, abs_int, int_int, int_bl, max_2, min_2, max_3, min_3, len_l, len_t, len_s, lenB_l, lenB_t, lenB_s, ix_l, ix_t, ix_s, ixV_a, at_a, tuple_l, tuple_t, list_l, list_t, sum_l, all_l, any_l, isi_int, isi_bool, isi_tup, ix_fr0, ix_fr1, mul_l, cat_l, cat_t, sl_l, sl_t, sl_s, line, L2.ixN, is_whole_ok, h]
  · simp [c_is_integer, cb_is_integer, kSeq_1, kSeq_2, kSeq_3, kSeq_4, kSet_1, kNx_1, kPar_1, kd2_1, kd1_1, kIf_1, kIf_2, kRt_1, kEx_1, kVar_1, kVar_2, kMov_1, kMov_2, kfz_1, kfz_2, kc_1, k1_1, k2b_1, k2a_1, kt_1, kn_1, kAnd_1, kAnd_2, kOr_1, kOr_2, kmA_1, kmA_2, kmO_1, kmO_2, kmI_1, kmI_2, kh4_1, kh3_1, kh3_2, kh2_1, kh1_1, kcb_1, kca_1, kL5_1, kL4_1, kL3_1, kL2_1, kL1_1, kl2_1, kl1_1, kl3_1, kr_1, krs_1, krs_2, kput_1, kput_2, kpk_1, klst_1, klst_2, kbor_1, ka2_1, ka1_1, ktup_1, kls_1, kB_1, kx3_1, kx2_1, kx1_1, kx4_1, kis2_1, kis_1, kp_1, ks3_1, ks2_1, ks1_1, kF_1, kF2_1, kF2_2, kF2_3, kF2_4, kF1_1, kW2_1, kW2_2, kW2_3, kW2_4, kW_1, kW_2, kg_1, ksa_1, ki_1, ki_2, ki_3, kap2_1, kap_1, ksx4_1, ksx3_1, ksx2_1, ksx1_1, kat_1, ko_1, kfin_1, kfin_2, klc2_1, klc_1, kC4_1, kC3_1, kC2_1, kC2_2, kC1_1, ksum_1, kst2_1, kst_1, kst_2, kRev_1, kRev_2, krg_1, krg2_1, krg1_1, kav_1, kav_2, krc_1, runFn_a, out_n, out_s, ini_a, iniL_n, iniL_0, iniL_e, sSeq_a, sSet_a, sPar_a, dNil_a, dCons_a, setAll_n, setAll_c, sIf_a, sRet_a, sExpr_a, sNext_a, sBreak_a, sCont_a, mC_a, mVar_a, mMove_a, fz_a, m1_a, m2_a, tst_a, tNot_a, tAnd_a, tOr_a, tYes_a, mAnd_a, mOr_a, mIf_a, mChain_a, mCall_a, mCallL_a, lNil_a, lCons_a, lLend_a, res_e, res_v, res_s, slot_0, slot_s, put_a, peek_a, lstAt_a, get_v, get_o, get_b, aNil_a, aCons_a, aStar_a, mTup_a, mLst_a, mB_a, mIxS_a, mLenS_a, mIsi_a, pNone_a, pSome_a, mSl_a, sFor_a, forL_n, forL_c, whN_s, gN_a, gT_a, gsC_a, gsN_a, sAsg_a, iSeq_a, sApp_a, sSetIx_a, mLc_a, lcL_n, lcL_c, wipe_n, wipe_c, rest_n, rest_c, allVal_n, allVal_c, mRev_a, mLRg_a, mLRg2_a, lt_int, le_int, gt_int, ge_int, sub_int, add_int, mod_int, fdiv_int, pow_int', mul_ok, eq_int, ne_int, neg_int, not_bl, abs_int, int_int, int_bl, max_2, min_2, max_3, min_3, len_l, len_t, len_s, lenB_l, lenB_t, lenB_s, ix_l, ix_t, ix_s, ixV_a, at_a, tuple_l, tuple_t, list_l, list_t, sum_l, all_l, any_l, isi_int, isi_bool, isi_tup, ix_fr0, ix_fr1, mul_l, cat_l, cat_t, sl_l, sl_t, sl_s, line, L2.ixN, is_whole_ok, h]
theorem is_tuple_ok {ds : List D} (lo hi : Int) : c_is_tuple [.tup ds, .int lo, .int hi] = ok (.bl (decide (lo ≤ ds.length ∧ (ds.length : Int) ≤ hi))) := by
  by_cases h : lo ≤ ds.length
  · simp [c_is_tuple, cb_is_tuple, kSeq_1, kSeq_2, kSeq_3, kSeq_4, kSet_1, kNx_1, kPar_1, kd2_1, kd1_1, kIf_1, kIf_2, kRt_1, kEx_1, kVar_1, kVar_2, kMov_1, kMov_2, kfz_1, kfz_2, kc_1, k1_1, k2b_1, k2a_1, kt_1, kn_1, kAnd_1, kAnd_2, kOr_1, kOr_2, kmA_1, kmA_2, kmO_1, kmO_2, kmI_1, kmI_2, kh4_1, kh3_1, kh3_2, kh2_1, kh1_1, kcb_1, kca_1, kL5_1, kL4_1, kL3_1, kL2_1, kL1_1, kl2_1, kl1_1, kl3_1, kr_1, krs_1, krs_2, kput_1, kput_2, kpk_1, klst_1, klst_2, kbor_1, ka2_1, ka1_1, ktup_1, kls_1, kB_1, kx3_1, kx2_1, kx1_1, kx4_1, kis2_1, kis_1, kp_1, ks3_1, ks2_1, ks1_1, kF_1, kF2_1, kF2_2, kF2_3, kF2_4, kF1_1, kW2_1, kW2_2, kW2_3, kW2_4, kW_1, kW_2, kg_1, ksa_1, ki_1, ki_2, ki_3, kap2_1, kap_1, ksx4_1, ksx3_1, ksx2_1, ksx1_1, kat_1, ko_1, kfin_1, kfin_2, klc2_1, klc_1, kC4_1, kC3_1, kC2_1, kC2_2, kC1_1, ksum_1, kst2_1, kst_1, kst_2, kRev_1, kRev_2, krg_1, krg2_1, krg1_1, kav_1, kav_2, krc_1, runFn_a, out_n, out_s, ini_a, iniL_n, iniL_0, iniL_e, sSeq_a, sSet_a, sPar_a, dNil_a, dCons_a, setAll_n, setAll_c, sIf_a, sRet_a, sExpr_a, sNext_a, sBreak_a, sCont_a, mC_a, mVar_a, mMove_a, fz_a, m1_a, m2_a, tst_a, tNot_a, tAnd_a, tOr_a, tYes_a, mAnd_a, mOr_a, mIf_a, mChain_a, mCall_a, mCallL_a, lNil_a, lCons_a, lLend_a, res_e, res_v, res_s, slot_0, slot_s, put_a, peek_a, lstAt_a, get_v, get_o, get_b, aNil_a, aCons_a, aStar_a, mTup_a, mLst_a, mB_a, mIxS_a, mLenS_a, mIsi_a, pNone_a, pSome_a, mSl_a, sFor_a, forL_n, forL_c, whN_s, gN_a, gT_a, gsC_a, gsN_a, sAsg_a, iSeq_a, sApp_a, sSetIx_a, mLc_a, lcL_n, lcL_c, wipe_n, wipe_c, rest_n, rest_c, allVal_n, allVal_c, mRev_a, mLRg_a, mLRg2_a, lt_int, le_int, gt_int, ge_int, sub_int, add_int, mod_int, fdiv_int, pow_int', mul_ok, eq_int, ne_int, neg_int, not_bl, abs_int, int_int, int_bl, max_2, min_2, max_3, min_3, len_l, len_t, len_s, lenB_l, lenB_t, lenB_s, ix_l, ix_t, ix_s, ixV_a, at_a, tuple_l, tuple_t, list_l, list_t, sum_l, all_l, any_l, isi_int, isi_bool, isi_tup, ix_fr0, ix_fr1, mul_l, cat_l, cat_t, sl_l, sl_t, sl_s, line, L2.ixN, h]
  · simp [c_is_tuple, cb_is_tuple, kSeq_1, kSeq_2, kSeq_3, kSeq_4, kSet_1, kNx_1, kPar_1, kd2_1, kd1_1, kIf_1, kIf_2, kRt_1, kEx_1, kVar_1, kVar_2, kMov_1, kMov_2, kfz_1, kfz_2, kc_1, k1_1, k2b_1, k2a_1, kt_1, kn_1, kAnd_1, kAnd_2, kOr_1, kOr_2, kmA_1, kmA_2, kmO_1, kmO_2, kmI_1, kmI_2, kh4_1, kh3_1, kh3_2, kh2_1, kh1_1, kcb_1, kca_1, kL5_1, kL4_1, kL3_1, kL2_1, kL1_1, kl2_1, kl1_1, kl3_1, kr_1, krs_1, krs_2, kput_1, kput_2, kpk_1, klst_1, klst_2, kbor_1, ka2_1, ka1_1, ktup_1, kls_1, kB_1, kx3_1, kx2_1, kx1_1, kx4_1, kis2_1, kis_1, kp_1, ks3_1, ks2_1, ks1_1, kF_1, kF2_1, kF2_2, kF2_3, kF2_4, kF1_1, kW2_1, kW2_2, kW2_3, kW2_4, kW_1, kW_2, kg_1, ksa_1, ki_1, ki_2, ki_3, kap2_1, kap_1, ksx4_1, ksx3_1, ksx2_1, ksx1_1, kat_1, ko_1, kfin_1, kfin_2, klc2_1, klc_1, kC4_1, kC3_1, kC2_1, kC2_2, kC1_1, ksum_1, kst2_1, kst_1, kst_2, kRev_1, kRev_2, krg_1, krg2_1, krg1_1, kav_1, kav_2, krc_1, runFn_a, out_n, out_s, ini_a, iniL_n, iniL_0, iniL_e, sSeq_a, sSet_a, sPar_a, dNil_a, dCons_a, setAll_n, setAll_c, sIf_a, sRet_a, sExpr_a, sNext_a, sBreak_a, sCont_a, mC_a, mVar_a, mMove_a, fz_a, m1_a, m2_a, tst_a, tNot_a, tAnd_a, tOr_a, tYes_a, mAnd_a, mOr_a, mIf_a, mChain_a, mCall_a, mCallL_a, lNil_a, lCons_a, lLend_a, res_e, res_v, res_s, slot_0, slot_s, put_a, peek_a, lstAt_a, get_v, get_o, get_b, aNil_a, aCons_a, aStar_a, mTup_a, mLst_a, mB_a, mIxS_a, mLenS_a, mIsi_a, pNone_a, pSome_a, mSl_a, sFor_a, forL_n, forL_c, whN_s, gN_a, gT_a, gsC_a, gsN_a, sAsg_a, iSeq_a, sApp_a, sSetIx_a, mLc_a, lcL_n, lcL_c, wipe_n, wipe_c, rest_n, rest_c, allVal_n, allVal_c, mRev_a, mLRg_a, mLRg2_a, lt_int, le_int, gt_int, ge_int, sub_int, add_int, mod_int, fdiv_int, pow_int', mul_ok, eq_int, ne_int, neg_int, not_bl, abs_int, int_int, int_bl, max_2, min_2, max_3, min_3, len_l, len_t, len_s, lenB_l, lenB_t, lenB_s, ix_l, ix_t, ix_s, ixV_a, at_a, tuple_l, tuple_t, list_l, list_t, sum_l, all_l, any_l, isi_int, isi_bool, isi_tup, ix_fr0, ix_fr1, mul_l, cat_l, cat_t, sl_l, sl_t, sl_s, line, L2.ixN, h]
theorem is_size_ok (i : Int) (h1 : -10000000000000000000000000000000000000000 < i) (h2 : i < 10000000000000000000000000000000000000000) : c_is_size [.int i] = ok (.bl true) := by
  simp [c_is_size, cb_is_size, kSeq_1, kSeq_2, kSeq_3, kSeq_4, kSet_1, kNx_1, kPar_1, kd2_1, kd1_1, kIf_1, kIf_2, kRt_1, kEx_1, kVar_1, kVar_2, kMov_1, kMov_2, kfz_1, kfz_2, kc_1, k1_1, k2b_1, k2a_1, kt_1, kn_1, kAnd_1, kAnd_2, kOr_1, kOr_2, kmA_1, kmA_2, kmO_1, kmO_2, kmI_1, kmI_2, kh4_1, kh3_1, kh3_2, kh2_1, kh1_1, kcb_1, kca_1, kL5_1, kL4_1, kL3_1, kL2_1, kL1_1, kl2_1, kl1_1, kl3_1, kr_1, krs_1, krs_2, kput_1, kput_2, kpk_1, klst_1, klst_2, kbor_1, ka2_1, ka1_1, ktup_1, kls_1, kB_1, kx3_1, kx2_1, kx1_1, kx4_1, kis2_1, kis_1, kp_1, ks3_1, ks2_1, ks1_1, kF_1, kF2_1, kF2_2, kF2_3, kF2_4, kF1_1, kW2_1, kW2_2, kW2_3, kW2_4, kW_1, kW_2, kg_1, ksa_1, ki_1, ki_2, ki_3, kap2_1, kap_1, ksx4_1, ksx3_1, ksx2_1, ksx1_1, kat_1, ko_1, kfin_1, kfin_2, klc2_1, klc_1, kC4_1, kC3_1, kC2_1, kC2_2, kC1_1, ksum_1, kst2_1, kst_1, kst_2, kRev_1, kRev_2, krg_1, krg2_1, krg1_1, kav_1, kav_2, krc_1, runFn_a, out_n, out_s, ini_a, iniL_n, iniL_0, iniL_e, sSeq_a, sSet_a, sPar_a, dNil_a, dCons_a, setAll_n, setAll_c, sIf_a, sRet_a, sExpr_a, sNext_a, sBreak_a, sCont_a, mC_a, mVar_a, mMove_a, fz_a, m1_a, m2_a, tst_a, tNot_a, tAnd_a, tOr_a, tYes_a, mAnd_a, mOr_a, mIf_a, mChain_a, mCall_a, mCallL_a, lNil_a, lCons_a, lLend_a, res_e, res_v, res_s, slot_0, slot_s, put_a, peek_a, lstAt_a, get_v, get_o, get_b, aNil_a, aCons_a, aStar_a, mTup_a, mLst_a, mB_a, mIxS_a, mLenS_a, mIsi_a, pNone_a, pSome_a, mSl_a, sFor_a, forL_n, forL_c, whN_s, gN_a, gT_a, gsC_a, gsN_a, sAsg_a, iSeq_a, sApp_a, sSetIx_a, mLc_a, lcL_n, lcL_c, wipe_n, wipe_c, rest_n, rest_c, allVal_n, allVal_c, mRev_a, mLRg_a, mLRg2_a, lt_int, le_int, gt_int, ge_int, sub_int, add_int, mod_int, fdiv_int, pow_int', mul_ok, eq_int, ne_int, neg_int, not_bl, abs_int, int_int, int_bl, max_2, min_2, max_3, min_3, len_l, len_t, len_s, lenB_l, lenB_t, lenB_s, ix_l, ix_t, ix_s, ixV_a, at_a, tuple_l, tuple_t, list_l, list_t, sum_l, all_l, any_l, isi_int, isi_bool, isi_tup, ix_fr0, ix_fr1, mul_l, cat_l, cat_t, sl_l, sl_t, sl_s, line, L2.ixN, is_whole_ok, h1, h2]
/-- a fraction whose parts may be told -/
def Fz (q : Rat) : Prop := -10000000000000000000000000000000000000000 < q.num ∧ q.num < 10000000000000000000000000000000000000000 ∧ (q.den : Int) < 10000000000000000000000000000000000000000
theorem boolsOf_nil : boolsOf [] = some [] := rfl
theorem boolsOf_cons {b : Bool} {ds : List D} : boolsOf (.bl b :: ds) = (boolsOf ds).map (b :: ·) := rfl
theorem is_fraction_ok {q : Rat} (h : Fz q) : c_is_fraction [fr q] = ok (.bl true) := by
  obtain ⟨h1, h2, h3⟩ := h
  have hd : -10000000000000000000000000000000000000000 < (q.den : Int) := by omega
  have hp : (0 : Int) < q.den := by have := q.den_pos; omega
  have hg : Int.gcd q.num q.den = 1 := by have := q.reduced; simpa [Int.gcd, Nat.Coprime] using this
  unfold fr
  simp [c_is_fraction, cb_is_fraction, kSeq_1, kSeq_2, kSeq_3, kSeq_4, kSet_1, kNx_1, kPar_1, kd2_1, kd1_1, kIf_1, kIf_2, kRt_1, kEx_1, kVar_1, kVar_2, kMov_1, kMov_2, kfz_1, kfz_2, kc_1, k1_1, k2b_1, k2a_1, kt_1, kn_1, kAnd_1, kAnd_2, kOr_1, kOr_2, kmA_1, kmA_2, kmO_1, kmO_2, kmI_1, kmI_2, kh4_1, kh3_1, kh3_2, kh2_1, kh1_1, kcb_1, kca_1, kL5_1, kL4_1, kL3_1, kL2_1, kL1_1, kl2_1, kl1_1, kl3_1, kr_1, krs_1, krs_2, kput_1, kput_2, kpk_1, klst_1, klst_2, kbor_1, ka2_1, ka1_1, ktup_1, kls_1, kB_1, kx3_1, kx2_1, kx1_1, kx4_1, kis2_1, kis_1, kp_1, ks3_1, ks2_1, ks1_1, kF_1, kF2_1, kF2_2, kF2_3, kF2_4, kF1_1, kW2_1, kW2_2, kW2_3, kW2_4, kW_1, kW_2, kg_1, ksa_1, ki_1, ki_2, ki_3, kap2_1, kap_1, ksx4_1, ksx3_1, ksx2_1, ksx1_1, kat_1, ko_1, kfin_1, kfin_2, klc2_1, klc_1, kC4_1, kC3_1, kC2_1, kC2_2, kC1_1, ksum_1, kst2_1, kst_1, kst_2, kRev_1, kRev_2, krg_1, krg2_1, krg1_1, kav_1, kav_2, krc_1, runFn_a, out_n, out_s, ini_a, iniL_n, iniL_0, iniL_e, sSeq_a, sSet_a, sPar_a, dNil_a, dCons_a, setAll_n, setAll_c, sIf_a, sRet_a, sExpr_a, sNext_a, sBreak_a, sCont_a, mC_a, mVar_a, mMove_a, fz_a, m1_a, m2_a, tst_a, tNot_a, tAnd_a, tOr_a, tYes_a, mAnd_a, mOr_a, mIf_a, mChain_a, mCall_a, mCallL_a, lNil_a, lCons_a, lLend_a, res_e, res_v, res_s, slot_0, slot_s, put_a, peek_a, lstAt_a, get_v, get_o, get_b, aNil_a, aCons_a, aStar_a, mTup_a, mLst_a, mB_a, mIxS_a, mLenS_a, mIsi_a, pNone_a, pSome_a, mSl_a, sFor_a, forL_n, forL_c, whN_s, gN_a, gT_a, gsC_a, gsN_a, sAsg_a, iSeq_a, sApp_a, sSetIx_a, mLc_a, lcL_n, lcL_c, wipe_n, wipe_c, rest_n, rest_c, allVal_n, allVal_c, mRev_a, mLRg_a, mLRg2_a, lt_int, le_int, gt_int, ge_int, sub_int, add_int, mod_int, fdiv_int, pow_int', mul_ok, eq_int, ne_int, neg_int, not_bl, abs_int, int_int, int_bl, max_2, min_2, max_3, min_3, len_l, len_t, len_s, lenB_l, lenB_t, lenB_s, ix_l, ix_t, ix_s, ixV_a, at_a, tuple_l, tuple_t, list_l, list_t, sum_l, all_l, any_l, isi_int, isi_bool, isi_tup, ix_fr0, ix_fr1, mul_l, cat_l, cat_t, sl_l, sl_t, sl_s, line, L2.ixN, is_tuple_ok, is_size_ok _ h1 h2, is_size_ok _ hd h3, boolsOf_nil, boolsOf_cons, common_of_ok, q.den_pos, hg]
theorem is_share_ok {q : Rat} (h : Fz q) (h0 : 0 ≤ q.num) (h1 : q.num ≤ q.den) : c_is_share [fr q] = ok (.bl true) := by
  simp [c_is_share, cb_is_share, kSeq_1, kSeq_2, kSeq_3, kSeq_4, kSet_1, kNx_1, kPar_1, kd2_1, kd1_1, kIf_1, kIf_2, kRt_1, kEx_1, kVar_1, kVar_2, kMov_1, kMov_2, kfz_1, kfz_2, kc_1, k1_1, k2b_1, k2a_1, kt_1, kn_1, kAnd_1, kAnd_2, kOr_1, kOr_2, kmA_1, kmA_2, kmO_1, kmO_2, kmI_1, kmI_2, kh4_1, kh3_1, kh3_2, kh2_1, kh1_1, kcb_1, kca_1, kL5_1, kL4_1, kL3_1, kL2_1, kL1_1, kl2_1, kl1_1, kl3_1, kr_1, krs_1, krs_2, kput_1, kput_2, kpk_1, klst_1, klst_2, kbor_1, ka2_1, ka1_1, ktup_1, kls_1, kB_1, kx3_1, kx2_1, kx1_1, kx4_1, kis2_1, kis_1, kp_1, ks3_1, ks2_1, ks1_1, kF_1, kF2_1, kF2_2, kF2_3, kF2_4, kF1_1, kW2_1, kW2_2, kW2_3, kW2_4, kW_1, kW_2, kg_1, ksa_1, ki_1, ki_2, ki_3, kap2_1, kap_1, ksx4_1, ksx3_1, ksx2_1, ksx1_1, kat_1, ko_1, kfin_1, kfin_2, klc2_1, klc_1, kC4_1, kC3_1, kC2_1, kC2_2, kC1_1, ksum_1, kst2_1, kst_1, kst_2, kRev_1, kRev_2, krg_1, krg2_1, krg1_1, kav_1, kav_2, krc_1, runFn_a, out_n, out_s, ini_a, iniL_n, iniL_0, iniL_e, sSeq_a, sSet_a, sPar_a, dNil_a, dCons_a, setAll_n, setAll_c, sIf_a, sRet_a, sExpr_a, sNext_a, sBreak_a, sCont_a, mC_a, mVar_a, mMove_a, fz_a, m1_a, m2_a, tst_a, tNot_a, tAnd_a, tOr_a, tYes_a, mAnd_a, mOr_a, mIf_a, mChain_a, mCall_a, mCallL_a, lNil_a, lCons_a, lLend_a, res_e, res_v, res_s, slot_0, slot_s, put_a, peek_a, lstAt_a, get_v, get_o, get_b, aNil_a, aCons_a, aStar_a, mTup_a, mLst_a, mB_a, mIxS_a, mLenS_a, mIsi_a, pNone_a, pSome_a, mSl_a, sFor_a, forL_n, forL_c, whN_s, gN_a, gT_a, gsC_a, gsN_a, sAsg_a, iSeq_a, sApp_a, sSetIx_a, mLc_a, lcL_n, lcL_c, wipe_n, wipe_c, rest_n, rest_c, allVal_n, allVal_c, mRev_a, mLRg_a, mLRg2_a, lt_int, le_int, gt_int, ge_int, sub_int, add_int, mod_int, fdiv_int, pow_int', mul_ok, eq_int, ne_int, neg_int, not_bl, abs_int, int_int, int_bl, max_2, min_2, max_3, min_3, len_l, len_t, len_s, lenB_l, lenB_t, lenB_s, ix_l, ix_t, ix_s, ixV_a, at_a, tuple_l, tuple_t, list_l, list_t, sum_l, all_l, any_l, isi_int, isi_bool, isi_tup, ix_fr0, ix_fr1, mul_l, cat_l, cat_t, sl_l, sl_t, sl_s, line, L2.ixN, is_fraction_ok h, h0, h1]
end
end Cb

set_option Elab.async false
set_option linter.all false
set_option maxRecDepth 100000
/-! The drawing functions of the laws, their fractions. -/
namespace Cb
open PySem L2
noncomputable section
theorem law_gcd_loop : ∀ (n : Nat) (a b x : Int) (L : List D) (o : Option DV), eu n a b = some x → n ≤ L.length → ∃ b' o',
    forL (gN 2) (sSeq (sIf (tst (m2 dEq (mVar 1) (mC (.int 0)))) sBreak sNext) (sPar [0, 1] (dCons (mVar 1) (dCons (m2 dMod (mVar 0) (mVar 1)) dNil)))) L [some (.val (.int a)), some (.val (.int b)), o] = some (.nx [some (.val (.int x)), some (.val (.int b')), o'])
  | 0, _, _, _, _, _, h, _ => by cases h
  | n + 1, a, b, x, [], o, h, hl => by simp at hl
  | n + 1, a, b, x, d :: L, o, h, hl => by
    by_cases h0 : b = 0
    · subst h0
      simp only [eu, if_true, Option.some.injEq] at h
      subst h
      exact ⟨0, some (.val d), by simp [kSeq_1, kSeq_2, kSeq_3, kSeq_4, kSet_1, kNx_1, kPar_1, kd2_1, kd1_1, kIf_1, kIf_2, kRt_1, kEx_1, kVar_1, kVar_2, kMov_1, kMov_2, kfz_1, kfz_2, kc_1, k1_1, k2b_1, k2a_1, kt_1, kn_1, kAnd_1, kAnd_2, kOr_1, kOr_2, kmA_1, kmA_2, kmO_1, kmO_2, kmI_1, kmI_2, kh4_1, kh3_1, kh3_2, kh2_1, kh1_1, kcb_1, kca_1, kL5_1, kL4_1, kL3_1, kL2_1, kL1_1, kl2_1, kl1_1, kl3_1, kr_1, krs_1, krs_2, kput_1, kput_2, kpk_1, klst_1, klst_2, kbor_1, ka2_1, ka1_1, ktup_1, kls_1, kB_1, kx3_1, kx2_1, kx1_1, kx4_1, kis2_1, kis_1, kp_1, ks3_1, ks2_1, ks1_1, kF_1, kF2_1, kF2_2, kF2_3, kF2_4, kF1_1, kW2_1, kW2_2, kW2_3, kW2_4, kW_1, kW_2, kg_1, ksa_1, ki_1, ki_2, ki_3, kap2_1, kap_1, ksx4_1, ksx3_1, ksx2_1, ksx1_1, kat_1, ko_1, kfin_1, kfin_2, klc2_1, klc_1, kC4_1, kC3_1, kC2_1, kC2_2, kC1_1, ksum_1, kst2_1, kst_1, kst_2, kRev_1, kRev_2, krg_1, krg2_1, krg1_1, kav_1, kav_2, krc_1, runFn_a, out_n, out_s, ini_a, iniL_n, iniL_0, iniL_e, sSeq_a, sSet_a, sPar_a, dNil_a, dCons_a, setAll_n, setAll_c, sIf_a, sRet_a, sExpr_a, sNext_a, sBreak_a, sCont_a, mC_a, mVar_a, mMove_a, fz_a, m1_a, m2_a, tst_a, tNot_a, tAnd_a, tOr_a, tYes_a, mAnd_a, mOr_a, mIf_a, mChain_a, mCall_a, mCallL_a, lNil_a, lCons_a, lLend_a, res_e, res_v, res_s, slot_0, slot_s, put_a, peek_a, lstAt_a, get_v, get_o, get_b, aNil_a, aCons_a, aStar_a, mTup_a, mLst_a, mB_a, mIxS_a, mLenS_a, mIsi_a, pNone_a, pSome_a, mSl_a, sFor_a, forL_n, forL_c, whN_s, gN_a, gT_a, gsC_a, gsN_a, sAsg_a, iSeq_a, sApp_a, sSetIx_a, mLc_a, lcL_n, lcL_c, wipe_n, wipe_c, rest_n, rest_c, allVal_n, allVal_c, mRev_a, mLRg_a, mLRg2_a, lt_int, le_int, gt_int, ge_int, sub_int, add_int, mod_int, fdiv_int, pow_int', mul_ok, eq_int, ne_int, neg_int, not_bl, abs_int, int_int, int_bl, max_2, min_2, max_3, min_3, len_l, len_t, len_s, lenB_l, lenB_t, lenB_s, ix_l, ix_t, ix_s, ixV_a, at_a, tuple_l, tuple_t, list_l, list_t, sum_l, all_l, any_l, isi_int, isi_bool, isi_tup, ix_fr0, ix_fr1, mul_l, cat_l, cat_t, sl_l, sl_t, sl_s, line, L2.ixN]⟩
    · obtain ⟨b', o', ih⟩ := law_gcd_loop n b (a.fmod b) x L (some (.val d)) (by simpa [eu, h0] using h) (by simpa using hl)
      exact ⟨b', o', by simp [kSeq_1, kSeq_2, kSeq_3, kSeq_4, kSet_1, kNx_1, kPar_1, kd2_1, kd1_1, kIf_1, kIf_2, kRt_1, kEx_1, kVar_1, kVar_2, kMov_1, kMov_2, kfz_1, kfz_2, kc_1, k1_1, k2b_1, k2a_1, kt_1, kn_1, kAnd_1, kAnd_2, kOr_1, kOr_2, kmA_1, kmA_2, kmO_1, kmO_2, kmI_1, kmI_2, kh4_1, kh3_1, kh3_2, kh2_1, kh1_1, kcb_1, kca_1, kL5_1, kL4_1, kL3_1, kL2_1, kL1_1, kl2_1, kl1_1, kl3_1, kr_1, krs_1, krs_2, kput_1, kput_2, kpk_1, klst_1, klst_2, kbor_1, ka2_1, ka1_1, ktup_1, kls_1, kB_1, kx3_1, kx2_1, kx1_1, kx4_1, kis2_1, kis_1, kp_1, ks3_1, ks2_1, ks1_1, kF_1, kF2_1, kF2_2, kF2_3, kF2_4, kF1_1, kW2_1, kW2_2, kW2_3, kW2_4, kW_1, kW_2, kg_1, ksa_1, ki_1, ki_2, ki_3, kap2_1, kap_1, ksx4_1, ksx3_1, ksx2_1, ksx1_1, kat_1, ko_1, kfin_1, kfin_2, klc2_1, klc_1, kC4_1, kC3_1, kC2_1, kC2_2, kC1_1, ksum_1, kst2_1, kst_1, kst_2, kRev_1, kRev_2, krg_1, krg2_1, krg1_1, kav_1, kav_2, krc_1, runFn_a, out_n, out_s, ini_a, iniL_n, iniL_0, iniL_e, sSeq_a, sSet_a, sPar_a, dNil_a, dCons_a, setAll_n, setAll_c, sIf_a, sRet_a, sExpr_a, sNext_a, sBreak_a, sCont_a, mC_a, mVar_a, mMove_a, fz_a, m1_a, m2_a, tst_a, tNot_a, tAnd_a, tOr_a, tYes_a, mAnd_a, mOr_a, mIf_a, mChain_a, mCall_a, mCallL_a, lNil_a, lCons_a, lLend_a, res_e, res_v, res_s, slot_0, slot_s, put_a, peek_a, lstAt_a, get_v, get_o, get_b, aNil_a, aCons_a, aStar_a, mTup_a, mLst_a, mB_a, mIxS_a, mLenS_a, mIsi_a, pNone_a, pSome_a, mSl_a, sFor_a, forL_n, forL_c, whN_s, gN_a, gT_a, gsC_a, gsN_a, sAsg_a, iSeq_a, sApp_a, sSetIx_a, mLc_a, lcL_n, lcL_c, wipe_n, wipe_c, rest_n, rest_c, allVal_n, allVal_c, mRev_a, mLRg_a, mLRg2_a, lt_int, le_int, gt_int, ge_int, sub_int, add_int, mod_int, fdiv_int, pow_int', mul_ok, eq_int, ne_int, neg_int, not_bl, abs_int, int_int, int_bl, max_2, min_2, max_3, min_3, len_l, len_t, len_s, lenB_l, lenB_t, lenB_s, ix_l, ix_t, ix_s, ixV_a, at_a, tuple_l, tuple_t, list_l, list_t, sum_l, all_l, any_l, isi_int, isi_bool, isi_tup, ix_fr0, ix_fr1, mul_l, cat_l, cat_t, sl_l, sl_t, sl_s, line, L2.ixN, h0, ih]⟩
theorem pow_10_6 : PowOk 10 6 := by decide
theorem law_gcd_ok (a b : Int) {n : Nat} (hs : Sz n b) (hn : n < 400000 := by decide) : c__law_gcd [.int a, .int b] = ok (.int (Int.gcd a b)) := by
  obtain ⟨x, h⟩ := eu_some n a b hs
  obtain ⟨b', o', hl⟩ := law_gcd_loop (2 * n + 1) a b x (rangeD 0 1000000) none h (by rw [rangeD_length]; omega)
  have hr := range_D 1000000 (by decide) [some (.val (.int a)), some (.val (.int b)), none] [some (.val (.int a)), some (.val (.int b)), none] (aCons (m2 dPow (mC (.int 10)) (mC (.int 6))) aNil) (by simp [kSeq_1, kSeq_2, kSeq_3, kSeq_4, kSet_1, kNx_1, kPar_1, kd2_1, kd1_1, kIf_1, kIf_2, kRt_1, kEx_1, kVar_1, kVar_2, kMov_1, kMov_2, kfz_1, kfz_2, kc_1, k1_1, k2b_1, k2a_1, kt_1, kn_1, kAnd_1, kAnd_2, kOr_1, kOr_2, kmA_1, kmA_2, kmO_1, kmO_2, kmI_1, kmI_2, kh4_1, kh3_1, kh3_2, kh2_1, kh1_1, kcb_1, kca_1, kL5_1, kL4_1, kL3_1, kL2_1, kL1_1, kl2_1, kl1_1, kl3_1, kr_1, krs_1, krs_2, kput_1, kput_2, kpk_1, klst_1, klst_2, kbor_1, ka2_1, ka1_1, ktup_1, kls_1, kB_1, kx3_1, kx2_1, kx1_1, kx4_1, kis2_1, kis_1, kp_1, ks3_1, ks2_1, ks1_1, kF_1, kF2_1, kF2_2, kF2_3, kF2_4, kF1_1, kW2_1, kW2_2, kW2_3, kW2_4, kW_1, kW_2, kg_1, ksa_1, ki_1, ki_2, ki_3, kap2_1, kap_1, ksx4_1, ksx3_1, ksx2_1, ksx1_1, kat_1, ko_1, kfin_1, kfin_2, klc2_1, klc_1, kC4_1, kC3_1, kC2_1, kC2_2, kC1_1, ksum_1, kst2_1, kst_1, kst_2, kRev_1, kRev_2, krg_1, krg2_1, krg1_1, kav_1, kav_2, krc_1, runFn_a, out_n, out_s, ini_a, iniL_n, iniL_0, iniL_e, sSeq_a, sSet_a, sPar_a, dNil_a, dCons_a, setAll_n, setAll_c, sIf_a, sRet_a, sExpr_a, sNext_a, sBreak_a, sCont_a, mC_a, mVar_a, mMove_a, fz_a, m1_a, m2_a, tst_a, tNot_a, tAnd_a, tOr_a, tYes_a, mAnd_a, mOr_a, mIf_a, mChain_a, mCall_a, mCallL_a, lNil_a, lCons_a, lLend_a, res_e, res_v, res_s, slot_0, slot_s, put_a, peek_a, lstAt_a, get_v, get_o, get_b, aNil_a, aCons_a, aStar_a, mTup_a, mLst_a, mB_a, mIxS_a, mLenS_a, mIsi_a, pNone_a, pSome_a, mSl_a, sFor_a, forL_n, forL_c, whN_s, gN_a, gT_a, gsC_a, gsN_a, sAsg_a, iSeq_a, sApp_a, sSetIx_a, mLc_a, lcL_n, lcL_c, wipe_n, wipe_c, rest_n, rest_c, allVal_n, allVal_c, mRev_a, mLRg_a, mLRg2_a, lt_int, le_int, gt_int, ge_int, sub_int, add_int, mod_int, fdiv_int, pow_int', mul_ok, eq_int, ne_int, neg_int, not_bl, abs_int, int_int, int_bl, max_2, min_2, max_3, min_3, len_l, len_t, len_s, lenB_l, lenB_t, lenB_s, ix_l, ix_t, ix_s, ixV_a, at_a, tuple_l, tuple_t, list_l, list_t, sum_l, all_l, any_l, isi_int, isi_bool, isi_tup, ix_fr0, ix_fr1, mul_l, cat_l, cat_t, sl_l, sl_t, sl_s, line, L2.ixN, pow_10_6])
  have g := eu_gcd h
  simp [c__law_gcd, cb__law_gcd, kSeq_1, kSeq_2, kSeq_3, kSeq_4, kSet_1, kNx_1, kPar_1, kd2_1, kd1_1, kIf_1, kIf_2, kRt_1, kEx_1, kVar_1, kVar_2, kMov_1, kMov_2, kfz_1, kfz_2, kc_1, k1_1, k2b_1, k2a_1, kt_1, kn_1, kAnd_1, kAnd_2, kOr_1, kOr_2, kmA_1, kmA_2, kmO_1, kmO_2, kmI_1, kmI_2, kh4_1, kh3_1, kh3_2, kh2_1, kh1_1, kcb_1, kca_1, kL5_1, kL4_1, kL3_1, kL2_1, kL1_1, kl2_1, kl1_1, kl3_1, kr_1, krs_1, krs_2, kput_1, kput_2, kpk_1, klst_1, klst_2, kbor_1, ka2_1, ka1_1, ktup_1, kls_1, kB_1, kx3_1, kx2_1, kx1_1, kx4_1, kis2_1, kis_1, kp_1, ks3_1, ks2_1, ks1_1, kF_1, kF2_1, kF2_2, kF2_3, kF2_4, kF1_1, kW2_1, kW2_2, kW2_3, kW2_4, kW_1, kW_2, kg_1, ksa_1, ki_1, ki_2, ki_3, kap2_1, kap_1, ksx4_1, ksx3_1, ksx2_1, ksx1_1, kat_1, ko_1, kfin_1, kfin_2, klc2_1, klc_1, kC4_1, kC3_1, kC2_1, kC2_2, kC1_1, ksum_1, kst2_1, kst_1, kst_2, kRev_1, kRev_2, krg_1, krg2_1, krg1_1, kav_1, kav_2, krc_1, runFn_a, out_n, out_s, ini_a, iniL_n, iniL_0, iniL_e, sSeq_a, sSet_a, sPar_a, dNil_a, dCons_a, setAll_n, setAll_c, sIf_a, sRet_a, sExpr_a, sNext_a, sBreak_a, sCont_a, mC_a, mVar_a, mMove_a, fz_a, m1_a, m2_a, tst_a, tNot_a, tAnd_a, tOr_a, tYes_a, mAnd_a, mOr_a, mIf_a, mChain_a, mCall_a, mCallL_a, lNil_a, lCons_a, lLend_a, res_e, res_v, res_s, slot_0, slot_s, put_a, peek_a, lstAt_a, get_v, get_o, get_b, aNil_a, aCons_a, aStar_a, mTup_a, mLst_a, mB_a, mIxS_a, mLenS_a, mIsi_a, pNone_a, pSome_a, mSl_a, sFor_a, forL_n, forL_c, whN_s, gN_a, gT_a, gsC_a, gsN_a, sAsg_a, iSeq_a, sApp_a, sSetIx_a, mLc_a, lcL_n, lcL_c, wipe_n, wipe_c, rest_n, rest_c, allVal_n, allVal_c, mRev_a, mLRg_a, mLRg2_a, lt_int, le_int, gt_int, ge_int, sub_int, add_int, mod_int, fdiv_int, pow_int', mul_ok, eq_int, ne_int, neg_int, not_bl, abs_int, int_int, int_bl, max_2, min_2, max_3, min_3, len_l, len_t, len_s, lenB_l, lenB_t, lenB_s, ix_l, ix_t, ix_s, ixV_a, at_a, tuple_l, tuple_t, list_l, list_t, sum_l, all_l, any_l, isi_int, isi_bool, isi_tup, ix_fr0, ix_fr1, mul_l, cat_l, cat_t, sl_l, sl_t, sl_s, line, L2.ixN, hr]
  rw [hl]
  simp [kSeq_1, kSeq_2, kSeq_3, kSeq_4, kSet_1, kNx_1, kPar_1, kd2_1, kd1_1, kIf_1, kIf_2, kRt_1, kEx_1, kVar_1, kVar_2, kMov_1, kMov_2, kfz_1, kfz_2, kc_1, k1_1, k2b_1, k2a_1, kt_1, kn_1, kAnd_1, kAnd_2, kOr_1, kOr_2, kmA_1, kmA_2, kmO_1, kmO_2, kmI_1, kmI_2, kh4_1, kh3_1, kh3_2, kh2_1, kh1_1, kcb_1, kca_1, kL5_1, kL4_1, kL3_1, kL2_1, kL1_1, kl2_1, kl1_1, kl3_1, kr_1, krs_1, krs_2, kput_1, kput_2, kpk_1, klst_1, klst_2, kbor_1, ka2_1, ka1_1, ktup_1, kls_1, kB_1, kx3_1, kx2_1, kx1_1, kx4_1, kis2_1, kis_1, kp_1, ks3_1, ks2_1, ks1_1, kF_1, kF2_1, kF2_2, kF2_3, kF2_4, kF1_1, kW2_1, kW2_2, kW2_3, kW2_4, kW_1, kW_2, kg_1, ksa_1, ki_1, ki_2, ki_3, kap2_1, kap_1, ksx4_1, ksx3_1, ksx2_1, ksx1_1, kat_1, ko_1, kfin_1, kfin_2, klc2_1, klc_1, kC4_1, kC3_1, kC2_1, kC2_2, kC1_1, ksum_1, kst2_1, kst_1, kst_2, kRev_1, kRev_2, krg_1, krg2_1, krg1_1, kav_1, kav_2, krc_1, runFn_a, out_n, out_s, ini_a, iniL_n, iniL_0, iniL_e, sSeq_a, sSet_a, sPar_a, dNil_a, dCons_a, setAll_n, setAll_c, sIf_a, sRet_a, sExpr_a, sNext_a, sBreak_a, sCont_a, mC_a, mVar_a, mMove_a, fz_a, m1_a, m2_a, tst_a, tNot_a, tAnd_a, tOr_a, tYes_a, mAnd_a, mOr_a, mIf_a, mChain_a, mCall_a, mCallL_a, lNil_a, lCons_a, lLend_a, res_e, res_v, res_s, slot_0, slot_s, put_a, peek_a, lstAt_a, get_v, get_o, get_b, aNil_a, aCons_a, aStar_a, mTup_a, mLst_a, mB_a, mIxS_a, mLenS_a, mIsi_a, pNone_a, pSome_a, mSl_a, sFor_a, forL_n, forL_c, whN_s, gN_a, gT_a, gsC_a, gsN_a, sAsg_a, iSeq_a, sApp_a, sSetIx_a, mLc_a, lcL_n, lcL_c, wipe_n, wipe_c, rest_n, rest_c, allVal_n, allVal_c, mRev_a, mLRg_a, mLRg2_a, lt_int, le_int, gt_int, ge_int, sub_int, add_int, mod_int, fdiv_int, pow_int', mul_ok, eq_int, ne_int, neg_int, not_bl, abs_int, int_int, int_bl, max_2, min_2, max_3, min_3, len_l, len_t, len_s, lenB_l, lenB_t, lenB_s, ix_l, ix_t, ix_s, ixV_a, at_a, tuple_l, tuple_t, list_l, list_t, sum_l, all_l, any_l, isi_int, isi_bool, isi_tup, ix_fr0, ix_fr1, mul_l, cat_l, cat_t, sl_l, sl_t, sl_s, line, L2.ixN, g]
theorem sz_one : Sz 2 1 := by decide
theorem sz_mone : Sz 2 (-1) := by decide
theorem law_ratio_ok {a b : Int} (hb : b ≠ 0) {n : Nat} (hs : Sz n b) (hn : n < 9000 := by decide) : c__law_ratio [.int a, .int b] = ok (fr ((a : Rat) / b)) := by
  have hg := hs.of_le (gcd_le (a := a) hb)
  have d1 : DivOk (Int.gcd a b) := hg.divOk (gcd_ne hb) hn
  have d2 : DivOk (-(Int.gcd a b : Int)) := hg.neg.divOk (by have := gcd_ne (a := a) hb; omega) hn
  have m1 : MulOk (Int.gcd a b) 1 := hg.mulOk sz_one (by omega)
  have m2 : MulOk (Int.gcd a b) (-1) := hg.mulOk sz_mone (by omega)
  have hk := law_gcd_ok a b hs (by omega)
  by_cases h : 0 < b
  · obtain ⟨e1, e2⟩ := ratio_pos (a := a) h
    simp [c__law_ratio, cb__law_ratio, kSeq_1, kSeq_2, kSeq_3, kSeq_4, kSet_1, kNx_1, kPar_1, kd2_1, kd1_1, kIf_1, kIf_2, kRt_1, kEx_1, kVar_1, kVar_2, kMov_1, kMov_2, kfz_1, kfz_2, kc_1, k1_1, k2b_1, k2a_1, kt_1, kn_1, kAnd_1, kAnd_2, kOr_1, kOr_2, kmA_1, kmA_2, kmO_1, kmO_2, kmI_1, kmI_2, kh4_1, kh3_1, kh3_2, kh2_1, kh1_1, kcb_1, kca_1, kL5_1, kL4_1, kL3_1, kL2_1, kL1_1, kl2_1, kl1_1, kl3_1, kr_1, krs_1, krs_2, kput_1, kput_2, kpk_1, klst_1, klst_2, kbor_1, ka2_1, ka1_1, ktup_1, kls_1, kB_1, kx3_1, kx2_1, kx1_1, kx4_1, kis2_1, kis_1, kp_1, ks3_1, ks2_1, ks1_1, kF_1, kF2_1, kF2_2, kF2_3, kF2_4, kF1_1, kW2_1, kW2_2, kW2_3, kW2_4, kW_1, kW_2, kg_1, ksa_1, ki_1, ki_2, ki_3, kap2_1, kap_1, ksx4_1, ksx3_1, ksx2_1, ksx1_1, kat_1, ko_1, kfin_1, kfin_2, klc2_1, klc_1, kC4_1, kC3_1, kC2_1, kC2_2, kC1_1, ksum_1, kst2_1, kst_1, kst_2, kRev_1, kRev_2, krg_1, krg2_1, krg1_1, kav_1, kav_2, krc_1, runFn_a, out_n, out_s, ini_a, iniL_n, iniL_0, iniL_e, sSeq_a, sSet_a, sPar_a, dNil_a, dCons_a, setAll_n, setAll_c, sIf_a, sRet_a, sExpr_a, sNext_a, sBreak_a, sCont_a, mC_a, mVar_a, mMove_a, fz_a, m1_a, m2_a, tst_a, tNot_a, tAnd_a, tOr_a, tYes_a, mAnd_a, mOr_a, mIf_a, mChain_a, mCall_a, mCallL_a, lNil_a, lCons_a, lLend_a, res_e, res_v, res_s, slot_0, slot_s, put_a, peek_a, lstAt_a, get_v, get_o, get_b, aNil_a, aCons_a, aStar_a, mTup_a, mLst_a, mB_a, mIxS_a, mLenS_a, mIsi_a, pNone_a, pSome_a, mSl_a, sFor_a, forL_n, forL_c, whN_s, gN_a, gT_a, gsC_a, gsN_a, sAsg_a, iSeq_a, sApp_a, sSetIx_a, mLc_a, lcL_n, lcL_c, wipe_n, wipe_c, rest_n, rest_c, allVal_n, allVal_c, mRev_a, mLRg_a, mLRg2_a, lt_int, le_int, gt_int, ge_int, sub_int, add_int, mod_int, fdiv_int, pow_int', mul_ok, eq_int, ne_int, neg_int, not_bl, abs_int, int_int, int_bl, max_2, min_2, max_3, min_3, len_l, len_t, len_s, lenB_l, lenB_t, lenB_s, ix_l, ix_t, ix_s, ixV_a, at_a, tuple_l, tuple_t, list_l, list_t, sum_l, all_l, any_l, isi_int, isi_bool, isi_tup, ix_fr0, ix_fr1, mul_l, cat_l, cat_t, sl_l, sl_t, sl_s, line, L2.ixN, hk, h, d1, m1, e1, e2, fr]
  · obtain ⟨e1, e2⟩ := ratio_neg (a := a) (b := b) (by omega)
    simp [c__law_ratio, cb__law_ratio, kSeq_1, kSeq_2, kSeq_3, kSeq_4, kSet_1, kNx_1, kPar_1, kd2_1, kd1_1, kIf_1, kIf_2, kRt_1, kEx_1, kVar_1, kVar_2, kMov_1, kMov_2, kfz_1, kfz_2, kc_1, k1_1, k2b_1, k2a_1, kt_1, kn_1, kAnd_1, kAnd_2, kOr_1, kOr_2, kmA_1, kmA_2, kmO_1, kmO_2, kmI_1, kmI_2, kh4_1, kh3_1, kh3_2, kh2_1, kh1_1, kcb_1, kca_1, kL5_1, kL4_1, kL3_1, kL2_1, kL1_1, kl2_1, kl1_1, kl3_1, kr_1, krs_1, krs_2, kput_1, kput_2, kpk_1, klst_1, klst_2, kbor_1, ka2_1, ka1_1, ktup_1, kls_1, kB_1, kx3_1, kx2_1, kx1_1, kx4_1, kis2_1, kis_1, kp_1, ks3_1, ks2_1, ks1_1, kF_1, kF2_1, kF2_2, kF2_3, kF2_4, kF1_1, kW2_1, kW2_2, kW2_3, kW2_4, kW_1, kW_2, kg_1, ksa_1, ki_1, ki_2, ki_3, kap2_1, kap_1, ksx4_1, ksx3_1, ksx2_1, ksx1_1, kat_1, ko_1, kfin_1, kfin_2, klc2_1, klc_1, kC4_1, kC3_1, kC2_1, kC2_2, kC1_1, ksum_1, kst2_1, kst_1, kst_2, kRev_1, kRev_2, krg_1, krg2_1, krg1_1, kav_1, kav_2, krc_1, runFn_a, out_n, out_s, ini_a, iniL_n, iniL_0, iniL_e, sSeq_a, sSet_a, sPar_a, dNil_a, dCons_a, setAll_n, setAll_c, sIf_a, sRet_a, sExpr_a, sNext_a, sBreak_a, sCont_a, mC_a, mVar_a, mMove_a, fz_a, m1_a, m2_a, tst_a, tNot_a, tAnd_a, tOr_a, tYes_a, mAnd_a, mOr_a, mIf_a, mChain_a, mCall_a, mCallL_a, lNil_a, lCons_a, lLend_a, res_e, res_v, res_s, slot_0, slot_s, put_a, peek_a, lstAt_a, get_v, get_o, get_b, aNil_a, aCons_a, aStar_a, mTup_a, mLst_a, mB_a, mIxS_a, mLenS_a, mIsi_a, pNone_a, pSome_a, mSl_a, sFor_a, forL_n, forL_c, whN_s, gN_a, gT_a, gsC_a, gsN_a, sAsg_a, iSeq_a, sApp_a, sSetIx_a, mLc_a, lcL_n, lcL_c, wipe_n, wipe_c, rest_n, rest_c, allVal_n, allVal_c, mRev_a, mLRg_a, mLRg2_a, lt_int, le_int, gt_int, ge_int, sub_int, add_int, mod_int, fdiv_int, pow_int', mul_ok, eq_int, ne_int, neg_int, not_bl, abs_int, int_int, int_bl, max_2, min_2, max_3, min_3, len_l, len_t, len_s, lenB_l, lenB_t, lenB_s, ix_l, ix_t, ix_s, ixV_a, at_a, tuple_l, tuple_t, list_l, list_t, sum_l, all_l, any_l, isi_int, isi_bool, isi_tup, ix_fr0, ix_fr1, mul_l, cat_l, cat_t, sl_l, sl_t, sl_s, line, L2.ixN, hk, h, d2, m2, e1, e2, fr]
/-- a fraction so small -/
def Fs (n : Nat) (q : Rat) : Prop := Sz n q.num ∧ Sz n q.den
theorem fs_ratio {a b : Int} {n : Nat} (ha : Sz n a) (hb : Sz n b) (h0 : b ≠ 0) : Fs n ((a : Rat) / b) := by
  rw [← Rat.divInt_eq_div]
  constructor
  · rw [Rat.num_divInt]
    refine ha.of_le ?_
    have h1 : (b.sign * a / (b.gcd a : Int)).natAbs ≤ (b.sign * a).natAbs := by
      rw [← Int.fdiv_eq_ediv_of_nonneg _ (by omega)]
      exact Int.natAbs_fdiv_le_natAbs _ _
    rw [Int.natAbs_mul, Int.natAbs_sign_of_ne_zero h0, Nat.one_mul] at h1
    exact h1
  · rw [Rat.den_divInt, if_neg h0]
    exact hb.of_le (by rw [Int.natAbs_natCast]; exact Nat.div_le_self _ _)
theorem Fs.mono {n m : Nat} {q : Rat} (h : Fs n q) (k : n ≤ m) : Fs m q := ⟨h.1.mono k, h.2.mono k⟩
theorem Fs.fz {n : Nat} {q : Rat} (h : Fs n q) (k : n ≤ 132) : Fz q := by
  obtain ⟨h1, h2⟩ := h.mono k
  unfold Sz at h1 h2
  have : (2 : Nat) ^ 132 = 5444517870735015415413993718908291383296 := by decide
  rw [this] at h1 h2
  unfold Fz
  refine ⟨?_, ?_, ?_⟩ <;> omega
theorem rat_add (p q : Rat) : ((p.num * q.den + q.num * p.den : Int) : Rat) / ((p.den * q.den : Int) : Rat) = p + q := by
  rw [← Rat.divInt_eq_div, Rat.add_def', ← Int.natCast_mul, Rat.divInt_ofNat]
theorem rat_sub (p q : Rat) : ((p.num * q.den - q.num * p.den : Int) : Rat) / ((p.den * q.den : Int) : Rat) = p - q := by
  rw [← Rat.divInt_eq_div, Rat.sub_def', ← Int.natCast_mul, Rat.divInt_ofNat]
theorem rat_mul (p q : Rat) : ((p.num * q.num : Int) : Rat) / ((p.den * q.den : Int) : Rat) = p * q := by
  rw [← Rat.divInt_eq_div, Rat.mul_def', ← Int.natCast_mul, Rat.divInt_ofNat]
theorem den_ne (q : Rat) : (q.den : Int) ≠ 0 := by have := q.den_pos; omega
theorem den_ne2 (p q : Rat) : (p.den : Int) * (q.den : Int) ≠ 0 := Int.mul_ne_zero (den_ne p) (den_ne q)
theorem law_plus_ok {p q : Rat} {n m : Nat} (hp : Fs n p) (hq : Fs m q) (hn : n + m < 9000 := by decide) : c__law_plus [fr p, fr q] = ok (fr (p + q)) := by
  have m1 : MulOk p.num q.den := hp.1.mulOk hq.2 (by omega)
  have m2 : MulOk q.num p.den := hq.1.mulOk hp.2 (by omega)
  have m3 : MulOk p.den q.den := hp.2.mulOk hq.2 (by omega)
  have hr := law_ratio_ok (a := p.num * q.den + q.num * p.den) (den_ne2 p q) (hp.2.mul hq.2) hn
  rw [rat_add] at hr
  simp [c__law_plus, cb__law_plus, kSeq_1, kSeq_2, kSeq_3, kSeq_4, kSet_1, kNx_1, kPar_1, kd2_1, kd1_1, kIf_1, kIf_2, kRt_1, kEx_1, kVar_1, kVar_2, kMov_1, kMov_2, kfz_1, kfz_2, kc_1, k1_1, k2b_1, k2a_1, kt_1, kn_1, kAnd_1, kAnd_2, kOr_1, kOr_2, kmA_1, kmA_2, kmO_1, kmO_2, kmI_1, kmI_2, kh4_1, kh3_1, kh3_2, kh2_1, kh1_1, kcb_1, kca_1, kL5_1, kL4_1, kL3_1, kL2_1, kL1_1, kl2_1, kl1_1, kl3_1, kr_1, krs_1, krs_2, kput_1, kput_2, kpk_1, klst_1, klst_2, kbor_1, ka2_1, ka1_1, ktup_1, kls_1, kB_1, kx3_1, kx2_1, kx1_1, kx4_1, kis2_1, kis_1, kp_1, ks3_1, ks2_1, ks1_1, kF_1, kF2_1, kF2_2, kF2_3, kF2_4, kF1_1, kW2_1, kW2_2, kW2_3, kW2_4, kW_1, kW_2, kg_1, ksa_1, ki_1, ki_2, ki_3, kap2_1, kap_1, ksx4_1, ksx3_1, ksx2_1, ksx1_1, kat_1, ko_1, kfin_1, kfin_2, klc2_1, klc_1, kC4_1, kC3_1, kC2_1, kC2_2, kC1_1, ksum_1, kst2_1, kst_1, kst_2, kRev_1, kRev_2, krg_1, krg2_1, krg1_1, kav_1, kav_2, krc_1, runFn_a, out_n, out_s, ini_a, iniL_n, iniL_0, iniL_e, sSeq_a, sSet_a, sPar_a, dNil_a, dCons_a, setAll_n, setAll_c, sIf_a, sRet_a, sExpr_a, sNext_a, sBreak_a, sCont_a, mC_a, mVar_a, mMove_a, fz_a, m1_a, m2_a, tst_a, tNot_a, tAnd_a, tOr_a, tYes_a, mAnd_a, mOr_a, mIf_a, mChain_a, mCall_a, mCallL_a, lNil_a, lCons_a, lLend_a, res_e, res_v, res_s, slot_0, slot_s, put_a, peek_a, lstAt_a, get_v, get_o, get_b, aNil_a, aCons_a, aStar_a, mTup_a, mLst_a, mB_a, mIxS_a, mLenS_a, mIsi_a, pNone_a, pSome_a, mSl_a, sFor_a, forL_n, forL_c, whN_s, gN_a, gT_a, gsC_a, gsN_a, sAsg_a, iSeq_a, sApp_a, sSetIx_a, mLc_a, lcL_n, lcL_c, wipe_n, wipe_c, rest_n, rest_c, allVal_n, allVal_c, mRev_a, mLRg_a, mLRg2_a, lt_int, le_int, gt_int, ge_int, sub_int, add_int, mod_int, fdiv_int, pow_int', mul_ok, eq_int, ne_int, neg_int, not_bl, abs_int, int_int, int_bl, max_2, min_2, max_3, min_3, len_l, len_t, len_s, lenB_l, lenB_t, lenB_s, ix_l, ix_t, ix_s, ixV_a, at_a, tuple_l, tuple_t, list_l, list_t, sum_l, all_l, any_l, isi_int, isi_bool, isi_tup, ix_fr0, ix_fr1, mul_l, cat_l, cat_t, sl_l, sl_t, sl_s, line, L2.ixN, m1, m2, m3, hr]
theorem law_below_ok {p q : Rat} {n m : Nat} (hp : Fs n p) (hq : Fs m q) (hn : n + m < 9000 := by decide) : c__law_below [fr p, fr q] = ok (.bl (decide (p < q))) := by
  have m1 : MulOk p.num q.den := hp.1.mulOk hq.2 (by omega)
  have m2 : MulOk q.num p.den := hq.1.mulOk hp.2 (by omega)
  have e : decide (p.num * q.den < q.num * p.den) = decide (p < q) := by
    rw [Bool.eq_iff_iff, decide_eq_true_iff, decide_eq_true_iff, Rat.lt_iff]
  simp [c__law_below, cb__law_below, kSeq_1, kSeq_2, kSeq_3, kSeq_4, kSet_1, kNx_1, kPar_1, kd2_1, kd1_1, kIf_1, kIf_2, kRt_1, kEx_1, kVar_1, kVar_2, kMov_1, kMov_2, kfz_1, kfz_2, kc_1, k1_1, k2b_1, k2a_1, kt_1, kn_1, kAnd_1, kAnd_2, kOr_1, kOr_2, kmA_1, kmA_2, kmO_1, kmO_2, kmI_1, kmI_2, kh4_1, kh3_1, kh3_2, kh2_1, kh1_1, kcb_1, kca_1, kL5_1, kL4_1, kL3_1, kL2_1, kL1_1, kl2_1, kl1_1, kl3_1, kr_1, krs_1, krs_2, kput_1, kput_2, kpk_1, klst_1, klst_2, kbor_1, ka2_1, ka1_1, ktup_1, kls_1, kB_1, kx3_1, kx2_1, kx1_1, kx4_1, kis2_1, kis_1, kp_1, ks3_1, ks2_1, ks1_1, kF_1, kF2_1, kF2_2, kF2_3, kF2_4, kF1_1, kW2_1, kW2_2, kW2_3, kW2_4, kW_1, kW_2, kg_1, ksa_1, ki_1, ki_2, ki_3, kap2_1, kap_1, ksx4_1, ksx3_1, ksx2_1, ksx1_1, kat_1, ko_1, kfin_1, kfin_2, klc2_1, klc_1, kC4_1, kC3_1, kC2_1, kC2_2, kC1_1, ksum_1, kst2_1, kst_1, kst_2, kRev_1, kRev_2, krg_1, krg2_1, krg1_1, kav_1, kav_2, krc_1, runFn_a, out_n, out_s, ini_a, iniL_n, iniL_0, iniL_e, sSeq_a, sSet_a, sPar_a, dNil_a, dCons_a, setAll_n, setAll_c, sIf_a, sRet_a, sExpr_a, sNext_a, sBreak_a, sCont_a, mC_a, mVar_a, mMove_a, fz_a, m1_a, m2_a, tst_a, tNot_a, tAnd_a, tOr_a, tYes_a, mAnd_a, mOr_a, mIf_a, mChain_a, mCall_a, mCallL_a, lNil_a, lCons_a, lLend_a, res_e, res_v, res_s, slot_0, slot_s, put_a, peek_a, lstAt_a, get_v, get_o, get_b, aNil_a, aCons_a, aStar_a, mTup_a, mLst_a, mB_a, mIxS_a, mLenS_a, mIsi_a, pNone_a, pSome_a, mSl_a, sFor_a, forL_n, forL_c, whN_s, gN_a, gT_a, gsC_a, gsN_a, sAsg_a, iSeq_a, sApp_a, sSetIx_a, mLc_a, lcL_n, lcL_c, wipe_n, wipe_c, rest_n, rest_c, allVal_n, allVal_c, mRev_a, mLRg_a, mLRg2_a, lt_int, le_int, gt_int, ge_int, sub_int, add_int, mod_int, fdiv_int, pow_int', mul_ok, eq_int, ne_int, neg_int, not_bl, abs_int, int_int, int_bl, max_2, min_2, max_3, min_3, len_l, len_t, len_s, lenB_l, lenB_t, lenB_s, ix_l, ix_t, ix_s, ixV_a, at_a, tuple_l, tuple_t, list_l, list_t, sum_l, all_l, any_l, isi_int, isi_bool, isi_tup, ix_fr0, ix_fr1, mul_l, cat_l, cat_t, sl_l, sl_t, sl_s, line, L2.ixN, m1, m2, e]
theorem rat_rest (p : Rat) : ((p.den - p.num : Int) : Rat) / ((p.den : Int) : Rat) = 1 - p := by
  have := rat_sub 1 p
  simpa using this
theorem law_rest_ok {p : Rat} {n : Nat} (hp : Fs n p) (hn : n < 9000 := by decide) : c__law_rest [fr p] = ok (fr (1 - p)) := by
  have hr := law_ratio_ok (a := p.den - p.num) (den_ne p) hp.2 hn
  rw [rat_rest] at hr
  simp [c__law_rest, cb__law_rest, kSeq_1, kSeq_2, kSeq_3, kSeq_4, kSet_1, kNx_1, kPar_1, kd2_1, kd1_1, kIf_1, kIf_2, kRt_1, kEx_1, kVar_1, kVar_2, kMov_1, kMov_2, kfz_1, kfz_2, kc_1, k1_1, k2b_1, k2a_1, kt_1, kn_1, kAnd_1, kAnd_2, kOr_1, kOr_2, kmA_1, kmA_2, kmO_1, kmO_2, kmI_1, kmI_2, kh4_1, kh3_1, kh3_2, kh2_1, kh1_1, kcb_1, kca_1, kL5_1, kL4_1, kL3_1, kL2_1, kL1_1, kl2_1, kl1_1, kl3_1, kr_1, krs_1, krs_2, kput_1, kput_2, kpk_1, klst_1, klst_2, kbor_1, ka2_1, ka1_1, ktup_1, kls_1, kB_1, kx3_1, kx2_1, kx1_1, kx4_1, kis2_1, kis_1, kp_1, ks3_1, ks2_1, ks1_1, kF_1, kF2_1, kF2_2, kF2_3, kF2_4, kF1_1, kW2_1, kW2_2, kW2_3, kW2_4, kW_1, kW_2, kg_1, ksa_1, ki_1, ki_2, ki_3, kap2_1, kap_1, ksx4_1, ksx3_1, ksx2_1, ksx1_1, kat_1, ko_1, kfin_1, kfin_2, klc2_1, klc_1, kC4_1, kC3_1, kC2_1, kC2_2, kC1_1, ksum_1, kst2_1, kst_1, kst_2, kRev_1, kRev_2, krg_1, krg2_1, krg1_1, kav_1, kav_2, krc_1, runFn_a, out_n, out_s, ini_a, iniL_n, iniL_0, iniL_e, sSeq_a, sSet_a, sPar_a, dNil_a, dCons_a, setAll_n, setAll_c, sIf_a, sRet_a, sExpr_a, sNext_a, sBreak_a, sCont_a, mC_a, mVar_a, mMove_a, fz_a, m1_a, m2_a, tst_a, tNot_a, tAnd_a, tOr_a, tYes_a, mAnd_a, mOr_a, mIf_a, mChain_a, mCall_a, mCallL_a, lNil_a, lCons_a, lLend_a, res_e, res_v, res_s, slot_0, slot_s, put_a, peek_a, lstAt_a, get_v, get_o, get_b, aNil_a, aCons_a, aStar_a, mTup_a, mLst_a, mB_a, mIxS_a, mLenS_a, mIsi_a, pNone_a, pSome_a, mSl_a, sFor_a, forL_n, forL_c, whN_s, gN_a, gT_a, gsC_a, gsN_a, sAsg_a, iSeq_a, sApp_a, sSetIx_a, mLc_a, lcL_n, lcL_c, wipe_n, wipe_c, rest_n, rest_c, allVal_n, allVal_c, mRev_a, mLRg_a, mLRg2_a, lt_int, le_int, gt_int, ge_int, sub_int, add_int, mod_int, fdiv_int, pow_int', mul_ok, eq_int, ne_int, neg_int, not_bl, abs_int, int_int, int_bl, max_2, min_2, max_3, min_3, len_l, len_t, len_s, lenB_l, lenB_t, lenB_s, ix_l, ix_t, ix_s, ixV_a, at_a, tuple_l, tuple_t, list_l, list_t, sum_l, all_l, any_l, isi_int, isi_bool, isi_tup, ix_fr0, ix_fr1, mul_l, cat_l, cat_t, sl_l, sl_t, sl_s, line, L2.ixN, hr]
/-! ### drawing -/
def Pot (n : Nat) (d : D) : Prop := ∃ a b c : Int, d = .lst [.int a, .int b, .int c] ∧ (0 ≤ a ∧ Sz 1000 a) ∧ (0 ≤ b ∧ Sz 61 b) ∧ 0 ≤ c ∧ c < (n : Int)
theorem Pot.mono {n m : Nat} {d : D} (h : Pot n d) (k : n ≤ m) : Pot m d := by
  obtain ⟨a, b, c, e, h1, h2, h3, h4⟩ := h
  exact ⟨a, b, c, e, h1, h2, h3, by omega⟩
theorem powOk_sz {a : Int} {n : Nat} (h : Sz n a) (hn : n < 10000000) : PowOk a 3 := by
  refine ⟨by decide, ?_⟩
  have := h.log
  have e : Builtin.Int.intBits a ≤ n + 1 := by
    unfold Builtin.Int.intBits
    split <;> omega
  have : (2 : Int) ^ 27 = 134217728 := by decide
  omega
theorem law_take_ok {F G H : Int} {n : Nat} {p : D} {u : Int} (h : Pot n p) (hu : 0 < u) {m : Nat} (hs : Sz m u) (hm : m < 9000 := by decide) (hn : n < 1000000 := by decide) (t0 : Sz 18 F := by decide) (hG : Sz 14 G := by decide) (u1 : Sz 13 H := by decide) :
    ∃ d p', c__law_take F G H [p, .int u] = some (.val (.int d), p') ∧ Pot (n + 1) p' ∧ 0 ≤ d ∧ d < u := by
  obtain ⟨a, b, c, rfl, ⟨h1, h2⟩, ⟨h3, h4⟩, h5, h6⟩ := h
  have hu0 : u ≠ 0 := by omega
  have hd := hs.divOk hu0 hm
  by_cases ha : 0 < a
  · refine ⟨a.fmod u, .lst [.int (a.fdiv u), .int b, .int c], ?_, ⟨_, _, _, rfl, ⟨Int.fdiv_nonneg h1 (by omega), h2.of_le (Int.natAbs_fdiv_le_natAbs _ _)⟩, ⟨h3, h4⟩, h5, by omega⟩, Int.fmod_nonneg h1 (by omega), Int.fmod_lt_of_pos _ hu⟩
    simp [c__law_take, cb__law_take, kSeq_1, kSeq_2, kSeq_3, kSeq_4, kSet_1, kNx_1, kPar_1, kd2_1, kd1_1, kIf_1, kIf_2, kRt_1, kEx_1, kVar_1, kVar_2, kMov_1, kMov_2, kfz_1, kfz_2, kc_1, k1_1, k2b_1, k2a_1, kt_1, kn_1, kAnd_1, kAnd_2, kOr_1, kOr_2, kmA_1, kmA_2, kmO_1, kmO_2, kmI_1, kmI_2, kh4_1, kh3_1, kh3_2, kh2_1, kh1_1, kcb_1, kca_1, kL5_1, kL4_1, kL3_1, kL2_1, kL1_1, kl2_1, kl1_1, kl3_1, kr_1, krs_1, krs_2, kput_1, kput_2, kpk_1, klst_1, klst_2, kbor_1, ka2_1, ka1_1, ktup_1, kls_1, kB_1, kx3_1, kx2_1, kx1_1, kx4_1, kis2_1, kis_1, kp_1, ks3_1, ks2_1, ks1_1, kF_1, kF2_1, kF2_2, kF2_3, kF2_4, kF1_1, kW2_1, kW2_2, kW2_3, kW2_4, kW_1, kW_2, kg_1, ksa_1, ki_1, ki_2, ki_3, kap2_1, kap_1, ksx4_1, ksx3_1, ksx2_1, ksx1_1, kat_1, ko_1, kfin_1, kfin_2, klc2_1, klc_1, kC4_1, kC3_1, kC2_1, kC2_2, kC1_1, ksum_1, kst2_1, kst_1, kst_2, kRev_1, kRev_2, krg_1, krg2_1, krg1_1, kav_1, kav_2, krc_1, runFn_a, out_n, out_s, ini_a, iniL_n, iniL_0, iniL_e, sSeq_a, sSet_a, sPar_a, dNil_a, dCons_a, setAll_n, setAll_c, sIf_a, sRet_a, sExpr_a, sNext_a, sBreak_a, sCont_a, mC_a, mVar_a, mMove_a, fz_a, m1_a, m2_a, tst_a, tNot_a, tAnd_a, tOr_a, tYes_a, mAnd_a, mOr_a, mIf_a, mChain_a, mCall_a, mCallL_a, lNil_a, lCons_a, lLend_a, res_e, res_v, res_s, slot_0, slot_s, put_a, peek_a, lstAt_a, get_v, get_o, get_b, aNil_a, aCons_a, aStar_a, mTup_a, mLst_a, mB_a, mIxS_a, mLenS_a, mIsi_a, pNone_a, pSome_a, mSl_a, sFor_a, forL_n, forL_c, whN_s, gN_a, gT_a, gsC_a, gsN_a, sAsg_a, iSeq_a, sApp_a, sSetIx_a, mLc_a, lcL_n, lcL_c, wipe_n, wipe_c, rest_n, rest_c, allVal_n, allVal_c, mRev_a, mLRg_a, mLRg2_a, lt_int, le_int, gt_int, ge_int, sub_int, add_int, mod_int, fdiv_int, pow_int', mul_ok, eq_int, ne_int, neg_int, not_bl, abs_int, int_int, int_bl, max_2, min_2, max_3, min_3, len_l, len_t, len_s, lenB_l, lenB_t, lenB_s, ix_l, ix_t, ix_s, ixV_a, at_a, tuple_l, tuple_t, list_l, list_t, sum_l, all_l, any_l, isi_int, isi_bool, isi_tup, ix_fr0, ix_fr1, mul_l, cat_l, cat_t, sl_l, sl_t, sl_s, line, L2.ixN, ha, hu0, hd]
  · have s1 : Sz 20 (c + 1) := by unfold Sz; omega
    have t1 := t0.mul s1
    have t2 := t1.mul s1
    have t3 := (h4.mono (m := 61) (by decide)).add (t2.mono (m := 61) (by decide))
    have t4 := t3.add (y := G) (n := 62) (hG.mono (by decide))
    have m1 : MulOk F (c + 1) := t0.mulOk s1
    have m2 : MulOk (F * (c + 1)) (c + 1) := t1.mulOk s1
    have p3 := powOk_sz t4 (by decide)
    have hx : ∃ pr : Int, 0 < pr ∧ Sz 31 pr ∧ dIx (.lst [.int 2147483647, .int 2147483629, .int 2147483587, .int 2147483579]) (.int ((c + 1).fmod 4)) = some (.int pr) := by
      have e0 : 0 ≤ (c + 1).fmod 4 := Int.fmod_nonneg (by omega) (by decide)
      have e1 : (c + 1).fmod 4 < 4 := Int.fmod_lt_of_pos _ (by decide)
      have e2 : (c + 1).fmod 4 = 0 ∨ (c + 1).fmod 4 = 1 ∨ (c + 1).fmod 4 = 2 ∨ (c + 1).fmod 4 = 3 := by omega
      rcases e2 with e | e | e | e <;> rw [e]
      · exact ⟨2147483647, by decide, by decide, rfl⟩
      · exact ⟨2147483629, by decide, by decide, rfl⟩
      · exact ⟨2147483587, by decide, by decide, rfl⟩
      · exact ⟨2147483579, by decide, by decide, rfl⟩
    obtain ⟨pr, q1, q2, q3⟩ := hx
    have q0 : pr ≠ 0 := by omega
    generalize eb : ((b + F * (c + 1) * (c + 1) + G) ^ 3).fmod pr = bl
    have b1 : 0 ≤ bl := by rw [← eb]; exact Int.fmod_nonneg_of_pos _ q1
    have b2 : bl < pr := by rw [← eb]; exact Int.fmod_lt_of_pos _ q1
    have b3 : Sz 31 bl := q2.of_le (by omega)
    have f1 : 0 ≤ bl.fmod 10007 := Int.fmod_nonneg_of_pos _ (by decide)
    have f2 : bl.fmod 10007 < 10007 := Int.fmod_lt_of_pos _ (by decide)
    have f3 : Sz 33 (bl.fmod 10007) := by unfold Sz; omega
    have m3 : MulOk H (c + 1) := u1.mulOk s1
    have u2 := u1.mul s1
    have m4 : MulOk bl (bl.fmod 10007 + H * (c + 1)) := b3.mulOk (f3.add u2)
    have d7 : DivOk 307 := by decide
    refine ⟨((bl * (bl.fmod 10007 + H * (c + 1))).fdiv 307).fmod u, .lst [.int a, .int b, .int (c + 1)], ?_, ⟨_, _, _, rfl, ⟨h1, h2⟩, ⟨h3, h4⟩, by omega, by omega⟩, Int.fmod_nonneg_of_pos _ hu, Int.fmod_lt_of_pos _ hu⟩
    simp [c__law_take, cb__law_take, kSeq_1, kSeq_2, kSeq_3, kSeq_4, kSet_1, kNx_1, kPar_1, kd2_1, kd1_1, kIf_1, kIf_2, kRt_1, kEx_1, kVar_1, kVar_2, kMov_1, kMov_2, kfz_1, kfz_2, kc_1, k1_1, k2b_1, k2a_1, kt_1, kn_1, kAnd_1, kAnd_2, kOr_1, kOr_2, kmA_1, kmA_2, kmO_1, kmO_2, kmI_1, kmI_2, kh4_1, kh3_1, kh3_2, kh2_1, kh1_1, kcb_1, kca_1, kL5_1, kL4_1, kL3_1, kL2_1, kL1_1, kl2_1, kl1_1, kl3_1, kr_1, krs_1, krs_2, kput_1, kput_2, kpk_1, klst_1, klst_2, kbor_1, ka2_1, ka1_1, ktup_1, kls_1, kB_1, kx3_1, kx2_1, kx1_1, kx4_1, kis2_1, kis_1, kp_1, ks3_1, ks2_1, ks1_1, kF_1, kF2_1, kF2_2, kF2_3, kF2_4, kF1_1, kW2_1, kW2_2, kW2_3, kW2_4, kW_1, kW_2, kg_1, ksa_1, ki_1, ki_2, ki_3, kap2_1, kap_1, ksx4_1, ksx3_1, ksx2_1, ksx1_1, kat_1, ko_1, kfin_1, kfin_2, klc2_1, klc_1, kC4_1, kC3_1, kC2_1, kC2_2, kC1_1, ksum_1, kst2_1, kst_1, kst_2, kRev_1, kRev_2, krg_1, krg2_1, krg1_1, kav_1, kav_2, krc_1, runFn_a, out_n, out_s, ini_a, iniL_n, iniL_0, iniL_e, sSeq_a, sSet_a, sPar_a, dNil_a, dCons_a, setAll_n, setAll_c, sIf_a, sRet_a, sExpr_a, sNext_a, sBreak_a, sCont_a, mC_a, mVar_a, mMove_a, fz_a, m1_a, m2_a, tst_a, tNot_a, tAnd_a, tOr_a, tYes_a, mAnd_a, mOr_a, mIf_a, mChain_a, mCall_a, mCallL_a, lNil_a, lCons_a, lLend_a, res_e, res_v, res_s, slot_0, slot_s, put_a, peek_a, lstAt_a, get_v, get_o, get_b, aNil_a, aCons_a, aStar_a, mTup_a, mLst_a, mB_a, mIxS_a, mLenS_a, mIsi_a, pNone_a, pSome_a, mSl_a, sFor_a, forL_n, forL_c, whN_s, gN_a, gT_a, gsC_a, gsN_a, sAsg_a, iSeq_a, sApp_a, sSetIx_a, mLc_a, lcL_n, lcL_c, wipe_n, wipe_c, rest_n, rest_c, allVal_n, allVal_c, mRev_a, mLRg_a, mLRg2_a, lt_int, le_int, gt_int, ge_int, sub_int, add_int, mod_int, fdiv_int, pow_int', mul_ok, eq_int, ne_int, neg_int, not_bl, abs_int, int_int, int_bl, max_2, min_2, max_3, min_3, len_l, len_t, len_s, lenB_l, lenB_t, lenB_s, ix_l, ix_t, ix_s, ixV_a, at_a, tuple_l, tuple_t, list_l, list_t, sum_l, all_l, any_l, isi_int, isi_bool, isi_tup, ix_fr0, ix_fr1, mul_l, cat_l, cat_t, sl_l, sl_t, sl_s, line, L2.ixN, ha, hu0, m1, m2, p3, q0] at q3 ⊢
    simp [q3, kSeq_1, kSeq_2, kSeq_3, kSeq_4, kSet_1, kNx_1, kPar_1, kd2_1, kd1_1, kIf_1, kIf_2, kRt_1, kEx_1, kVar_1, kVar_2, kMov_1, kMov_2, kfz_1, kfz_2, kc_1, k1_1, k2b_1, k2a_1, kt_1, kn_1, kAnd_1, kAnd_2, kOr_1, kOr_2, kmA_1, kmA_2, kmO_1, kmO_2, kmI_1, kmI_2, kh4_1, kh3_1, kh3_2, kh2_1, kh1_1, kcb_1, kca_1, kL5_1, kL4_1, kL3_1, kL2_1, kL1_1, kl2_1, kl1_1, kl3_1, kr_1, krs_1, krs_2, kput_1, kput_2, kpk_1, klst_1, klst_2, kbor_1, ka2_1, ka1_1, ktup_1, kls_1, kB_1, kx3_1, kx2_1, kx1_1, kx4_1, kis2_1, kis_1, kp_1, ks3_1, ks2_1, ks1_1, kF_1, kF2_1, kF2_2, kF2_3, kF2_4, kF1_1, kW2_1, kW2_2, kW2_3, kW2_4, kW_1, kW_2, kg_1, ksa_1, ki_1, ki_2, ki_3, kap2_1, kap_1, ksx4_1, ksx3_1, ksx2_1, ksx1_1, kat_1, ko_1, kfin_1, kfin_2, klc2_1, klc_1, kC4_1, kC3_1, kC2_1, kC2_2, kC1_1, ksum_1, kst2_1, kst_1, kst_2, kRev_1, kRev_2, krg_1, krg2_1, krg1_1, kav_1, kav_2, krc_1, runFn_a, out_n, out_s, ini_a, iniL_n, iniL_0, iniL_e, sSeq_a, sSet_a, sPar_a, dNil_a, dCons_a, setAll_n, setAll_c, sIf_a, sRet_a, sExpr_a, sNext_a, sBreak_a, sCont_a, mC_a, mVar_a, mMove_a, fz_a, m1_a, m2_a, tst_a, tNot_a, tAnd_a, tOr_a, tYes_a, mAnd_a, mOr_a, mIf_a, mChain_a, mCall_a, mCallL_a, lNil_a, lCons_a, lLend_a, res_e, res_v, res_s, slot_0, slot_s, put_a, peek_a, lstAt_a, get_v, get_o, get_b, aNil_a, aCons_a, aStar_a, mTup_a, mLst_a, mB_a, mIxS_a, mLenS_a, mIsi_a, pNone_a, pSome_a, mSl_a, sFor_a, forL_n, forL_c, whN_s, gN_a, gT_a, gsC_a, gsN_a, sAsg_a, iSeq_a, sApp_a, sSetIx_a, mLc_a, lcL_n, lcL_c, wipe_n, wipe_c, rest_n, rest_c, allVal_n, allVal_c, mRev_a, mLRg_a, mLRg2_a, lt_int, le_int, gt_int, ge_int, sub_int, add_int, mod_int, fdiv_int, pow_int', mul_ok, eq_int, ne_int, neg_int, not_bl, abs_int, int_int, int_bl, max_2, min_2, max_3, min_3, len_l, len_t, len_s, lenB_l, lenB_t, lenB_s, ix_l, ix_t, ix_s, ixV_a, at_a, tuple_l, tuple_t, list_l, list_t, sum_l, all_l, any_l, isi_int, isi_bool, isi_tup, ix_fr0, ix_fr1, mul_l, cat_l, cat_t, sl_l, sl_t, sl_s, line, L2.ixN, q0, m1, m2, p3, m3, m4, d7, hu0, eb]
theorem law_of_ok {F G H : Int} {n : Nat} {p : D} {ds : List D} (h : Pot n p) (h0 : ds ≠ []) (hl : ds.length < 1000000) (hn : n < 1000000 := by decide) (t0 : Sz 18 F := by decide) (hG : Sz 14 G := by decide) (u1 : Sz 13 H := by decide) :
    ∃ d p', c__law_of F G H [p, .lst ds] = some (.val d, p') ∧ Pot (n + 1) p' ∧ d ∈ ds := by
  have hp : 0 < ds.length := List.length_pos_iff.mpr h0
  obtain ⟨i, p', e, hp', h1, h2⟩ := law_take_ok (F := F) (G := G) (H := H) (u := (ds.length : Int)) (m := 20) h (by omega) (by unfold Sz; omega) (by decide) hn t0 hG u1
  have hi : i.toNat < ds.length := by omega
  have hx : dIx (.lst ds) (.int i) = some ds[i.toNat] := by
    show atI ds i = _
    unfold atI ixN
    rw [if_pos h1, if_pos h2]
    exact List.getElem?_eq_getElem hi
  refine ⟨ds[i.toNat], p', ?_, hp', List.getElem_mem hi⟩
  simp only [c__law_of, cb__law_of, kSeq_1, kSeq_2, kSeq_3, kSeq_4, kSet_1, kNx_1, kPar_1, kd2_1, kd1_1, kIf_1, kIf_2, kRt_1, kEx_1, kVar_1, kVar_2, kMov_1, kMov_2, kfz_1, kfz_2, kc_1, k1_1, k2b_1, k2a_1, kt_1, kn_1, kAnd_1, kAnd_2, kOr_1, kOr_2, kmA_1, kmA_2, kmO_1, kmO_2, kmI_1, kmI_2, kh4_1, kh3_1, kh3_2, kh2_1, kh1_1, kcb_1, kca_1, kL5_1, kL4_1, kL3_1, kL2_1, kL1_1, kl2_1, kl1_1, kl3_1, kr_1, krs_1, krs_2, kput_1, kput_2, kpk_1, klst_1, klst_2, kbor_1, ka2_1, ka1_1, ktup_1, kls_1, kB_1, kx3_1, kx2_1, kx1_1, kx4_1, kis2_1, kis_1, kp_1, ks3_1, ks2_1, ks1_1, kF_1, kF2_1, kF2_2, kF2_3, kF2_4, kF1_1, kW2_1, kW2_2, kW2_3, kW2_4, kW_1, kW_2, kg_1, ksa_1, ki_1, ki_2, ki_3, kap2_1, kap_1, ksx4_1, ksx3_1, ksx2_1, ksx1_1, kat_1, ko_1, kfin_1, kfin_2, klc2_1, klc_1, kC4_1, kC3_1, kC2_1, kC2_2, kC1_1, ksum_1, kst2_1, kst_1, kst_2, kRev_1, kRev_2, krg_1, krg2_1, krg1_1, kav_1, kav_2, krc_1, runFn_a, out_n, out_s, ini_a, iniL_n, iniL_0, iniL_e, sSeq_a, sSet_a, sPar_a, dNil_a, dCons_a, setAll_n, setAll_c, sIf_a, sRet_a, sExpr_a, sNext_a, sBreak_a, sCont_a, mC_a, mVar_a, mMove_a, fz_a, m1_a, m2_a, tst_a, tNot_a, tAnd_a, tOr_a, tYes_a, mAnd_a, mOr_a, mIf_a, mChain_a, mCall_a, mCallL_a, lNil_a, lCons_a, lLend_a, res_e, res_v, res_s, slot_0, slot_s, put_a, peek_a, lstAt_a, get_v, get_o, get_b, aNil_a, aCons_a, aStar_a, mTup_a, mLst_a, mB_a, mIxS_a, mLenS_a, mIsi_a, pNone_a, pSome_a, mSl_a, sFor_a, forL_n, forL_c, whN_s, gN_a, gT_a, gsC_a, gsN_a, sAsg_a, iSeq_a, sApp_a, sSetIx_a, mLc_a, lcL_n, lcL_c, wipe_n, wipe_c, rest_n, rest_c, allVal_n, allVal_c, mRev_a, mLRg_a, mLRg2_a, lt_int, le_int, gt_int, ge_int, sub_int, add_int, mod_int, fdiv_int, pow_int', mul_ok, eq_int, ne_int, neg_int, not_bl, abs_int, int_int, int_bl, max_2, min_2, max_3, min_3, len_l, len_t, len_s, lenB_l, lenB_t, lenB_s, ix_l, ix_t, ix_s, ixV_a, at_a, tuple_l, tuple_t, list_l, list_t, sum_l, all_l, any_l, isi_int, isi_bool, isi_tup, ix_fr0, ix_fr1, mul_l, cat_l, cat_t, sl_l, sl_t, sl_s, line, L2.ixN, List.length_cons, List.length_nil, List.replicate, List.append_nil, List.cons_append, List.nil_append, Nat.reduceAdd, Nat.reduceSub, List.getElem?_cons_succ, List.getElem?_cons_zero]
  simp [kSeq_1, kSeq_2, kSeq_3, kSeq_4, kSet_1, kNx_1, kPar_1, kd2_1, kd1_1, kIf_1, kIf_2, kRt_1, kEx_1, kVar_1, kVar_2, kMov_1, kMov_2, kfz_1, kfz_2, kc_1, k1_1, k2b_1, k2a_1, kt_1, kn_1, kAnd_1, kAnd_2, kOr_1, kOr_2, kmA_1, kmA_2, kmO_1, kmO_2, kmI_1, kmI_2, kh4_1, kh3_1, kh3_2, kh2_1, kh1_1, kcb_1, kca_1, kL5_1, kL4_1, kL3_1, kL2_1, kL1_1, kl2_1, kl1_1, kl3_1, kr_1, krs_1, krs_2, kput_1, kput_2, kpk_1, klst_1, klst_2, kbor_1, ka2_1, ka1_1, ktup_1, kls_1, kB_1, kx3_1, kx2_1, kx1_1, kx4_1, kis2_1, kis_1, kp_1, ks3_1, ks2_1, ks1_1, kF_1, kF2_1, kF2_2, kF2_3, kF2_4, kF1_1, kW2_1, kW2_2, kW2_3, kW2_4, kW_1, kW_2, kg_1, ksa_1, ki_1, ki_2, ki_3, kap2_1, kap_1, ksx4_1, ksx3_1, ksx2_1, ksx1_1, kat_1, ko_1, kfin_1, kfin_2, klc2_1, klc_1, kC4_1, kC3_1, kC2_1, kC2_2, kC1_1, ksum_1, kst2_1, kst_1, kst_2, kRev_1, kRev_2, krg_1, krg2_1, krg1_1, kav_1, kav_2, krc_1, runFn_a, out_n, out_s, ini_a, iniL_n, iniL_0, iniL_e, sSeq_a, sSet_a, sPar_a, dNil_a, dCons_a, setAll_n, setAll_c, sIf_a, sRet_a, sExpr_a, sNext_a, sBreak_a, sCont_a, mC_a, mVar_a, mMove_a, fz_a, m1_a, m2_a, tst_a, tNot_a, tAnd_a, tOr_a, tYes_a, mAnd_a, mOr_a, mIf_a, mChain_a, mCall_a, mCallL_a, lNil_a, lCons_a, lLend_a, res_e, res_v, res_s, slot_0, slot_s, put_a, peek_a, lstAt_a, get_v, get_o, get_b, aNil_a, aCons_a, aStar_a, mTup_a, mLst_a, mB_a, mIxS_a, mLenS_a, mIsi_a, pNone_a, pSome_a, mSl_a, sFor_a, forL_n, forL_c, whN_s, gN_a, gT_a, gsC_a, gsN_a, sAsg_a, iSeq_a, sApp_a, sSetIx_a, mLc_a, lcL_n, lcL_c, wipe_n, wipe_c, rest_n, rest_c, allVal_n, allVal_c, mRev_a, mLRg_a, mLRg2_a, lt_int, le_int, gt_int, ge_int, sub_int, add_int, mod_int, fdiv_int, pow_int', mul_ok, eq_int, ne_int, neg_int, not_bl, abs_int, int_int, int_bl, max_2, min_2, max_3, min_3, len_l, len_t, len_s, lenB_l, lenB_t, lenB_s, ix_l, ix_t, ix_s, ixV_a, at_a, tuple_l, tuple_t, list_l, list_t, sum_l, all_l, any_l, isi_int, isi_bool, isi_tup, ix_fr0, ix_fr1, mul_l, cat_l, cat_t, sl_l, sl_t, sl_s, line, L2.ixN, e] at hx ⊢
  simp [kSeq_1, kSeq_2, kSeq_3, kSeq_4, kSet_1, kNx_1, kPar_1, kd2_1, kd1_1, kIf_1, kIf_2, kRt_1, kEx_1, kVar_1, kVar_2, kMov_1, kMov_2, kfz_1, kfz_2, kc_1, k1_1, k2b_1, k2a_1, kt_1, kn_1, kAnd_1, kAnd_2, kOr_1, kOr_2, kmA_1, kmA_2, kmO_1, kmO_2, kmI_1, kmI_2, kh4_1, kh3_1, kh3_2, kh2_1, kh1_1, kcb_1, kca_1, kL5_1, kL4_1, kL3_1, kL2_1, kL1_1, kl2_1, kl1_1, kl3_1, kr_1, krs_1, krs_2, kput_1, kput_2, kpk_1, klst_1, klst_2, kbor_1, ka2_1, ka1_1, ktup_1, kls_1, kB_1, kx3_1, kx2_1, kx1_1, kx4_1, kis2_1, kis_1, kp_1, ks3_1, ks2_1, ks1_1, kF_1, kF2_1, kF2_2, kF2_3, kF2_4, kF1_1, kW2_1, kW2_2, kW2_3, kW2_4, kW_1, kW_2, kg_1, ksa_1, ki_1, ki_2, ki_3, kap2_1, kap_1, ksx4_1, ksx3_1, ksx2_1, ksx1_1, kat_1, ko_1, kfin_1, kfin_2, klc2_1, klc_1, kC4_1, kC3_1, kC2_1, kC2_2, kC1_1, ksum_1, kst2_1, kst_1, kst_2, kRev_1, kRev_2, krg_1, krg2_1, krg1_1, kav_1, kav_2, krc_1, runFn_a, out_n, out_s, ini_a, iniL_n, iniL_0, iniL_e, sSeq_a, sSet_a, sPar_a, dNil_a, dCons_a, setAll_n, setAll_c, sIf_a, sRet_a, sExpr_a, sNext_a, sBreak_a, sCont_a, mC_a, mVar_a, mMove_a, fz_a, m1_a, m2_a, tst_a, tNot_a, tAnd_a, tOr_a, tYes_a, mAnd_a, mOr_a, mIf_a, mChain_a, mCall_a, mCallL_a, lNil_a, lCons_a, lLend_a, res_e, res_v, res_s, slot_0, slot_s, put_a, peek_a, lstAt_a, get_v, get_o, get_b, aNil_a, aCons_a, aStar_a, mTup_a, mLst_a, mB_a, mIxS_a, mLenS_a, mIsi_a, pNone_a, pSome_a, mSl_a, sFor_a, forL_n, forL_c, whN_s, gN_a, gT_a, gsC_a, gsN_a, sAsg_a, iSeq_a, sApp_a, sSetIx_a, mLc_a, lcL_n, lcL_c, wipe_n, wipe_c, rest_n, rest_c, allVal_n, allVal_c, mRev_a, mLRg_a, mLRg2_a, lt_int, le_int, gt_int, ge_int, sub_int, add_int, mod_int, fdiv_int, pow_int', mul_ok, eq_int, ne_int, neg_int, not_bl, abs_int, int_int, int_bl, max_2, min_2, max_3, min_3, len_l, len_t, len_s, lenB_l, lenB_t, lenB_s, ix_l, ix_t, ix_s, ixV_a, at_a, tuple_l, tuple_t, list_l, list_t, sum_l, all_l, any_l, isi_int, isi_bool, isi_tup, ix_fr0, ix_fr1, mul_l, cat_l, cat_t, sl_l, sl_t, sl_s, line, L2.ixN, hx]
end
end Cb

set_option Elab.async false
set_option linter.all false
set_option maxRecDepth 100000
/-! The pots of the laws, cells, loops over cells. -/
namespace Cb
open PySem L2
noncomputable section
@[irreducible] def p60 : Int := 10 ^ 60
@[irreducible] def m300 : Int := (10 ^ 60) ^ 5
theorem pw1 : dPow (.int 10) (.int 60) = some (.val (.int p60)) := by
  rw [pow_int' (by decide +kernel)]; unfold p60; rfl
theorem pw2 : dPow (.int p60) (.int 5) = some (.val (.int m300)) := by
  rw [pow_int' (by unfold p60; decide +kernel)]; unfold p60 m300; rfl
theorem pw3 : dPow (.int 10) (.int 18) = some (.val (.int 1000000000000000000)) := by
  rw [pow_int' (by decide +kernel)]; rfl
theorem m300_pos : 0 < m300 := by unfold m300; decide +kernel
theorem m300_sz : Sz 1000 m300 := by unfold m300; decide +kernel
theorem sum1 (ns : List Int) : ∃ i : Int, dSum [.lst ((cutL ns none (some 1)).map D.int)] = some (.val (.int i)) := ⟨(cutL ns none (some 1)).sum, by rw [sum_l, intsOf_map]; rfl⟩
theorem law_pot_ok {A B C F G : Int} (ns : List Int) (pl : Nat) (h : pl < ns.length ∨ ns.length = 0 ∧ pl = 0) (hl : ns.length < 100) (hA : Sz 20 A := by decide) (hB : Sz 20 B := by decide) (hC : Sz 20 C := by decide) (hF : Sz 20 F := by decide) (hG : Sz 20 G := by decide) :
    ∃ d, c__law_pot A B C F G [.scr ns, .int pl] = some (.own d, .non) ∧ Pot 1 d := by
  have sp : Sz 7 (pl : Int) := by unfold Sz; omega
  have m3 : MulOk A pl := hA.mulOk sp
  have m4 : MulOk F pl := hF.mulOk sp
  have m5 : MulOk (F * pl) pl := (hF.mul sp).mulOk sp
  have hM0 : m300 ≠ 0 := by have := m300_pos; omega
  have key : ∀ cell : Int, Pot 1 (D.lst [.int ((cell.natAbs : Int).fmod m300 * (if (1000000000000000000 : Int) ≤ cell.natAbs then 1 else 0)), .int ((cell.fmod 2305843009213693951 * C + F * pl * pl + G).fmod 2305843009213693921), .int 0]) ∧
      MulOk ((cell.natAbs : Int).fmod m300) (if (1000000000000000000 : Int) ≤ cell.natAbs then 1 else 0) ∧ MulOk (cell.fmod 2305843009213693951) C := by
    intro cell
    have e1 : (cell.fmod 2305843009213693951 * C + F * pl * pl + G).fmod 2305843009213693921 < 2305843009213693921 := Int.fmod_lt_of_pos _ (by decide)
    have e0 : 0 ≤ (cell.fmod 2305843009213693951 * C + F * pl * pl + G).fmod 2305843009213693921 := Int.fmod_nonneg_of_pos _ (by decide)
    have e2 : cell.fmod 2305843009213693951 < 2305843009213693951 := Int.fmod_lt_of_pos _ (by decide)
    have e3 : 0 ≤ cell.fmod 2305843009213693951 := Int.fmod_nonneg_of_pos _ (by decide)
    have s1 : Sz 61 (2305843009213693921 : Int) := by decide
    have s2 : Sz 61 (2305843009213693951 : Int) := by decide
    have f1 : (cell.natAbs : Int).fmod m300 < m300 := Int.fmod_lt_of_pos _ m300_pos
    have f0 : (0 : Int) ≤ (cell.natAbs : Int).fmod m300 := Int.fmod_nonneg_of_pos _ m300_pos
    have f2 := m300_sz.of_le (y := (cell.natAbs : Int).fmod m300) (by omega)
    refine ⟨⟨_, _, _, rfl, ?_, ⟨e0, s1.of_le (by omega)⟩, by decide, by decide⟩, f2.mulOk (m := 2) ?_, (s2.of_le (by omega)).mulOk hC⟩
    · split
      · rw [Int.mul_one]; exact ⟨f0, f2⟩
      · rw [Int.mul_zero]; exact ⟨by decide, by decide⟩
    · split <;> decide
  rcases h with h | ⟨h, h1⟩
  · obtain ⟨hd, k1, k2⟩ := key ns[pl]
    refine ⟨_, ?_, hd⟩
    have hx : dIx (.scr ns) (.int pl) = some (.int ns[pl]) := by
      show (atI ns pl).map D.int = _
      unfold atI ixN
      rw [if_pos (by omega), if_pos (by omega)]
      simp [h]
    have hc : (pl : Int) < ns.length := by omega
    simp -implicitDefEqProofs only [ix_s] at hx
    simp [c__law_pot, cb__law_pot, kSeq_1, kSeq_2, kSeq_3, kSeq_4, kSet_1, kNx_1, kPar_1, kd2_1, kd1_1, kIf_1, kIf_2, kRt_1, kEx_1, kVar_1, kVar_2, kMov_1, kMov_2, kfz_1, kfz_2, kc_1, k1_1, k2b_1, k2a_1, kt_1, kn_1, kAnd_1, kAnd_2, kOr_1, kOr_2, kmA_1, kmA_2, kmO_1, kmO_2, kmI_1, kmI_2, kh4_1, kh3_1, kh3_2, kh2_1, kh1_1, kcb_1, kca_1, kL5_1, kL4_1, kL3_1, kL2_1, kL1_1, kl2_1, kl1_1, kl3_1, kr_1, krs_1, krs_2, kput_1, kput_2, kpk_1, klst_1, klst_2, kbor_1, ka2_1, ka1_1, ktup_1, kls_1, kB_1, kx3_1, kx2_1, kx1_1, kx4_1, kis2_1, kis_1, kp_1, ks3_1, ks2_1, ks1_1, kF_1, kF2_1, kF2_2, kF2_3, kF2_4, kF1_1, kW2_1, kW2_2, kW2_3, kW2_4, kW_1, kW_2, kg_1, ksa_1, ki_1, ki_2, ki_3, kap2_1, kap_1, ksx4_1, ksx3_1, ksx2_1, ksx1_1, kat_1, ko_1, kfin_1, kfin_2, klc2_1, klc_1, kC4_1, kC3_1, kC2_1, kC2_2, kC1_1, ksum_1, kst2_1, kst_1, kst_2, kRev_1, kRev_2, krg_1, krg2_1, krg1_1, kav_1, kav_2, krc_1, runFn_a, out_n, out_s, ini_a, iniL_n, iniL_0, iniL_e, sSeq_a, sSet_a, sPar_a, dNil_a, dCons_a, setAll_n, setAll_c, sIf_a, sRet_a, sExpr_a, sNext_a, sBreak_a, sCont_a, mC_a, mVar_a, mMove_a, fz_a, m1_a, m2_a, tst_a, tNot_a, tAnd_a, tOr_a, tYes_a, mAnd_a, mOr_a, mIf_a, mChain_a, mCall_a, mCallL_a, lNil_a, lCons_a, lLend_a, res_e, res_v, res_s, slot_0, slot_s, put_a, peek_a, lstAt_a, get_v, get_o, get_b, aNil_a, aCons_a, aStar_a, mTup_a, mLst_a, mB_a, mIxS_a, mLenS_a, mIsi_a, pNone_a, pSome_a, mSl_a, sFor_a, forL_n, forL_c, whN_s, gN_a, gT_a, gsC_a, gsN_a, sAsg_a, iSeq_a, sApp_a, sSetIx_a, mLc_a, lcL_n, lcL_c, wipe_n, wipe_c, rest_n, rest_c, allVal_n, allVal_c, mRev_a, mLRg_a, mLRg2_a, lt_int, le_int, gt_int, ge_int, sub_int, add_int, mod_int, fdiv_int, pow_int', mul_ok, eq_int, ne_int, neg_int, not_bl, abs_int, int_int, int_bl, max_2, min_2, max_3, min_3, len_l, len_t, len_s, lenB_l, lenB_t, lenB_s, ix_l, ix_t, ix_s, ixV_a, at_a, tuple_l, tuple_t, list_l, list_t, sum_l, all_l, any_l, isi_int, isi_bool, isi_tup, ix_fr0, ix_fr1, mul_l, cat_l, cat_t, sl_l, sl_t, sl_s, line, L2.ixN, hc, hx, h, pw1, pw2, pw3, m4, m5, k1, k2, hM0]
  · have h2 : ns = [] := List.eq_nil_of_length_eq_zero h
    subst h1 h2
    obtain ⟨hd, k1, k2⟩ := key ((0 : Int).fmod 1000003 + A * (0 : Nat) + B)
    refine ⟨_, ?_, hd⟩
    have hs : intsOf [] = some [] := rfl
    simp [c__law_pot, cb__law_pot, kSeq_1, kSeq_2, kSeq_3, kSeq_4, kSet_1, kNx_1, kPar_1, kd2_1, kd1_1, kIf_1, kIf_2, kRt_1, kEx_1, kVar_1, kVar_2, kMov_1, kMov_2, kfz_1, kfz_2, kc_1, k1_1, k2b_1, k2a_1, kt_1, kn_1, kAnd_1, kAnd_2, kOr_1, kOr_2, kmA_1, kmA_2, kmO_1, kmO_2, kmI_1, kmI_2, kh4_1, kh3_1, kh3_2, kh2_1, kh1_1, kcb_1, kca_1, kL5_1, kL4_1, kL3_1, kL2_1, kL1_1, kl2_1, kl1_1, kl3_1, kr_1, krs_1, krs_2, kput_1, kput_2, kpk_1, klst_1, klst_2, kbor_1, ka2_1, ka1_1, ktup_1, kls_1, kB_1, kx3_1, kx2_1, kx1_1, kx4_1, kis2_1, kis_1, kp_1, ks3_1, ks2_1, ks1_1, kF_1, kF2_1, kF2_2, kF2_3, kF2_4, kF1_1, kW2_1, kW2_2, kW2_3, kW2_4, kW_1, kW_2, kg_1, ksa_1, ki_1, ki_2, ki_3, kap2_1, kap_1, ksx4_1, ksx3_1, ksx2_1, ksx1_1, kat_1, ko_1, kfin_1, kfin_2, klc2_1, klc_1, kC4_1, kC3_1, kC2_1, kC2_2, kC1_1, ksum_1, kst2_1, kst_1, kst_2, kRev_1, kRev_2, krg_1, krg2_1, krg1_1, kav_1, kav_2, krc_1, runFn_a, out_n, out_s, ini_a, iniL_n, iniL_0, iniL_e, sSeq_a, sSet_a, sPar_a, dNil_a, dCons_a, setAll_n, setAll_c, sIf_a, sRet_a, sExpr_a, sNext_a, sBreak_a, sCont_a, mC_a, mVar_a, mMove_a, fz_a, m1_a, m2_a, tst_a, tNot_a, tAnd_a, tOr_a, tYes_a, mAnd_a, mOr_a, mIf_a, mChain_a, mCall_a, mCallL_a, lNil_a, lCons_a, lLend_a, res_e, res_v, res_s, slot_0, slot_s, put_a, peek_a, lstAt_a, get_v, get_o, get_b, aNil_a, aCons_a, aStar_a, mTup_a, mLst_a, mB_a, mIxS_a, mLenS_a, mIsi_a, pNone_a, pSome_a, mSl_a, sFor_a, forL_n, forL_c, whN_s, gN_a, gT_a, gsC_a, gsN_a, sAsg_a, iSeq_a, sApp_a, sSetIx_a, mLc_a, lcL_n, lcL_c, wipe_n, wipe_c, rest_n, rest_c, allVal_n, allVal_c, mRev_a, mLRg_a, mLRg2_a, lt_int, le_int, gt_int, ge_int, sub_int, add_int, mod_int, fdiv_int, pow_int', mul_ok, eq_int, ne_int, neg_int, not_bl, abs_int, int_int, int_bl, max_2, min_2, max_3, min_3, len_l, len_t, len_s, lenB_l, lenB_t, lenB_s, ix_l, ix_t, ix_s, ixV_a, at_a, tuple_l, tuple_t, list_l, list_t, sum_l, all_l, any_l, isi_int, isi_bool, isi_tup, ix_fr0, ix_fr1, mul_l, cat_l, cat_t, sl_l, sl_t, sl_s, line, L2.ixN, cutL, intsOf, pw1, pw2, pw3, m3, m4, m5, k1, k2, hM0, sl_s, HT.sIx] at k1 k2 m3 m4 m5 ⊢
    simp [k1, k2, m3, m4, m5, kSeq_1, kSeq_2, kSeq_3, kSeq_4, kSet_1, kNx_1, kPar_1, kd2_1, kd1_1, kIf_1, kIf_2, kRt_1, kEx_1, kVar_1, kVar_2, kMov_1, kMov_2, kfz_1, kfz_2, kc_1, k1_1, k2b_1, k2a_1, kt_1, kn_1, kAnd_1, kAnd_2, kOr_1, kOr_2, kmA_1, kmA_2, kmO_1, kmO_2, kmI_1, kmI_2, kh4_1, kh3_1, kh3_2, kh2_1, kh1_1, kcb_1, kca_1, kL5_1, kL4_1, kL3_1, kL2_1, kL1_1, kl2_1, kl1_1, kl3_1, kr_1, krs_1, krs_2, kput_1, kput_2, kpk_1, klst_1, klst_2, kbor_1, ka2_1, ka1_1, ktup_1, kls_1, kB_1, kx3_1, kx2_1, kx1_1, kx4_1, kis2_1, kis_1, kp_1, ks3_1, ks2_1, ks1_1, kF_1, kF2_1, kF2_2, kF2_3, kF2_4, kF1_1, kW2_1, kW2_2, kW2_3, kW2_4, kW_1, kW_2, kg_1, ksa_1, ki_1, ki_2, ki_3, kap2_1, kap_1, ksx4_1, ksx3_1, ksx2_1, ksx1_1, kat_1, ko_1, kfin_1, kfin_2, klc2_1, klc_1, kC4_1, kC3_1, kC2_1, kC2_2, kC1_1, ksum_1, kst2_1, kst_1, kst_2, kRev_1, kRev_2, krg_1, krg2_1, krg1_1, kav_1, kav_2, krc_1, runFn_a, out_n, out_s, ini_a, iniL_n, iniL_0, iniL_e, sSeq_a, sSet_a, sPar_a, dNil_a, dCons_a, setAll_n, setAll_c, sIf_a, sRet_a, sExpr_a, sNext_a, sBreak_a, sCont_a, mC_a, mVar_a, mMove_a, fz_a, m1_a, m2_a, tst_a, tNot_a, tAnd_a, tOr_a, tYes_a, mAnd_a, mOr_a, mIf_a, mChain_a, mCall_a, mCallL_a, lNil_a, lCons_a, lLend_a, res_e, res_v, res_s, slot_0, slot_s, put_a, peek_a, lstAt_a, get_v, get_o, get_b, aNil_a, aCons_a, aStar_a, mTup_a, mLst_a, mB_a, mIxS_a, mLenS_a, mIsi_a, pNone_a, pSome_a, mSl_a, sFor_a, forL_n, forL_c, whN_s, gN_a, gT_a, gsC_a, gsN_a, sAsg_a, iSeq_a, sApp_a, sSetIx_a, mLc_a, lcL_n, lcL_c, wipe_n, wipe_c, rest_n, rest_c, allVal_n, allVal_c, mRev_a, mLRg_a, mLRg2_a, lt_int, le_int, gt_int, ge_int, sub_int, add_int, mod_int, fdiv_int, pow_int', mul_ok, eq_int, ne_int, neg_int, not_bl, abs_int, int_int, int_bl, max_2, min_2, max_3, min_3, len_l, len_t, len_s, lenB_l, lenB_t, lenB_s, ix_l, ix_t, ix_s, ixV_a, at_a, tuple_l, tuple_t, list_l, list_t, sum_l, all_l, any_l, isi_int, isi_bool, isi_tup, ix_fr0, ix_fr1, mul_l, cat_l, cat_t, sl_l, sl_t, sl_s, line, L2.ixN, hM0, pw1, pw2, pw3]
theorem law_cells_ok (ns : List Int) (k : Nat) (hk : 0 < k) (hl : ns.length < 100) : c__law_cells [.scr ns, .int k] = some (.own (.lst (rangeD 0 (max 1 (min k ns.length)))), .non) := by
  have e : max (1 : Int) (min (k : Int) ns.length) = ((max 1 (min k ns.length) : Nat) : Int) := by omega
  have h1 : max (1 : Int) (min (k : Int) ns.length) ≤ 16777216 := by omega
  have h2 : 0 ≤ max (1 : Int) (min (k : Int) ns.length) := by omega
  simp only [c__law_cells, cb__law_cells, kSeq_1, kSeq_2, kSeq_3, kSeq_4, kSet_1, kNx_1, kPar_1, kd2_1, kd1_1, kIf_1, kIf_2, kRt_1, kEx_1, kVar_1, kVar_2, kMov_1, kMov_2, kfz_1, kfz_2, kc_1, k1_1, k2b_1, k2a_1, kt_1, kn_1, kAnd_1, kAnd_2, kOr_1, kOr_2, kmA_1, kmA_2, kmO_1, kmO_2, kmI_1, kmI_2, kh4_1, kh3_1, kh3_2, kh2_1, kh1_1, kcb_1, kca_1, kL5_1, kL4_1, kL3_1, kL2_1, kL1_1, kl2_1, kl1_1, kl3_1, kr_1, krs_1, krs_2, kput_1, kput_2, kpk_1, klst_1, klst_2, kbor_1, ka2_1, ka1_1, ktup_1, kls_1, kB_1, kx3_1, kx2_1, kx1_1, kx4_1, kis2_1, kis_1, kp_1, ks3_1, ks2_1, ks1_1, kF_1, kF2_1, kF2_2, kF2_3, kF2_4, kF1_1, kW2_1, kW2_2, kW2_3, kW2_4, kW_1, kW_2, kg_1, ksa_1, ki_1, ki_2, ki_3, kap2_1, kap_1, ksx4_1, ksx3_1, ksx2_1, ksx1_1, kat_1, ko_1, kfin_1, kfin_2, klc2_1, klc_1, kC4_1, kC3_1, kC2_1, kC2_2, kC1_1, ksum_1, kst2_1, kst_1, kst_2, kRev_1, kRev_2, krg_1, krg2_1, krg1_1, kav_1, kav_2, krc_1, runFn_a, out_n, out_s, ini_a, iniL_n, iniL_0, iniL_e, sSeq_a, sSet_a, sPar_a, dNil_a, dCons_a, setAll_n, setAll_c, sIf_a, sRet_a, sExpr_a, sNext_a, sBreak_a, sCont_a, mC_a, mVar_a, mMove_a, fz_a, m1_a, m2_a, tst_a, tNot_a, tAnd_a, tOr_a, tYes_a, mAnd_a, mOr_a, mIf_a, mChain_a, mCall_a, mCallL_a, lNil_a, lCons_a, lLend_a, res_e, res_v, res_s, slot_0, slot_s, put_a, peek_a, lstAt_a, get_v, get_o, get_b, aNil_a, aCons_a, aStar_a, mTup_a, mLst_a, mB_a, mIxS_a, mLenS_a, mIsi_a, pNone_a, pSome_a, mSl_a, sFor_a, forL_n, forL_c, whN_s, gN_a, gT_a, gsC_a, gsN_a, sAsg_a, iSeq_a, sApp_a, sSetIx_a, mLc_a, lcL_n, lcL_c, wipe_n, wipe_c, rest_n, rest_c, allVal_n, allVal_c, mRev_a, mLRg_a, mLRg2_a, lt_int, le_int, gt_int, ge_int, sub_int, add_int, mod_int, fdiv_int, pow_int', mul_ok, eq_int, ne_int, neg_int, not_bl, abs_int, int_int, int_bl, max_2, min_2, max_3, min_3, len_l, len_t, len_s, lenB_l, lenB_t, lenB_s, ix_l, ix_t, ix_s, ixV_a, at_a, tuple_l, tuple_t, list_l, list_t, sum_l, all_l, any_l, isi_int, isi_bool, isi_tup, ix_fr0, ix_fr1, mul_l, cat_l, cat_t, sl_l, sl_t, sl_s, line, L2.ixN, List.length_cons, List.length_nil, List.replicate, List.append_nil, List.cons_append, List.nil_append, Nat.reduceAdd, Nat.reduceSub, List.getElem?_cons_succ, List.getElem?_cons_zero, Nat.sub_self]
  rw [if_pos ⟨h1, h2⟩]
  simp only [kSeq_1, kSeq_2, kSeq_3, kSeq_4, kSet_1, kNx_1, kPar_1, kd2_1, kd1_1, kIf_1, kIf_2, kRt_1, kEx_1, kVar_1, kVar_2, kMov_1, kMov_2, kfz_1, kfz_2, kc_1, k1_1, k2b_1, k2a_1, kt_1, kn_1, kAnd_1, kAnd_2, kOr_1, kOr_2, kmA_1, kmA_2, kmO_1, kmO_2, kmI_1, kmI_2, kh4_1, kh3_1, kh3_2, kh2_1, kh1_1, kcb_1, kca_1, kL5_1, kL4_1, kL3_1, kL2_1, kL1_1, kl2_1, kl1_1, kl3_1, kr_1, krs_1, krs_2, kput_1, kput_2, kpk_1, klst_1, klst_2, kbor_1, ka2_1, ka1_1, ktup_1, kls_1, kB_1, kx3_1, kx2_1, kx1_1, kx4_1, kis2_1, kis_1, kp_1, ks3_1, ks2_1, ks1_1, kF_1, kF2_1, kF2_2, kF2_3, kF2_4, kF1_1, kW2_1, kW2_2, kW2_3, kW2_4, kW_1, kW_2, kg_1, ksa_1, ki_1, ki_2, ki_3, kap2_1, kap_1, ksx4_1, ksx3_1, ksx2_1, ksx1_1, kat_1, ko_1, kfin_1, kfin_2, klc2_1, klc_1, kC4_1, kC3_1, kC2_1, kC2_2, kC1_1, ksum_1, kst2_1, kst_1, kst_2, kRev_1, kRev_2, krg_1, krg2_1, krg1_1, kav_1, kav_2, krc_1, runFn_a, out_n, out_s, ini_a, iniL_n, iniL_0, iniL_e, sSeq_a, sSet_a, sPar_a, dNil_a, dCons_a, setAll_n, setAll_c, sIf_a, sRet_a, sExpr_a, sNext_a, sBreak_a, sCont_a, mC_a, mVar_a, mMove_a, fz_a, m1_a, m2_a, tst_a, tNot_a, tAnd_a, tOr_a, tYes_a, mAnd_a, mOr_a, mIf_a, mChain_a, mCall_a, mCallL_a, lNil_a, lCons_a, lLend_a, res_e, res_v, res_s, slot_0, slot_s, put_a, peek_a, lstAt_a, get_v, get_o, get_b, aNil_a, aCons_a, aStar_a, mTup_a, mLst_a, mB_a, mIxS_a, mLenS_a, mIsi_a, pNone_a, pSome_a, mSl_a, sFor_a, forL_n, forL_c, whN_s, gN_a, gT_a, gsC_a, gsN_a, sAsg_a, iSeq_a, sApp_a, sSetIx_a, mLc_a, lcL_n, lcL_c, wipe_n, wipe_c, rest_n, rest_c, allVal_n, allVal_c, mRev_a, mLRg_a, mLRg2_a, lt_int, le_int, gt_int, ge_int, sub_int, add_int, mod_int, fdiv_int, pow_int', mul_ok, eq_int, ne_int, neg_int, not_bl, abs_int, int_int, int_bl, max_2, min_2, max_3, min_3, len_l, len_t, len_s, lenB_l, lenB_t, lenB_s, ix_l, ix_t, ix_s, ixV_a, at_a, tuple_l, tuple_t, list_l, list_t, sum_l, all_l, any_l, isi_int, isi_bool, isi_tup, ix_fr0, ix_fr1, mul_l, cat_l, cat_t, sl_l, sl_t, sl_s, line, L2.ixN, e]
  unfold intsFT rangeD
  congr 5
end
end Cb

set_option Elab.async false
set_option linter.all false
set_option maxRecDepth 100000
set_option maxHeartbeats 4000000
/-! The walk, printed by gen.py: each def's mirror, and that it does what the mirror says. -/
namespace Wk61
open PySem PySem.Spec PyProof.Rows L2 He Cb
abbrev prog : Program := PySem.Challenge.pw_caughtbefore_k61_whole_fresh_draws_mirro
structure Txt (K : PySem.W.Frag) (mg : Str → Option Value) : Prop where
  b_abs : mg "abs" = none
  b_all : mg "all" = none
  b_bool : mg "bool" = none
  b_int : mg "int" = none
  b_isinstance : mg "isinstance" = none
  b_len : mg "len" = none
  b_list : mg "list" = none
  b_max : mg "max" = none
  b_min : mg "min" = none
  b_range : mg "range" = none
  b_sum : mg "sum" = none
  b_tuple : mg "tuple" = none
  c_MOST_FRESH : Glc K mg "MOST_FRESH" (.int 400)
  c_MOST_LOW : Glc K mg "MOST_LOW" (.int 1000)
  c_MOST_SIZE_fractions : Glc K mg "MOST_SIZE_fractions" (.int 10000000000000000000000000000000000000000)
  c_MOST_SIZE_histories : Glc K mg "MOST_SIZE_histories" (.int 200)
  c_MOST_THERE : Glc K mg "MOST_THERE" (.int 1000)
  c_ONE_WHOLE : Glc K mg "ONE_WHOLE" (.tup [(.int 1), (.int 1)])
  c_PAIR : Glc K mg "PAIR" (.int 2)

noncomputable section
variable {P : Program} {w : World} {K : PySem.W.Frag} {mg : Str → Option Value} {base : Heap}
/-! _law_cells -/
abbrev s__law_cells : Stmt := topAt prog 44
abbrev N__law_cells : List Str := ["script", "limit"]
def b__law_cells : MS :=
  (sRet (mLRg (mB dMax (aCons (mC (.int 1)) (aCons (mB dMin (aCons (mVar 1) (aCons (mLenS 0) aNil))) aNil)))))
def f__law_cells : List D → Option (DV × D) := runFn none N__law_cells.length b__law_cells
theorem sc__law_cells : FnScope N__law_cells ["script", "limit"] (defScope s__law_cells) := ⟨rfl, rfl, rfl, by decide +kernel, rfl, by decide +kernel, by decide +kernel⟩
theorem d__law_cells (T : Txt K mg) (S : Src K mg "_law_cells" s__law_cells)  : Def P w K mg base "_law_cells" 1 none 2 f__law_cells :=
  S.def_ (io := none) (N := N__law_cells) (m := b__law_cells) sc__law_cells rfl (fun _ _ _ _ _ _ us hl => match us, hl with | [_, _], _ => rfl) fun f cdv A outer s H E hr => by
    have nd := sc__law_cells.nd
    exact (ss_one (sm_ret (em_lrg rfl rfl T.b_list rfl T.b_range (em_callB (call_maxA rfl) cs_max rfl T.b_max bt_max (am_cons em_int (am_cons (em_callB (call_minA rfl) cs_min rfl T.b_min bt_min (am_cons (em_var (pv 1)) (am_cons (em_lenS rfl T.b_len bt_len (pv 0)) am_nil))) am_nil))))))

/-! _law_pot -/
abbrev s__law_pot : Stmt := topAt prog 41
abbrev N__law_pot : List Str := ["script", "place", "cell", "own", "small"]
def b__law_pot : MS :=
  (sSeq (sSet 2 (mIf (tst (m2 dLt (mVar 1) (mLenS 0))) (mIxS 0 (mVar 1)) (m2 dAdd (m2 dAdd (m2 dMod (mB dInt (aCons (mB dSum (aCons (mSl (mVar 0) pNone (pSome (mC (.int 1)))) aNil)) aNil)) (mC (.int 1000003))) (m2 dMul (mC (.int 9331)) (mVar 1))) (mC (.int 20819)))))
    (sSeq (sSet 3 (m2 dMul (m2 dMod (mB dInt (aCons (mB dAbs (aCons (mVar 2) aNil)) aNil)) (m2 dPow (m2 dPow (mC (.int 10)) (mC (.int 60))) (mC (.int 5)))) (mB dInt (aCons (m2 dGe (mB dAbs (aCons (mVar 2) aNil)) (m2 dPow (mC (.int 10)) (mC (.int 18)))) aNil))))
    (sSeq (sSet 4 (m2 dMod (mB dInt (aCons (mVar 2) aNil)) (mC (.int 2305843009213693951))))
    (sRet (mLst (aCons (mVar 3) (aCons (m2 dMod (mB dInt (aCons (m2 dAdd (m2 dAdd (m2 dMul (mVar 4) (mC (.int 164305))) (m2 dMul (m2 dMul (mC (.int 23563)) (mVar 1)) (mVar 1))) (mC (.int 7287))) aNil)) (mC (.int 2305843009213693921))) (aCons (mC (.int 0)) aNil))))))))
def f__law_pot : List D → Option (DV × D) := runFn none N__law_pot.length b__law_pot
theorem sc__law_pot : FnScope N__law_pot ["script", "place"] (defScope s__law_pot) := ⟨rfl, rfl, rfl, by decide +kernel, rfl, by decide +kernel, by decide +kernel⟩
theorem d__law_pot (T : Txt K mg) (S : Src K mg "_law_pot" s__law_pot)  : Def P w K mg base "_law_pot" 1 none 2 f__law_pot :=
  S.def_ (io := none) (N := N__law_pot) (m := b__law_pot) sc__law_pot rfl (fun _ _ _ _ _ _ us hl => match us, hl with | [_, _], _ => rfl) fun f cdv A outer s H E hr => by
    have nd := sc__law_pot.nd
    exact (ss_cons (sm_set (i := 2) nd rfl (Or.inl rfl) (em_if (et_cmp op_lt os_lt (em_var (pv 1)) (em_lenS rfl T.b_len bt_len (pv 0)) (nomark _)) (em_ixS (pv 0) (em_var (pv 1))) (em_op op_addA os_add (em_op op_addA os_add (em_op op_modN os_mod (em_callTy call_int1 cs_int rfl T.b_int bt_int (am_cons (em_callB (cr_sum rfl) cs_sum rfl T.b_sum bt_sum (am_cons (em_slice (em_var (pv 0)) pm_none (pm_some em_int)) am_nil)) am_nil)) em_int) (em_op op_mulA os_mul em_int (em_var (pv 1)))) em_int)))
    (ss_cons (sm_set (i := 3) nd rfl (Or.inl rfl) (em_op op_mulA os_mul (em_op op_modN os_mod (em_callTy call_int1 cs_int rfl T.b_int bt_int (am_cons (em_callB call_abs cs_abs rfl T.b_abs bt_abs (am_cons (em_var (pv 2)) am_nil)) am_nil)) (em_op op_powA os_pow (em_op op_powA os_pow em_int em_int) em_int)) (em_callTy call_int1 cs_int rfl T.b_int bt_int (am_cons (em_cmp op_ge os_ge (em_callB call_abs cs_abs rfl T.b_abs bt_abs (am_cons (em_var (pv 2)) am_nil)) (em_op op_powA os_pow em_int em_int) (nomark _)) am_nil))))
    (ss_cons (sm_set (i := 4) nd rfl (Or.inl rfl) (em_op op_modN os_mod (em_callTy call_int1 cs_int rfl T.b_int bt_int (am_cons (em_var (pv 2)) am_nil)) em_int))
    (ss_one (sm_ret (em_lst (am_cons (em_var (pv 3)) (am_cons (em_op op_modN os_mod (em_callTy call_int1 cs_int rfl T.b_int bt_int (am_cons (em_op op_addA os_add (em_op op_addA os_add (em_op op_mulA os_mul (em_var (pv 4)) em_int) (em_op op_mulA os_mul (em_op op_mulA os_mul em_int (em_var (pv 1))) (em_var (pv 1)))) em_int) am_nil)) em_int) (am_cons em_int am_nil)))))))))

/-! _law_gcd -/
abbrev s__law_gcd : Stmt := topAt prog 45
abbrev N__law_gcd : List Str := ["one", "other", "lap"]
def b__law_gcd : MS :=
  (sSeq (sFor (iRng (aCons (m2 dPow (mC (.int 10)) (mC (.int 6))) aNil)) (gN 2) (sSeq (sIf (tst (m2 dEq (mVar 1) (mC (.int 0)))) sBreak sNext)
    (sPar [0, 1] (dCons (mVar 1) (dCons (m2 dMod (mVar 0) (mVar 1)) dNil)))))
    (sRet (mB dAbs (aCons (mVar 0) aNil))))
def f__law_gcd : List D → Option (DV × D) := runFn none N__law_gcd.length b__law_gcd
theorem sc__law_gcd : FnScope N__law_gcd ["one", "other"] (defScope s__law_gcd) := ⟨rfl, rfl, rfl, by decide +kernel, rfl, by decide +kernel, by decide +kernel⟩
theorem d__law_gcd (T : Txt K mg) (S : Src K mg "_law_gcd" s__law_gcd)  : Def P w K mg base "_law_gcd" 1 none 2 f__law_gcd :=
  S.def_ (io := none) (N := N__law_gcd) (m := b__law_gcd) sc__law_gcd rfl (fun _ _ _ _ _ _ us hl => match us, hl with | [_, _], _ => rfl) fun f cdv A outer s H E hr => by
    have nd := sc__law_gcd.nd
    exact (ss_cons (sm_for PassesOwn.never rfl (im_range1 rfl T.b_range (am_cons (em_op op_powA os_pow em_int em_int) am_nil) (aLen_cons aLen_nil)) (gm_name (i := 2) nd rfl (Or.inl rfl)) (ss_cons (sm_if (et_cmp (op_eqD hr.units) os_eq (em_var (pv 1)) em_int (nomark _)) (ss_one sm_break) ss_nil)
    (ss_one (sm_par (i := 0) (j := 1) rfl nd rfl rfl (by decide) rfl rfl (ad_cons (em_var (pv 1)) (ad_cons (em_op op_modN os_mod (em_var (pv 0)) (em_var (pv 1))) ad_nil)) (by rfl)))))
    (ss_one (sm_ret (em_callB call_abs cs_abs rfl T.b_abs bt_abs (am_cons (em_var (pv 0)) am_nil)))))

/-! _law_ratio -/
abbrev s__law_ratio : Stmt := topAt prog 46
abbrev N__law_ratio : List Str := ["top", "low", "share"]
def b__law_ratio : MS :=
  (sSeq (sSet 2 (m2 dMul (mCall f__law_gcd (aCons (mVar 0) (aCons (mVar 1) aNil))) (mIf (tst (m2 dGt (mVar 1) (mC (.int 0)))) (mC (.int 1)) (m1 dNeg (mC (.int 1))))))
    (sRet (mTup (aCons (m2 dFdiv (mVar 0) (mVar 2)) (aCons (m2 dFdiv (mVar 1) (mVar 2)) aNil)))))
def f__law_ratio : List D → Option (DV × D) := runFn none N__law_ratio.length b__law_ratio
theorem sc__law_ratio : FnScope N__law_ratio ["top", "low"] (defScope s__law_ratio) := ⟨rfl, rfl, rfl, by decide +kernel, rfl, by decide +kernel, by decide +kernel⟩
theorem d__law_ratio (T : Txt K mg) (S : Src K mg "_law_ratio" s__law_ratio) (h__law_gcd : Def P w K mg base "_law_gcd" 1 none 2 f__law_gcd) : Def P w K mg base "_law_ratio" 2 none 2 f__law_ratio :=
  S.def_ (io := none) (N := N__law_ratio) (m := b__law_ratio) sc__law_ratio rfl (fun _ _ _ _ _ _ us hl => match us, hl with | [_, _], _ => rfl) fun f cdv A outer s H E hr => by
    have nd := sc__law_ratio.nd
    exact (ss_cons (sm_set (i := 2) nd rfl (Or.inl rfl) (em_op op_mulA os_mul (em_call (h__law_gcd.fk hr) rfl (am_cons (em_var (pv 0)) (am_cons (em_var (pv 1)) am_nil)) (aLen_cons (aLen_cons aLen_nil))) (em_if (et_cmp op_gt os_gt (em_var (pv 1)) em_int (nomark _)) em_int (em_neg em_int))))
    (ss_one (sm_ret (em_tup (am_cons (em_op op_fdivA os_fdiv (em_var (pv 0)) (em_var (pv 2))) (am_cons (em_op op_fdivA os_fdiv (em_var (pv 1)) (em_var (pv 2))) am_nil))))))

/-! _law_plus -/
abbrev s__law_plus : Stmt := topAt prog 47
abbrev N__law_plus : List Str := ["one", "other"]
def b__law_plus : MS :=
  (sRet (mCall f__law_ratio (aCons (m2 dAdd (m2 dMul (mIxS 0 (mC (.int 0))) (mIxS 1 (mC (.int 1)))) (m2 dMul (mIxS 1 (mC (.int 0))) (mIxS 0 (mC (.int 1))))) (aCons (m2 dMul (mIxS 0 (mC (.int 1))) (mIxS 1 (mC (.int 1)))) aNil))))
def f__law_plus : List D → Option (DV × D) := runFn none N__law_plus.length b__law_plus
theorem sc__law_plus : FnScope N__law_plus ["one", "other"] (defScope s__law_plus) := ⟨rfl, rfl, rfl, by decide +kernel, rfl, by decide +kernel, by decide +kernel⟩
theorem d__law_plus (T : Txt K mg) (S : Src K mg "_law_plus" s__law_plus) (h__law_ratio : Def P w K mg base "_law_ratio" 2 none 2 f__law_ratio) : Def P w K mg base "_law_plus" 3 none 2 f__law_plus :=
  S.def_ (io := none) (N := N__law_plus) (m := b__law_plus) sc__law_plus rfl (fun _ _ _ _ _ _ us hl => match us, hl with | [_, _], _ => rfl) fun f cdv A outer s H E hr => by
    have nd := sc__law_plus.nd
    exact (ss_one (sm_ret (em_call (h__law_ratio.fk hr) rfl (am_cons (em_op op_addA os_add (em_op op_mulA os_mul (em_ixS (pv 0) em_int) (em_ixS (pv 1) em_int)) (em_op op_mulA os_mul (em_ixS (pv 1) em_int) (em_ixS (pv 0) em_int))) (am_cons (em_op op_mulA os_mul (em_ixS (pv 0) em_int) (em_ixS (pv 1) em_int)) am_nil)) (aLen_cons (aLen_cons aLen_nil)))))

/-! is_whole -/
abbrev s_is_whole : Stmt := topAt prog 2
abbrev N_is_whole : List Str := ["value"]
def b_is_whole : MS :=
  (sRet (mAnd (mIsi "int" (mVar 0)) (m1 dNot (mIsi "bool" (mVar 0)))))
def f_is_whole : List D → Option (DV × D) := runFn none N_is_whole.length b_is_whole
theorem sc_is_whole : FnScope N_is_whole ["value"] (defScope s_is_whole) := ⟨rfl, rfl, rfl, by decide +kernel, rfl, by decide +kernel, by decide +kernel⟩
theorem d_is_whole (T : Txt K mg) (S : Src K mg "is_whole" s_is_whole)  : Def P w K mg base "is_whole" 1 none 1 f_is_whole :=
  S.def_ (io := none) (N := N_is_whole) (m := b_is_whole) sc_is_whole rfl (fun _ _ _ _ _ _ us hl => match us, hl with | [_], _ => rfl) fun f cdv A outer s H E hr => by
    have nd := sc_is_whole.nd
    exact (ss_one (sm_ret (em_and (em_isi (em_var (pv 0)) rfl T.b_isinstance bt_isinstance rfl T.b_int bt_int) (em_one (em_not (em_isi (em_var (pv 0)) rfl T.b_isinstance bt_isinstance rfl T.b_bool bt_bool))))))

/-! is_integer -/
abbrev s_is_integer : Stmt := topAt prog 3
abbrev N_is_integer : List Str := ["value", "low", "high"]
def b_is_integer : MS :=
  (sRet (mAnd (mCall f_is_whole (aCons (mVar 0) aNil)) (mChain dLe dLe (mVar 1) (mVar 0) (mVar 2))))
def f_is_integer : List D → Option (DV × D) := runFn none N_is_integer.length b_is_integer
theorem sc_is_integer : FnScope N_is_integer ["value", "low", "high"] (defScope s_is_integer) := ⟨rfl, rfl, rfl, by decide +kernel, rfl, by decide +kernel, by decide +kernel⟩
theorem d_is_integer (T : Txt K mg) (S : Src K mg "is_integer" s_is_integer) (h_is_whole : Def P w K mg base "is_whole" 1 none 1 f_is_whole) : Def P w K mg base "is_integer" 2 none 3 f_is_integer :=
  S.def_ (io := none) (N := N_is_integer) (m := b_is_integer) sc_is_integer rfl (fun _ _ _ _ _ _ us hl => match us, hl with | [_, _, _], _ => rfl) fun f cdv A outer s H E hr => by
    have nd := sc_is_integer.nd
    exact (ss_one (sm_ret (em_and (em_call (h_is_whole.fk hr) rfl (am_cons (em_var (pv 0)) am_nil) (aLen_cons aLen_nil)) (em_one (em_chain op_le op_le os_le os_le (em_var (pv 1)) (em_var (pv 0)) (em_var (pv 2)))))))

/-! check_fresh -/
abbrev s_check_fresh : Stmt := topAt prog 27
abbrev N_check_fresh : List Str := ["fresh", "new"]
def b_check_fresh : MS :=
  (sSeq (sIf (tNotm (tst (mCall f_is_integer (aCons (mVar 0) (aCons (mC (.int 1)) (aCons (mC (.int 400)) aNil)))))) sNever sNext)
    (sIf (tNotm (tst (mCall f_is_integer (aCons (mVar 1) (aCons (mC (.int 0)) (aCons (mVar 0) aNil)))))) sNever sNext))
def f_check_fresh : List D → Option (DV × D) := runFn none N_check_fresh.length b_check_fresh
theorem sc_check_fresh : FnScope N_check_fresh ["fresh", "new"] (defScope s_check_fresh) := ⟨rfl, rfl, rfl, by decide +kernel, rfl, by decide +kernel, by decide +kernel⟩
theorem d_check_fresh (T : Txt K mg) (S : Src K mg "check_fresh" s_check_fresh) (h_is_integer : Def P w K mg base "is_integer" 2 none 3 f_is_integer) : Def P w K mg base "check_fresh" 3 none 2 f_check_fresh :=
  S.def_ (io := none) (N := N_check_fresh) (m := b_check_fresh) sc_check_fresh rfl (fun _ _ _ _ _ _ us hl => match us, hl with | [_, _], _ => rfl) fun f cdv A outer s H E hr => by
    have nd := sc_check_fresh.nd
    exact (ss_cons (sm_if (et_not (et_val (em_call (h_is_integer.fk hr) rfl (am_cons (em_var (pv 0)) (am_cons em_int (am_cons (em_glob rfl T.c_MOST_FRESH) am_nil))) (aLen_cons (aLen_cons (aLen_cons aLen_nil)))))) ss_never ss_nil)
    (ss_one (sm_if (et_not (et_val (em_call (h_is_integer.fk hr) rfl (am_cons (em_var (pv 1)) (am_cons em_int (am_cons (em_var (pv 0)) am_nil))) (aLen_cons (aLen_cons (aLen_cons aLen_nil)))))) ss_never ss_nil)))

/-! common_of -/
abbrev s_common_of : Stmt := topAt prog 12
abbrev N_common_of : List Str := ["one", "other"]
def b_common_of : MS :=
  (sSeq (sWhile (tst (m2 dNe (mVar 1) (mC (.int 0)))) (sPar [0, 1] (dCons (mVar 1) (dCons (m2 dMod (mVar 0) (mVar 1)) dNil))))
    (sRet (mB dAbs (aCons (mVar 0) aNil))))
def f_common_of : List D → Option (DV × D) := runFn none N_common_of.length b_common_of
theorem sc_common_of : FnScope N_common_of ["one", "other"] (defScope s_common_of) := ⟨rfl, rfl, rfl, by decide +kernel, rfl, by decide +kernel, by decide +kernel⟩
theorem d_common_of (T : Txt K mg) (S : Src K mg "common_of" s_common_of)  : Def P w K mg base "common_of" 1 none 2 f_common_of :=
  S.def_ (io := none) (N := N_common_of) (m := b_common_of) sc_common_of rfl (fun _ _ _ _ _ _ us hl => match us, hl with | [_, _], _ => rfl) fun f cdv A outer s H E hr => by
    have nd := sc_common_of.nd
    exact (ss_cons (sm_while PassesOwn.never (et_cmp (op_neD hr.units) os_ne (em_var (pv 1)) em_int (nomark _)) (ss_one (sm_par (i := 0) (j := 1) rfl nd rfl rfl (by decide) rfl rfl (ad_cons (em_var (pv 1)) (ad_cons (em_op op_modN os_mod (em_var (pv 0)) (em_var (pv 1))) ad_nil)) (by rfl))))
    (ss_one (sm_ret (em_callB call_abs cs_abs rfl T.b_abs bt_abs (am_cons (em_var (pv 0)) am_nil)))))

/-! ratio_of -/
abbrev s_ratio_of : Stmt := topAt prog 17
abbrev N_ratio_of : List Str := ["top", "low", "share"]
def b_ratio_of : MS :=
  (sSeq (sSet 2 (mCall f_common_of (aCons (mVar 0) (aCons (mVar 1) aNil))))
    (sSeq (sIf (tst (m2 dLt (mVar 1) (mC (.int 0)))) (sSet 2 (m1 dNeg (mVar 2))) sNext)
    (sRet (mTup (aCons (m2 dFdiv (mVar 0) (mVar 2)) (aCons (m2 dFdiv (mVar 1) (mVar 2)) aNil))))))
def f_ratio_of : List D → Option (DV × D) := runFn none N_ratio_of.length b_ratio_of
theorem sc_ratio_of : FnScope N_ratio_of ["top", "low"] (defScope s_ratio_of) := ⟨rfl, rfl, rfl, by decide +kernel, rfl, by decide +kernel, by decide +kernel⟩
theorem d_ratio_of (T : Txt K mg) (S : Src K mg "ratio_of" s_ratio_of) (h_common_of : Def P w K mg base "common_of" 1 none 2 f_common_of) : Def P w K mg base "ratio_of" 2 none 2 f_ratio_of :=
  S.def_ (io := none) (N := N_ratio_of) (m := b_ratio_of) sc_ratio_of rfl (fun _ _ _ _ _ _ us hl => match us, hl with | [_, _], _ => rfl) fun f cdv A outer s H E hr => by
    have nd := sc_ratio_of.nd
    exact (ss_cons (sm_set (i := 2) nd rfl (Or.inl rfl) (em_call (h_common_of.fk hr) rfl (am_cons (em_var (pv 0)) (am_cons (em_var (pv 1)) am_nil)) (aLen_cons (aLen_cons aLen_nil))))
    (ss_cons (sm_if (et_cmp op_lt os_lt (em_var (pv 1)) em_int (nomark _)) (ss_one (sm_set (i := 2) nd rfl (Or.inl rfl) (em_neg (em_var (pv 2))))) ss_nil)
    (ss_one (sm_ret (em_tup (am_cons (em_op op_fdivA os_fdiv (em_var (pv 0)) (em_var (pv 2))) (am_cons (em_op op_fdivA os_fdiv (em_var (pv 1)) (em_var (pv 2))) am_nil)))))))

/-! whole_power -/
abbrev s_whole_power : Stmt := topAt prog 13
abbrev N_whole_power : List Str := ["one", "many", "found", "lap"]
def b_whole_power : MS :=
  (sSeq (sSet 2 (mC (.int 1)))
    (sSeq (sFor (iRng (aCons (mVar 1) aNil)) (gN 3) (sSet 2 (m2 dMul (mVar 2) (mVar 0))))
    (sRet (mMove 2))))
def f_whole_power : List D → Option (DV × D) := runFn none N_whole_power.length b_whole_power
theorem sc_whole_power : FnScope N_whole_power ["one", "many"] (defScope s_whole_power) := ⟨rfl, rfl, rfl, by decide +kernel, rfl, by decide +kernel, by decide +kernel⟩
theorem d_whole_power (T : Txt K mg) (S : Src K mg "whole_power" s_whole_power)  : Def P w K mg base "whole_power" 1 none 2 f_whole_power :=
  S.def_ (io := none) (N := N_whole_power) (m := b_whole_power) sc_whole_power rfl (fun _ _ _ _ _ _ us hl => match us, hl with | [_, _], _ => rfl) fun f cdv A outer s H E hr => by
    have nd := sc_whole_power.nd
    exact (ss_cons (sm_set (i := 2) nd rfl (Or.inl rfl) em_int)
    (ss_cons (sm_for PassesOwn.never rfl (im_range1 rfl T.b_range (am_cons (em_var (pv 1)) am_nil) (aLen_cons aLen_nil)) (gm_name (i := 3) nd rfl (Or.inl rfl)) (ss_one (sm_set (i := 2) nd rfl (Or.inl rfl) (em_op op_mulA os_mul (em_var (pv 2)) (em_var (pv 0))))))
    (ss_one (sm_ret (em_move (pv 2))))))

/-! choose_of -/
abbrev s_choose_of : Stmt := topAt prog 19
abbrev N_choose_of : List Str := ["many", "some", "found", "at"]
def b_choose_of : MS :=
  (sSeq (sIf (tNotm (tst (mChain dLe dLe (mC (.int 0)) (mVar 1) (mVar 0)))) (sRet (mC (.int 0))) sNext)
    (sSeq (sSet 2 (mC (.int 1)))
    (sSeq (sFor (iRng (aCons (mB dMin (aCons (mVar 1) (aCons (m2 dSub (mVar 0) (mVar 1)) aNil))) aNil)) (gN 3) (sSet 2 (m2 dFdiv (m2 dMul (mVar 2) (m2 dSub (mVar 0) (mVar 3))) (m2 dAdd (mVar 3) (mC (.int 1))))))
    (sRet (mMove 2)))))
def f_choose_of : List D → Option (DV × D) := runFn none N_choose_of.length b_choose_of
theorem sc_choose_of : FnScope N_choose_of ["many", "some"] (defScope s_choose_of) := ⟨rfl, rfl, rfl, by decide +kernel, rfl, by decide +kernel, by decide +kernel⟩
theorem d_choose_of (T : Txt K mg) (S : Src K mg "choose_of" s_choose_of)  : Def P w K mg base "choose_of" 1 none 2 f_choose_of :=
  S.def_ (io := none) (N := N_choose_of) (m := b_choose_of) sc_choose_of rfl (fun _ _ _ _ _ _ us hl => match us, hl with | [_, _], _ => rfl) fun f cdv A outer s H E hr => by
    have nd := sc_choose_of.nd
    exact (ss_cons (sm_if (et_not (et_chain op_le op_le os_le os_le em_int (em_var (pv 1)) (em_var (pv 0)))) (ss_one (sm_ret em_int)) ss_nil)
    (ss_cons (sm_set (i := 2) nd rfl (Or.inl rfl) em_int)
    (ss_cons (sm_for PassesOwn.never rfl (im_range1 rfl T.b_range (am_cons (em_callB (call_minA rfl) cs_min rfl T.b_min bt_min (am_cons (em_var (pv 1)) (am_cons (em_op op_sub os_sub (em_var (pv 0)) (em_var (pv 1))) am_nil))) am_nil) (aLen_cons aLen_nil)) (gm_name (i := 3) nd rfl (Or.inl rfl)) (ss_one (sm_set (i := 2) nd rfl (Or.inl rfl) (em_op op_fdivA os_fdiv (em_op op_mulA os_mul (em_var (pv 2)) (em_op op_sub os_sub (em_var (pv 0)) (em_var (pv 3)))) (em_op op_addA os_add (em_var (pv 3)) em_int)))))
    (ss_one (sm_ret (em_move (pv 2)))))))

/-! new_from -/
abbrev s_new_from : Stmt := topAt prog 29
abbrev N_new_from : List Str := ["top", "low", "fresh", "new", "tops", "rests", "lap", "ways", "some"]
def b_new_from : MS :=
  (sSeq (sPar [4, 5] (dCons (mLst (aCons (mC (.int 1)) aNil)) (dCons (mLst (aCons (mC (.int 1)) aNil)) dNil)))
    (sSeq (sFor (iRng (aCons (mVar 2) aNil)) (gN 6) (sSeq (sApp 4 (m2 dMul (mIxS 4 (m1 dNeg (mC (.int 1)))) (mVar 0)))
    (sApp 5 (m2 dMul (mIxS 5 (m1 dNeg (mC (.int 1)))) (m2 dSub (mVar 1) (mVar 0))))))
    (sSeq (sSet 7 (mLc (iRng (aCons (mVar 3) (aCons (m2 dAdd (mVar 2) (mC (.int 1))) aNil))) (gN 8) tYesM (m2 dMul (m2 dMul (mCall f_choose_of (aCons (mVar 2) (aCons (mVar 8) aNil))) (mIxS 4 (mVar 8))) (mIxS 5 (m2 dSub (mVar 2) (mVar 8)))) [8]))
    (sRet (mCall f_ratio_of (aCons (mB dSum (aCons (mVar 7) aNil)) (aCons (mCall f_whole_power (aCons (mVar 1) (aCons (mVar 2) aNil))) aNil)))))))
def f_new_from : List D → Option (DV × D) := runFn none N_new_from.length b_new_from
theorem sc_new_from : FnScope N_new_from ["top", "low", "fresh", "new"] (defScope s_new_from) := ⟨rfl, rfl, rfl, by decide +kernel, rfl, by decide +kernel, by decide +kernel⟩
theorem d_new_from (T : Txt K mg) (S : Src K mg "new_from" s_new_from) (h_ratio_of : Def P w K mg base "ratio_of" 2 none 2 f_ratio_of) (h_whole_power : Def P w K mg base "whole_power" 1 none 2 f_whole_power) (h_choose_of : Def P w K mg base "choose_of" 1 none 2 f_choose_of) : Def P w K mg base "new_from" 3 none 4 f_new_from :=
  S.def_ (io := none) (N := N_new_from) (m := b_new_from) sc_new_from rfl (fun _ _ _ _ _ _ us hl => match us, hl with | [_, _, _, _], _ => rfl) fun f cdv A outer s H E hr => by
    have nd := sc_new_from.nd
    exact (ss_cons (sm_parT (is := [4, 5]) (ad_cons (em_lst (am_cons em_int am_nil)) (ad_cons (em_lst (am_cons em_int am_nil)) ad_nil)) (pg_tup rfl (pgs_cons (pg_name (i := 4) nd rfl (Or.inr rfl)) (pgs_cons (pg_name (i := 5) nd rfl (Or.inr rfl)) pgs_nil))))
    (ss_cons (sm_for PassesOwn.never rfl (im_range1 rfl T.b_range (am_cons (em_var (pv 2)) am_nil) (aLen_cons aLen_nil)) (gm_name (i := 6) nd rfl (Or.inl rfl)) (ss_cons (sm_append (pv 4) (em_op op_mulA os_mul (em_ixS (pv 4) (em_neg em_int)) (em_var (pv 0))) (fun to te ho he => pe_bm PySem.F.plainAttrs_list PySem.F.slot_list_append PySem.F.type_list_append mt_append ho (pa_cons he pa_nil)))
    (ss_one (sm_append (pv 5) (em_op op_mulA os_mul (em_ixS (pv 5) (em_neg em_int)) (em_op op_sub os_sub (em_var (pv 1)) (em_var (pv 0)))) (fun to te ho he => pe_bm PySem.F.plainAttrs_list PySem.F.slot_list_append PySem.F.type_list_append mt_append ho (pa_cons he pa_nil))))))
    (ss_cons (sm_setLc (i := 7) (own := [("some", 8)]) (by decide) rfl nd rfl rfl (sw_true rfl rfl rfl (by decide +kernel)) (im_range2 rfl T.b_range (am_cons (em_var (pv 3)) (am_cons (em_op op_addA os_add (em_var (pv 2)) em_int) am_nil)) (aLen_cons (aLen_cons aLen_nil))) (blkOk_by (N := N_new_from) (sc := defScope s_new_from) (own := [("some", 8)]) (by decide +kernel)) (fun _ _ _ _ _ => (gm_name (i := 8) nd rfl (Or.inl rfl))) (fun _ _ _ _ _ => tm_nil) (fun _ _ _ _ _ => (em_op op_mulA os_mul (em_op op_mulA os_mul (em_call (h_choose_of.fk hr) rfl (am_cons (em_var (pv 2)) (am_cons (em_var (pv 8)) am_nil)) (aLen_cons (aLen_cons aLen_nil))) (em_ixS (pv 4) (em_var (pv 8)))) (em_ixS (pv 5) (em_op op_sub os_sub (em_var (pv 2)) (em_var (pv 8)))))))
    (ss_one (sm_ret (em_call (h_ratio_of.fk hr) rfl (am_cons (em_callB (cr_sum rfl) cs_sum rfl T.b_sum bt_sum (am_cons (em_var (pv 7)) am_nil)) (am_cons (em_call (h_whole_power.fk hr) rfl (am_cons (em_var (pv 1)) (am_cons (em_var (pv 2)) am_nil)) (aLen_cons (aLen_cons aLen_nil))) am_nil)) (aLen_cons (aLen_cons aLen_nil))))))))

/-! is_tuple -/
abbrev s_is_tuple : Stmt := topAt prog 1
abbrev N_is_tuple : List Str := ["value", "least", "most"]
def b_is_tuple : MS :=
  (sRet (mAnd (mIsi "tuple" (mVar 0)) (mChain dLe dLe (mVar 1) (mLenS 0) (mVar 2))))
def f_is_tuple : List D → Option (DV × D) := runFn none N_is_tuple.length b_is_tuple
theorem sc_is_tuple : FnScope N_is_tuple ["value", "least", "most"] (defScope s_is_tuple) := ⟨rfl, rfl, rfl, by decide +kernel, rfl, by decide +kernel, by decide +kernel⟩
theorem d_is_tuple (T : Txt K mg) (S : Src K mg "is_tuple" s_is_tuple)  : Def P w K mg base "is_tuple" 1 none 3 f_is_tuple :=
  S.def_ (io := none) (N := N_is_tuple) (m := b_is_tuple) sc_is_tuple rfl (fun _ _ _ _ _ _ us hl => match us, hl with | [_, _, _], _ => rfl) fun f cdv A outer s H E hr => by
    have nd := sc_is_tuple.nd
    exact (ss_one (sm_ret (em_and (em_isi (em_var (pv 0)) rfl T.b_isinstance bt_isinstance rfl T.b_tuple bt_tuple) (em_one (em_chain op_le op_le os_le os_le (em_var (pv 1)) (em_lenS rfl T.b_len bt_len (pv 0)) (em_var (pv 2)))))))

/-! is_size -/
abbrev s_is_size : Stmt := topAt prog 14
abbrev N_is_size : List Str := ["value"]
def b_is_size : MS :=
  (sRet (mAnd (mCall f_is_whole (aCons (mVar 0) aNil)) (mChain dLt dLt (m1 dNeg (mC (.int 10000000000000000000000000000000000000000))) (mVar 0) (mC (.int 10000000000000000000000000000000000000000)))))
def f_is_size : List D → Option (DV × D) := runFn none N_is_size.length b_is_size
theorem sc_is_size : FnScope N_is_size ["value"] (defScope s_is_size) := ⟨rfl, rfl, rfl, by decide +kernel, rfl, by decide +kernel, by decide +kernel⟩
theorem d_is_size (T : Txt K mg) (S : Src K mg "is_size" s_is_size) (h_is_whole : Def P w K mg base "is_whole" 1 none 1 f_is_whole) : Def P w K mg base "is_size" 2 none 1 f_is_size :=
  S.def_ (io := none) (N := N_is_size) (m := b_is_size) sc_is_size rfl (fun _ _ _ _ _ _ us hl => match us, hl with | [_], _ => rfl) fun f cdv A outer s H E hr => by
    have nd := sc_is_size.nd
    exact (ss_one (sm_ret (em_and (em_call (h_is_whole.fk hr) rfl (am_cons (em_var (pv 0)) am_nil) (aLen_cons aLen_nil)) (em_one (em_chain op_lt op_lt os_lt os_lt (em_neg (em_glob rfl T.c_MOST_SIZE_fractions)) (em_var (pv 0)) (em_glob rfl T.c_MOST_SIZE_fractions))))))

/-! is_fraction -/
abbrev s_is_fraction : Stmt := topAt prog 15
abbrev N_is_fraction : List Str := ["value", "one"]
def b_is_fraction : MS :=
  (sSeq (sIf (tOrm (tNotm (tst (mCall f_is_tuple (aCons (mVar 0) (aCons (mC (.int 2)) (aCons (mC (.int 2)) aNil)))))) (tNotm (tst (mB dAll (aCons (mLc (iSeq (mVar 0)) (gN 1) tYesM (mCall f_is_size (aCons (mVar 1) aNil)) [1]) aNil))))) (sRet (mC (.bl false))) sNext)
    (sRet (mAnd (m2 dGt (mIxS 0 (mC (.int 1))) (mC (.int 0))) (m2 dEq (mCall f_common_of (aCons (mIxS 0 (mC (.int 0))) (aCons (mIxS 0 (mC (.int 1))) aNil))) (mC (.int 1))))))
def f_is_fraction : List D → Option (DV × D) := runFn none N_is_fraction.length b_is_fraction
theorem sc_is_fraction : FnScope N_is_fraction ["value"] (defScope s_is_fraction) := ⟨rfl, rfl, rfl, by decide +kernel, rfl, by decide +kernel, by decide +kernel⟩
theorem d_is_fraction (T : Txt K mg) (S : Src K mg "is_fraction" s_is_fraction) (h_common_of : Def P w K mg base "common_of" 1 none 2 f_common_of) (h_is_tuple : Def P w K mg base "is_tuple" 1 none 3 f_is_tuple) (h_is_size : Def P w K mg base "is_size" 2 none 1 f_is_size) : Def P w K mg base "is_fraction" 3 none 1 f_is_fraction :=
  S.def_ (io := none) (N := N_is_fraction) (m := b_is_fraction) sc_is_fraction rfl (fun _ _ _ _ _ _ us hl => match us, hl with | [_], _ => rfl) fun f cdv A outer s H E hr => by
    have nd := sc_is_fraction.nd
    exact (ss_cons (sm_if (et_w (ew_or (et_not (et_val (em_call (h_is_tuple.fk hr) rfl (am_cons (em_var (pv 0)) (am_cons (em_glob rfl T.c_PAIR) (am_cons (em_glob rfl T.c_PAIR) am_nil))) (aLen_cons (aLen_cons (aLen_cons aLen_nil)))))) (ew_or1 (et_not (et_val (em_callB (cr_all rfl) cs_all rfl T.b_all bt_all (am_cons (em_lc (own := [("one", 1)]) (by decide) rfl nd (im_seq (em_var (pv 0))) (blkOk_by (N := N_is_fraction) (sc := defScope s_is_fraction) (own := [("one", 1)]) (by decide +kernel)) (fun _ _ _ _ _ => (gm_name (i := 1) nd rfl (Or.inl rfl))) (fun _ _ _ _ _ => tm_nil) (fun _ _ _ _ _ => (em_call (h_is_size.fk hr) rfl (am_cons (em_var (pv 1)) am_nil) (aLen_cons aLen_nil)))) am_nil))))))) (ss_one (sm_ret em_bl)) ss_nil)
    (ss_one (sm_ret (em_and (em_cmp op_gt os_gt (em_ixS (pv 0) em_int) em_int (nomark _)) (em_one (em_cmp (op_eqD hr.units) os_eq (em_call (h_common_of.fk hr) rfl (am_cons (em_ixS (pv 0) em_int) (am_cons (em_ixS (pv 0) em_int) am_nil)) (aLen_cons (aLen_cons aLen_nil))) em_int (nomark _)))))))

/-! is_share -/
abbrev s_is_share : Stmt := topAt prog 16
abbrev N_is_share : List Str := ["value"]
def b_is_share : MS :=
  (sRet (mAnd (mCall f_is_fraction (aCons (mVar 0) aNil)) (mChain dLe dLe (mC (.int 0)) (mIxS 0 (mC (.int 0))) (mIxS 0 (mC (.int 1))))))
def f_is_share : List D → Option (DV × D) := runFn none N_is_share.length b_is_share
theorem sc_is_share : FnScope N_is_share ["value"] (defScope s_is_share) := ⟨rfl, rfl, rfl, by decide +kernel, rfl, by decide +kernel, by decide +kernel⟩
theorem d_is_share (T : Txt K mg) (S : Src K mg "is_share" s_is_share) (h_is_fraction : Def P w K mg base "is_fraction" 3 none 1 f_is_fraction) : Def P w K mg base "is_share" 4 none 1 f_is_share :=
  S.def_ (io := none) (N := N_is_share) (m := b_is_share) sc_is_share rfl (fun _ _ _ _ _ _ us hl => match us, hl with | [_], _ => rfl) fun f cdv A outer s H E hr => by
    have nd := sc_is_share.nd
    exact (ss_one (sm_ret (em_and (em_call (h_is_fraction.fk hr) rfl (am_cons (em_var (pv 0)) am_nil) (aLen_cons aLen_nil)) (em_one (em_chain op_le op_le os_le os_le em_int (em_ixS (pv 0) em_int) (em_ixS (pv 0) em_int))))))

/-! new_chance -/
abbrev s_new_chance : Stmt := topAt prog 35
abbrev N_new_chance : List Str := ["unseen", "fresh", "new"]
def b_new_chance : MS :=
  (sSeq (sIf (tNotm (tst (mCall f_is_share (aCons (mVar 0) aNil)))) sNever sNext)
    (sSeq (sExpr (mCall f_check_fresh (aCons (mVar 1) (aCons (mVar 2) aNil))))
    (sRet (mCall f_new_from (aCons (mIxS 0 (mC (.int 0))) (aCons (mIxS 0 (mC (.int 1))) (aCons (mVar 1) (aCons (mVar 2) aNil))))))))
def f_new_chance : List D → Option (DV × D) := runFn none N_new_chance.length b_new_chance
theorem sc_new_chance : FnScope N_new_chance ["unseen", "fresh", "new"] (defScope s_new_chance) := ⟨rfl, rfl, rfl, by decide +kernel, rfl, by decide +kernel, by decide +kernel⟩
theorem d_new_chance (T : Txt K mg) (S : Src K mg "new_chance" s_new_chance) (h_check_fresh : Def P w K mg base "check_fresh" 3 none 2 f_check_fresh) (h_new_from : Def P w K mg base "new_from" 3 none 4 f_new_from) (h_is_share : Def P w K mg base "is_share" 4 none 1 f_is_share) : Def P w K mg base "new_chance" 5 none 3 f_new_chance :=
  S.def_ (io := none) (N := N_new_chance) (m := b_new_chance) sc_new_chance rfl (fun _ _ _ _ _ _ us hl => match us, hl with | [_, _, _], _ => rfl) fun f cdv A outer s H E hr => by
    have nd := sc_new_chance.nd
    exact (ss_cons (sm_if (et_not (et_val (em_call (h_is_share.fk hr) rfl (am_cons (em_var (pv 0)) am_nil) (aLen_cons aLen_nil)))) ss_never ss_nil)
    (ss_cons (sm_expr (em_call (h_check_fresh.fk hr) rfl (am_cons (em_var (pv 1)) (am_cons (em_var (pv 2)) am_nil)) (aLen_cons (aLen_cons aLen_nil))))
    (ss_one (sm_ret (em_call (h_new_from.fk hr) rfl (am_cons (em_ixS (pv 0) em_int) (am_cons (em_ixS (pv 0) em_int) (am_cons (em_var (pv 1)) (am_cons (em_var (pv 2)) am_nil)))) (aLen_cons (aLen_cons (aLen_cons (aLen_cons aLen_nil)))))))))

/-! _law_take -/
abbrev s__law_take : Stmt := topAt prog 42
abbrev N__law_take : List Str := ["pot", "upto", "digit", "prime", "blend"]
def b__law_take : MS :=
  (sSeq (sIf (tst (m2 dGt (mIxS 0 (mC (.int 0))) (mC (.int 0)))) (sSeq (sSet 2 (m2 dMod (mB dInt (aCons (mIxS 0 (mC (.int 0))) aNil)) (mVar 1)))
    (sSeq (sSetIx 0 (mC (.int 0)) (m2 dFdiv (mIxS 0 (mC (.int 0))) (mVar 1)))
    (sRet (mMove 2)))) sNext)
    (sSeq (sSetIx 0 (mC (.int 2)) (m2 dAdd (mIxS 0 (mC (.int 2))) (mC (.int 1))))
    (sSeq (sSet 3 (m2 dIxV (mLst (aCons (mC (.int 2147483647)) (aCons (mC (.int 2147483629)) (aCons (mC (.int 2147483587)) (aCons (mC (.int 2147483579)) aNil))))) (m2 dMod (mB dInt (aCons (mIxS 0 (mC (.int 2))) aNil)) (mC (.int 4)))))
    (sSeq (sSet 4 (m2 dMod (mB dInt (aCons (m2 dPow (mB dInt (aCons (m2 dAdd (m2 dAdd (mIxS 0 (mC (.int 1))) (m2 dMul (m2 dMul (mC (.int 215285)) (mIxS 0 (mC (.int 2)))) (mIxS 0 (mC (.int 2))))) (mC (.int 7885))) aNil)) (mC (.int 3))) aNil)) (mVar 3)))
    (sRet (m2 dMod (mB dInt (aCons (m2 dFdiv (m2 dMul (mVar 4) (m2 dAdd (m2 dMod (mB dInt (aCons (mVar 4) aNil)) (mC (.int 10007))) (m2 dMul (mC (.int 6845)) (mIxS 0 (mC (.int 2)))))) (mC (.int 307))) aNil)) (mVar 1)))))))
def f__law_take : List D → Option (DV × D) := runFn (some 0) N__law_take.length b__law_take
theorem sc__law_take : FnScope N__law_take ["pot", "upto"] (defScope s__law_take) := ⟨rfl, rfl, rfl, by decide +kernel, rfl, by decide +kernel, by decide +kernel⟩
theorem d__law_take (T : Txt K mg) (S : Src K mg "_law_take" s__law_take)  : Def P w K mg base "_law_take" 1 (some 0) 2 f__law_take :=
  S.def_ (io := (some 0)) (N := N__law_take) (m := b__law_take) sc__law_take rfl (fun _ _ _ _ _ _ us hl => match us, hl with | [_, _], _ => rfl) fun f cdv A outer s H E hr => by
    have nd := sc__law_take.nd
    exact (ss_cons (sm_if (et_cmp op_gt os_gt (em_ixS (pv 0) em_int) em_int (nomark _)) (ss_cons (sm_set (i := 2) nd rfl (Or.inl rfl) (em_op op_modN os_mod (em_callTy call_int1 cs_int rfl T.b_int bt_int (am_cons (em_ixS (pv 0) em_int) am_nil)) (em_var (pv 1))))
    (ss_cons (sm_setIx (pv 0) em_int (em_op op_fdivA os_fdiv (em_ixS (pv 0) em_int) (em_var (pv 1))) (fun to ti ho hi => pg_sub ho hi set_list))
    (ss_one (sm_ret (em_move (pv 2)))))) ss_nil)
    (ss_cons (sm_setIx (pv 0) em_int (em_op op_addA os_add (em_ixS (pv 0) em_int) em_int) (fun to ti ho hi => pg_sub ho hi set_list))
    (ss_cons (sm_set (i := 3) nd rfl (Or.inl rfl) (em_ix (em_lst (am_cons em_int (am_cons em_int (am_cons em_int (am_cons em_int am_nil))))) (em_op op_modN os_mod (em_callTy call_int1 cs_int rfl T.b_int bt_int (am_cons (em_ixS (pv 0) em_int) am_nil)) em_int)))
    (ss_cons (sm_set (i := 4) nd rfl (Or.inl rfl) (em_op op_modN os_mod (em_callTy call_int1 cs_int rfl T.b_int bt_int (am_cons (em_op op_powA os_pow (em_callTy call_int1 cs_int rfl T.b_int bt_int (am_cons (em_op op_addA os_add (em_op op_addA os_add (em_ixS (pv 0) em_int) (em_op op_mulA os_mul (em_op op_mulA os_mul em_int (em_ixS (pv 0) em_int)) (em_ixS (pv 0) em_int))) em_int) am_nil)) em_int) am_nil)) (em_var (pv 3))))
    (ss_one (sm_ret (em_op op_modN os_mod (em_callTy call_int1 cs_int rfl T.b_int bt_int (am_cons (em_op op_fdivA os_fdiv (em_op op_mulA os_mul (em_var (pv 4)) (em_op op_addA os_add (em_op op_modN os_mod (em_callTy call_int1 cs_int rfl T.b_int bt_int (am_cons (em_var (pv 4)) am_nil)) em_int) (em_op op_mulA os_mul em_int (em_ixS (pv 0) em_int)))) em_int) am_nil)) (em_var (pv 1)))))))))

/-! _law_rest -/
abbrev s__law_rest : Stmt := topAt prog 50
abbrev N__law_rest : List Str := ["one"]
def b__law_rest : MS :=
  (sRet (mCall f__law_ratio (aCons (m2 dSub (mIxS 0 (mC (.int 1))) (mIxS 0 (mC (.int 0)))) (aCons (mIxS 0 (mC (.int 1))) aNil))))
def f__law_rest : List D → Option (DV × D) := runFn none N__law_rest.length b__law_rest
theorem sc__law_rest : FnScope N__law_rest ["one"] (defScope s__law_rest) := ⟨rfl, rfl, rfl, by decide +kernel, rfl, by decide +kernel, by decide +kernel⟩
theorem d__law_rest (T : Txt K mg) (S : Src K mg "_law_rest" s__law_rest) (h__law_ratio : Def P w K mg base "_law_ratio" 2 none 2 f__law_ratio) : Def P w K mg base "_law_rest" 3 none 1 f__law_rest :=
  S.def_ (io := none) (N := N__law_rest) (m := b__law_rest) sc__law_rest rfl (fun _ _ _ _ _ _ us hl => match us, hl with | [_], _ => rfl) fun f cdv A outer s H E hr => by
    have nd := sc__law_rest.nd
    exact (ss_one (sm_ret (em_call (h__law_ratio.fk hr) rfl (am_cons (em_op op_sub os_sub (em_ixS (pv 0) em_int) (em_ixS (pv 0) em_int)) (am_cons (em_ixS (pv 0) em_int) am_nil)) (aLen_cons (aLen_cons aLen_nil)))))

/-! _law_below -/
abbrev s__law_below : Stmt := topAt prog 48
abbrev N__law_below : List Str := ["one", "other"]
def b__law_below : MS :=
  (sRet (m2 dLt (m2 dMul (mIxS 0 (mC (.int 0))) (mIxS 1 (mC (.int 1)))) (m2 dMul (mIxS 1 (mC (.int 0))) (mIxS 0 (mC (.int 1))))))
def f__law_below : List D → Option (DV × D) := runFn none N__law_below.length b__law_below
theorem sc__law_below : FnScope N__law_below ["one", "other"] (defScope s__law_below) := ⟨rfl, rfl, rfl, by decide +kernel, rfl, by decide +kernel, by decide +kernel⟩
theorem d__law_below (T : Txt K mg) (S : Src K mg "_law_below" s__law_below)  : Def P w K mg base "_law_below" 1 none 2 f__law_below :=
  S.def_ (io := none) (N := N__law_below) (m := b__law_below) sc__law_below rfl (fun _ _ _ _ _ _ us hl => match us, hl with | [_, _], _ => rfl) fun f cdv A outer s H E hr => by
    have nd := sc__law_below.nd
    exact (ss_one (sm_ret (em_cmp op_lt os_lt (em_op op_mulA os_mul (em_ixS (pv 0) em_int) (em_ixS (pv 1) em_int)) (em_op op_mulA os_mul (em_ixS (pv 1) em_int) (em_ixS (pv 0) em_int)) (nomark _))))

/-! _law_are_chances_right -/
abbrev s__law_are_chances_right : Stmt := topAt prog 51
abbrev N__law_are_chances_right : List Str := ["pot", "fresh", "low", "new", "part", "share", "both"]
def b__law_are_chances_right : MS :=
  (sSeq (sPar [3, 4] (dCons (m2 dAdd (mB dInt (aCons (mCallL 0 f__law_take (lLend 0 (lCons (mVar 1) lNil))) aNil)) (mC (.int 1))) (dCons (mB dInt (aCons (mCallL 0 f__law_take (lLend 0 (lCons (m2 dAdd (mVar 2) (mC (.int 1))) lNil))) aNil)) dNil)))
    (sSeq (sSet 5 (mCall f__law_ratio (aCons (mVar 4) (aCons (mVar 2) aNil))))
    (sSeq (sSet 6 (mCall f__law_plus (aCons (mCall f_new_chance (aCons (mVar 5) (aCons (mVar 1) (aCons (mVar 3) aNil)))) (aCons (mCall f_new_chance (aCons (mCall f__law_rest (aCons (mVar 5) aNil)) (aCons (mVar 1) (aCons (m2 dAdd (m2 dSub (mVar 1) (mVar 3)) (mC (.int 1))) aNil)))) aNil))))
    (sSeq (sIf (tOrm (tst (m2 dNe (mVar 6) (mTup (aCons (mC (.int 1)) (aCons (mC (.int 1)) aNil))))) (tOrm (tst (m2 dNe (mCall f_new_chance (aCons (mVar 5) (aCons (mVar 1) (aCons (mC (.int 0)) aNil)))) (mTup (aCons (mC (.int 1)) (aCons (mC (.int 1)) aNil))))) (tOrm (tst (m2 dNe (mCall f_new_chance (aCons (mTup (aCons (mC (.int 1)) (aCons (mC (.int 1)) aNil))) (aCons (mVar 1) (aCons (mVar 1) aNil)))) (mTup (aCons (mC (.int 1)) (aCons (mC (.int 1)) aNil))))) (tst (m2 dNe (mCall f_new_chance (aCons (mTup (aCons (mC (.int 0)) (aCons (mC (.int 1)) aNil))) (aCons (mVar 1) (aCons (mC (.int 1)) aNil)))) (mTup (aCons (mC (.int 0)) (aCons (mC (.int 1)) aNil)))))))) (sRet (mC (.bl false))) sNext)
    (sRet (mAnd (m2 dEq (mCall f_new_chance (aCons (mVar 5) (aCons (mC (.int 1)) (aCons (mC (.int 1)) aNil)))) (mVar 5)) (m1 dNot (mCall f__law_below (aCons (mCall f_new_chance (aCons (mVar 5) (aCons (mVar 1) (aCons (m2 dSub (mVar 3) (mC (.int 1))) aNil)))) (aCons (mCall f_new_chance (aCons (mVar 5) (aCons (mVar 1) (aCons (mVar 3) aNil)))) aNil))))))))))
def f__law_are_chances_right : List D → Option (DV × D) := runFn (some 0) N__law_are_chances_right.length b__law_are_chances_right
theorem sc__law_are_chances_right : FnScope N__law_are_chances_right ["pot", "fresh", "low"] (defScope s__law_are_chances_right) := ⟨rfl, rfl, rfl, by decide +kernel, rfl, by decide +kernel, by decide +kernel⟩
theorem d__law_are_chances_right (T : Txt K mg) (S : Src K mg "_law_are_chances_right" s__law_are_chances_right) (h__law_ratio : Def P w K mg base "_law_ratio" 2 none 2 f__law_ratio) (h__law_plus : Def P w K mg base "_law_plus" 3 none 2 f__law_plus) (h_new_chance : Def P w K mg base "new_chance" 5 none 3 f_new_chance) (h__law_take : Def P w K mg base "_law_take" 1 (some 0) 2 f__law_take) (h__law_rest : Def P w K mg base "_law_rest" 3 none 1 f__law_rest) (h__law_below : Def P w K mg base "_law_below" 1 none 2 f__law_below) : Def P w K mg base "_law_are_chances_right" 6 (some 0) 3 f__law_are_chances_right :=
  S.def_ (io := (some 0)) (N := N__law_are_chances_right) (m := b__law_are_chances_right) sc__law_are_chances_right rfl (fun _ _ _ _ _ _ us hl => match us, hl with | [_, _, _], _ => rfl) fun f cdv A outer s H E hr => by
    have nd := sc__law_are_chances_right.nd
    exact (ss_cons (sm_par (i := 3) (j := 4) rfl nd rfl rfl (by decide) rfl rfl (ad_cons (em_op op_addA os_add (em_callTy call_int1 cs_int rfl T.b_int bt_int (am_cons (em_callL (h__law_take.fk hr) rfl (al_lend (pv 0) (al_cons (em_var (pv 1)) al_nil)) (lLen_lend (lLen_cons lLen_nil))) am_nil)) em_int) (ad_cons (em_callTy call_int1 cs_int rfl T.b_int bt_int (am_cons (em_callL (h__law_take.fk hr) rfl (al_lend (pv 0) (al_cons (em_op op_addA os_add (em_var (pv 2)) em_int) al_nil)) (lLen_lend (lLen_cons lLen_nil))) am_nil)) ad_nil)) (by rfl))
    (ss_cons (sm_set (i := 5) nd rfl (Or.inl rfl) (em_call (h__law_ratio.fk hr) rfl (am_cons (em_var (pv 4)) (am_cons (em_var (pv 2)) am_nil)) (aLen_cons (aLen_cons aLen_nil))))
    (ss_cons (sm_set (i := 6) nd rfl (Or.inl rfl) (em_call (h__law_plus.fk hr) rfl (am_cons (em_call (h_new_chance.fk hr) rfl (am_cons (em_var (pv 5)) (am_cons (em_var (pv 1)) (am_cons (em_var (pv 3)) am_nil))) (aLen_cons (aLen_cons (aLen_cons aLen_nil)))) (am_cons (em_call (h_new_chance.fk hr) rfl (am_cons (em_call (h__law_rest.fk hr) rfl (am_cons (em_var (pv 5)) am_nil) (aLen_cons aLen_nil)) (am_cons (em_var (pv 1)) (am_cons (em_op op_addA os_add (em_op op_sub os_sub (em_var (pv 1)) (em_var (pv 3))) em_int) am_nil))) (aLen_cons (aLen_cons (aLen_cons aLen_nil)))) am_nil)) (aLen_cons (aLen_cons aLen_nil))))
    (ss_cons (sm_if (et_w (ew_or (et_cmp (op_neD hr.units) os_ne (em_var (pv 6)) (em_tup (am_cons em_int (am_cons em_int am_nil))) (nomark _)) (ew_or (et_cmp (op_neD hr.units) os_ne (em_call (h_new_chance.fk hr) rfl (am_cons (em_var (pv 5)) (am_cons (em_var (pv 1)) (am_cons em_int am_nil))) (aLen_cons (aLen_cons (aLen_cons aLen_nil)))) (em_tup (am_cons em_int (am_cons em_int am_nil))) (nomark _)) (ew_or (et_cmp (op_neD hr.units) os_ne (em_call (h_new_chance.fk hr) rfl (am_cons (em_tup (am_cons em_int (am_cons em_int am_nil))) (am_cons (em_var (pv 1)) (am_cons (em_var (pv 1)) am_nil))) (aLen_cons (aLen_cons (aLen_cons aLen_nil)))) (em_tup (am_cons em_int (am_cons em_int am_nil))) (nomark _)) (ew_or1 (et_cmp (op_neD hr.units) os_ne (em_call (h_new_chance.fk hr) rfl (am_cons (em_tup (am_cons em_int (am_cons em_int am_nil))) (am_cons (em_var (pv 1)) (am_cons em_int am_nil))) (aLen_cons (aLen_cons (aLen_cons aLen_nil)))) (em_tup (am_cons em_int (am_cons em_int am_nil))) (nomark _))))))) (ss_one (sm_ret em_bl)) ss_nil)
    (ss_one (sm_ret (em_and (em_cmp (op_eqD hr.units) os_eq (em_call (h_new_chance.fk hr) rfl (am_cons (em_var (pv 5)) (am_cons em_int (am_cons em_int am_nil))) (aLen_cons (aLen_cons (aLen_cons aLen_nil)))) (em_var (pv 5)) (nomark _)) (em_one (em_not (em_call (h__law_below.fk hr) rfl (am_cons (em_call (h_new_chance.fk hr) rfl (am_cons (em_var (pv 5)) (am_cons (em_var (pv 1)) (am_cons (em_op op_sub os_sub (em_var (pv 3)) em_int) am_nil))) (aLen_cons (aLen_cons (aLen_cons aLen_nil)))) (am_cons (em_call (h_new_chance.fk hr) rfl (am_cons (em_var (pv 5)) (am_cons (em_var (pv 1)) (am_cons (em_var (pv 3)) am_nil))) (aLen_cons (aLen_cons (aLen_cons aLen_nil)))) am_nil)) (aLen_cons (aLen_cons aLen_nil))))))))))))

/-! check_part -/
abbrev s_check_part : Stmt := topAt prog 23
abbrev N_check_part : List Str := ["value"]
def b_check_part : MS :=
  (sIf (tOrm (tNotm (tst (mCall f_is_share (aCons (mVar 0) aNil)))) (tst (m2 dEq (mVar 0) (mC (.tup [(.int 1), (.int 1)]))))) sNever sNext)
def f_check_part : List D → Option (DV × D) := runFn none N_check_part.length b_check_part
theorem sc_check_part : FnScope N_check_part ["value"] (defScope s_check_part) := ⟨rfl, rfl, rfl, by decide +kernel, rfl, by decide +kernel, by decide +kernel⟩
theorem d_check_part (T : Txt K mg) (S : Src K mg "check_part" s_check_part) (h_is_share : Def P w K mg base "is_share" 4 none 1 f_is_share) : Def P w K mg base "check_part" 5 none 1 f_check_part :=
  S.def_ (io := none) (N := N_check_part) (m := b_check_part) sc_check_part rfl (fun _ _ _ _ _ _ us hl => match us, hl with | [_], _ => rfl) fun f cdv A outer s H E hr => by
    have nd := sc_check_part.nd
    exact (ss_one (sm_if (et_w (ew_or (et_not (et_val (em_call (h_is_share.fk hr) rfl (am_cons (em_var (pv 0)) am_nil) (aLen_cons aLen_nil)))) (ew_or1 (et_cmp (op_eqD hr.units) os_eq (em_var (pv 0)) (em_glob rfl T.c_ONE_WHOLE) (nomark _))))) ss_never ss_nil))

/-! check_low -/
abbrev s_check_low : Stmt := topAt prog 28
abbrev N_check_low : List Str := ["low"]
def b_check_low : MS :=
  (sIf (tNotm (tst (mCall f_is_integer (aCons (mVar 0) (aCons (mC (.int 1)) (aCons (mC (.int 1000)) aNil)))))) sNever sNext)
def f_check_low : List D → Option (DV × D) := runFn none N_check_low.length b_check_low
theorem sc_check_low : FnScope N_check_low ["low"] (defScope s_check_low) := ⟨rfl, rfl, rfl, by decide +kernel, rfl, by decide +kernel, by decide +kernel⟩
theorem d_check_low (T : Txt K mg) (S : Src K mg "check_low" s_check_low) (h_is_integer : Def P w K mg base "is_integer" 2 none 3 f_is_integer) : Def P w K mg base "check_low" 3 none 1 f_check_low :=
  S.def_ (io := none) (N := N_check_low) (m := b_check_low) sc_check_low rfl (fun _ _ _ _ _ _ us hl => match us, hl with | [_], _ => rfl) fun f cdv A outer s H E hr => by
    have nd := sc_check_low.nd
    exact (ss_one (sm_if (et_not (et_val (em_call (h_is_integer.fk hr) rfl (am_cons (em_var (pv 0)) (am_cons em_int (am_cons (em_glob rfl T.c_MOST_LOW) am_nil))) (aLen_cons (aLen_cons (aLen_cons aLen_nil)))))) ss_never ss_nil))

/-! is_below -/
abbrev s_is_below : Stmt := topAt prog 18
abbrev N_is_below : List Str := ["one", "other"]
def b_is_below : MS :=
  (sRet (m2 dLt (m2 dMul (mIxS 0 (mC (.int 0))) (mIxS 1 (mC (.int 1)))) (m2 dMul (mIxS 1 (mC (.int 0))) (mIxS 0 (mC (.int 1))))))
def f_is_below : List D → Option (DV × D) := runFn none N_is_below.length b_is_below
theorem sc_is_below : FnScope N_is_below ["one", "other"] (defScope s_is_below) := ⟨rfl, rfl, rfl, by decide +kernel, rfl, by decide +kernel, by decide +kernel⟩
theorem d_is_below (T : Txt K mg) (S : Src K mg "is_below" s_is_below)  : Def P w K mg base "is_below" 1 none 2 f_is_below :=
  S.def_ (io := none) (N := N_is_below) (m := b_is_below) sc_is_below rfl (fun _ _ _ _ _ _ us hl => match us, hl with | [_, _], _ => rfl) fun f cdv A outer s H E hr => by
    have nd := sc_is_below.nd
    exact (ss_one (sm_ret (em_cmp op_lt os_lt (em_op op_mulA os_mul (em_ixS (pv 0) em_int) (em_ixS (pv 1) em_int)) (em_op op_mulA os_mul (em_ixS (pv 1) em_int) (em_ixS (pv 0) em_int)) (nomark _))))

/-! least_top -/
abbrev s_least_top : Stmt := topAt prog 30
abbrev N_least_top : List Str := ["fresh", "new", "share", "low", "few", "many", "middle"]
def b_least_top : MS :=
  (sSeq (sPar [4, 5] (dCons (m1 dNeg (mC (.int 1))) (dCons (mVar 3) dNil)))
    (sSeq (sWhile (tst (m2 dGt (m2 dSub (mVar 5) (mVar 4)) (mC (.int 1)))) (sSeq (sSet 6 (m2 dFdiv (m2 dAdd (mVar 4) (mVar 5)) (mC (.int 2))))
    (sIf (tst (mCall f_is_below (aCons (mVar 2) (aCons (mCall f_new_from (aCons (mVar 6) (aCons (mVar 3) (aCons (mVar 0) (aCons (mVar 1) aNil))))) aNil)))) (sSet 5 (mVar 6)) (sSet 4 (mVar 6)))))
    (sRet (mMove 5))))
def f_least_top : List D → Option (DV × D) := runFn none N_least_top.length b_least_top
theorem sc_least_top : FnScope N_least_top ["fresh", "new", "share", "low"] (defScope s_least_top) := ⟨rfl, rfl, rfl, by decide +kernel, rfl, by decide +kernel, by decide +kernel⟩
theorem d_least_top (T : Txt K mg) (S : Src K mg "least_top" s_least_top) (h_new_from : Def P w K mg base "new_from" 3 none 4 f_new_from) (h_is_below : Def P w K mg base "is_below" 1 none 2 f_is_below) : Def P w K mg base "least_top" 4 none 4 f_least_top :=
  S.def_ (io := none) (N := N_least_top) (m := b_least_top) sc_least_top rfl (fun _ _ _ _ _ _ us hl => match us, hl with | [_, _, _, _], _ => rfl) fun f cdv A outer s H E hr => by
    have nd := sc_least_top.nd
    exact (ss_cons (sm_par (i := 4) (j := 5) rfl nd rfl rfl (by decide) rfl rfl (ad_cons (em_neg em_int) (ad_cons (em_var (pv 3)) ad_nil)) (by rfl))
    (ss_cons (sm_while PassesOwn.never (et_cmp op_gt os_gt (em_op op_sub os_sub (em_var (pv 5)) (em_var (pv 4))) em_int (nomark _)) (ss_cons (sm_set (i := 6) nd rfl (Or.inl rfl) (em_op op_fdivA os_fdiv (em_op op_addA os_add (em_var (pv 4)) (em_var (pv 5))) em_int))
    (ss_one (sm_if (et_val (em_call (h_is_below.fk hr) rfl (am_cons (em_var (pv 2)) (am_cons (em_call (h_new_from.fk hr) rfl (am_cons (em_var (pv 6)) (am_cons (em_var (pv 3)) (am_cons (em_var (pv 0)) (am_cons (em_var (pv 1)) am_nil)))) (aLen_cons (aLen_cons (aLen_cons (aLen_cons aLen_nil))))) am_nil)) (aLen_cons (aLen_cons aLen_nil)))) (ss_one (sm_set (i := 5) nd rfl (Or.inl rfl) (em_var (pv 6)))) (ss_one (sm_set (i := 4) nd rfl (Or.inl rfl) (em_var (pv 6))))))))
    (ss_one (sm_ret (em_move (pv 5))))))

/-! least_unseen_share -/
abbrev s_least_unseen_share : Stmt := topAt prog 32
abbrev N_least_unseen_share : List Str := ["fresh", "new", "share", "low"]
def b_least_unseen_share : MS :=
  (sSeq (sExpr (mCall f_check_fresh (aCons (mVar 0) (aCons (mVar 1) aNil))))
    (sSeq (sExpr (mCall f_check_part (aCons (mVar 2) aNil)))
    (sSeq (sExpr (mCall f_check_low (aCons (mVar 3) aNil)))
    (sRet (mCall f_ratio_of (aCons (mCall f_least_top (aCons (mVar 0) (aCons (mVar 1) (aCons (mVar 2) (aCons (mVar 3) aNil))))) (aCons (mVar 3) aNil)))))))
def f_least_unseen_share : List D → Option (DV × D) := runFn none N_least_unseen_share.length b_least_unseen_share
theorem sc_least_unseen_share : FnScope N_least_unseen_share ["fresh", "new", "share", "low"] (defScope s_least_unseen_share) := ⟨rfl, rfl, rfl, by decide +kernel, rfl, by decide +kernel, by decide +kernel⟩
theorem d_least_unseen_share (T : Txt K mg) (S : Src K mg "least_unseen_share" s_least_unseen_share) (h_check_fresh : Def P w K mg base "check_fresh" 3 none 2 f_check_fresh) (h_ratio_of : Def P w K mg base "ratio_of" 2 none 2 f_ratio_of) (h_check_part : Def P w K mg base "check_part" 5 none 1 f_check_part) (h_check_low : Def P w K mg base "check_low" 3 none 1 f_check_low) (h_least_top : Def P w K mg base "least_top" 4 none 4 f_least_top) : Def P w K mg base "least_unseen_share" 6 none 4 f_least_unseen_share :=
  S.def_ (io := none) (N := N_least_unseen_share) (m := b_least_unseen_share) sc_least_unseen_share rfl (fun _ _ _ _ _ _ us hl => match us, hl with | [_, _, _, _], _ => rfl) fun f cdv A outer s H E hr => by
    have nd := sc_least_unseen_share.nd
    exact (ss_cons (sm_expr (em_call (h_check_fresh.fk hr) rfl (am_cons (em_var (pv 0)) (am_cons (em_var (pv 1)) am_nil)) (aLen_cons (aLen_cons aLen_nil))))
    (ss_cons (sm_expr (em_call (h_check_part.fk hr) rfl (am_cons (em_var (pv 2)) am_nil) (aLen_cons aLen_nil)))
    (ss_cons (sm_expr (em_call (h_check_low.fk hr) rfl (am_cons (em_var (pv 3)) am_nil) (aLen_cons aLen_nil)))
    (ss_one (sm_ret (em_call (h_ratio_of.fk hr) rfl (am_cons (em_call (h_least_top.fk hr) rfl (am_cons (em_var (pv 0)) (am_cons (em_var (pv 1)) (am_cons (em_var (pv 2)) (am_cons (em_var (pv 3)) am_nil)))) (aLen_cons (aLen_cons (aLen_cons (aLen_cons aLen_nil))))) (am_cons (em_var (pv 3)) am_nil)) (aLen_cons (aLen_cons aLen_nil))))))))

/-! greatest_top -/
abbrev s_greatest_top : Stmt := topAt prog 31
abbrev N_greatest_top : List Str := ["fresh", "new", "share", "low"]
def b_greatest_top : MS :=
  (sRet (m2 dSub (mVar 3) (mCall f_least_top (aCons (mVar 0) (aCons (m2 dSub (mVar 0) (mVar 1)) (aCons (mVar 2) (aCons (mVar 3) aNil)))))))
def f_greatest_top : List D → Option (DV × D) := runFn none N_greatest_top.length b_greatest_top
theorem sc_greatest_top : FnScope N_greatest_top ["fresh", "new", "share", "low"] (defScope s_greatest_top) := ⟨rfl, rfl, rfl, by decide +kernel, rfl, by decide +kernel, by decide +kernel⟩
theorem d_greatest_top (T : Txt K mg) (S : Src K mg "greatest_top" s_greatest_top) (h_least_top : Def P w K mg base "least_top" 4 none 4 f_least_top) : Def P w K mg base "greatest_top" 5 none 4 f_greatest_top :=
  S.def_ (io := none) (N := N_greatest_top) (m := b_greatest_top) sc_greatest_top rfl (fun _ _ _ _ _ _ us hl => match us, hl with | [_, _, _, _], _ => rfl) fun f cdv A outer s H E hr => by
    have nd := sc_greatest_top.nd
    exact (ss_one (sm_ret (em_op op_sub os_sub (em_var (pv 3)) (em_call (h_least_top.fk hr) rfl (am_cons (em_var (pv 0)) (am_cons (em_op op_sub os_sub (em_var (pv 0)) (em_var (pv 1))) (am_cons (em_var (pv 2)) (am_cons (em_var (pv 3)) am_nil)))) (aLen_cons (aLen_cons (aLen_cons (aLen_cons aLen_nil))))))))

/-! greatest_unseen_share -/
abbrev s_greatest_unseen_share : Stmt := topAt prog 33
abbrev N_greatest_unseen_share : List Str := ["fresh", "new", "share", "low"]
def b_greatest_unseen_share : MS :=
  (sSeq (sExpr (mCall f_check_fresh (aCons (mVar 0) (aCons (mVar 1) aNil))))
    (sSeq (sExpr (mCall f_check_part (aCons (mVar 2) aNil)))
    (sSeq (sExpr (mCall f_check_low (aCons (mVar 3) aNil)))
    (sRet (mCall f_ratio_of (aCons (mCall f_greatest_top (aCons (mVar 0) (aCons (mVar 1) (aCons (mVar 2) (aCons (mVar 3) aNil))))) (aCons (mVar 3) aNil)))))))
def f_greatest_unseen_share : List D → Option (DV × D) := runFn none N_greatest_unseen_share.length b_greatest_unseen_share
theorem sc_greatest_unseen_share : FnScope N_greatest_unseen_share ["fresh", "new", "share", "low"] (defScope s_greatest_unseen_share) := ⟨rfl, rfl, rfl, by decide +kernel, rfl, by decide +kernel, by decide +kernel⟩
theorem d_greatest_unseen_share (T : Txt K mg) (S : Src K mg "greatest_unseen_share" s_greatest_unseen_share) (h_check_fresh : Def P w K mg base "check_fresh" 3 none 2 f_check_fresh) (h_ratio_of : Def P w K mg base "ratio_of" 2 none 2 f_ratio_of) (h_check_part : Def P w K mg base "check_part" 5 none 1 f_check_part) (h_check_low : Def P w K mg base "check_low" 3 none 1 f_check_low) (h_greatest_top : Def P w K mg base "greatest_top" 5 none 4 f_greatest_top) : Def P w K mg base "greatest_unseen_share" 6 none 4 f_greatest_unseen_share :=
  S.def_ (io := none) (N := N_greatest_unseen_share) (m := b_greatest_unseen_share) sc_greatest_unseen_share rfl (fun _ _ _ _ _ _ us hl => match us, hl with | [_, _, _, _], _ => rfl) fun f cdv A outer s H E hr => by
    have nd := sc_greatest_unseen_share.nd
    exact (ss_cons (sm_expr (em_call (h_check_fresh.fk hr) rfl (am_cons (em_var (pv 0)) (am_cons (em_var (pv 1)) am_nil)) (aLen_cons (aLen_cons aLen_nil))))
    (ss_cons (sm_expr (em_call (h_check_part.fk hr) rfl (am_cons (em_var (pv 2)) am_nil) (aLen_cons aLen_nil)))
    (ss_cons (sm_expr (em_call (h_check_low.fk hr) rfl (am_cons (em_var (pv 3)) am_nil) (aLen_cons aLen_nil)))
    (ss_one (sm_ret (em_call (h_ratio_of.fk hr) rfl (am_cons (em_call (h_greatest_top.fk hr) rfl (am_cons (em_var (pv 0)) (am_cons (em_var (pv 1)) (am_cons (em_var (pv 2)) (am_cons (em_var (pv 3)) am_nil)))) (aLen_cons (aLen_cons (aLen_cons (aLen_cons aLen_nil))))) (am_cons (em_var (pv 3)) am_nil)) (aLen_cons (aLen_cons aLen_nil))))))))

/-! unseen_stretch -/
abbrev s_unseen_stretch : Stmt := topAt prog 34
abbrev N_unseen_stretch : List Str := ["fresh", "new", "share", "low", "half", "least", "most"]
def b_unseen_stretch : MS :=
  (sSeq (sExpr (mCall f_check_fresh (aCons (mVar 0) (aCons (mVar 1) aNil))))
    (sSeq (sExpr (mCall f_check_part (aCons (mVar 2) aNil)))
    (sSeq (sExpr (mCall f_check_low (aCons (mVar 3) aNil)))
    (sSeq (sSet 4 (mCall f_ratio_of (aCons (mIxS 2 (mC (.int 0))) (aCons (m2 dMul (mC (.int 2)) (mIxS 2 (mC (.int 1)))) aNil))))
    (sSeq (sPar [5, 6] (dCons (mCall f_least_top (aCons (mVar 0) (aCons (mVar 1) (aCons (mVar 4) (aCons (mVar 3) aNil))))) (dCons (mCall f_greatest_top (aCons (mVar 0) (aCons (mVar 1) (aCons (mVar 4) (aCons (mVar 3) aNil))))) dNil)))
    (sRet (mTup (aCons (mCall f_ratio_of (aCons (mB dMax (aCons (mC (.int 0)) (aCons (m2 dSub (mVar 5) (mC (.int 1))) aNil))) (aCons (mVar 3) aNil))) (aCons (mCall f_ratio_of (aCons (mB dMin (aCons (mVar 3) (aCons (m2 dAdd (mVar 6) (mC (.int 1))) aNil))) (aCons (mVar 3) aNil))) aNil)))))))))
def f_unseen_stretch : List D → Option (DV × D) := runFn none N_unseen_stretch.length b_unseen_stretch
theorem sc_unseen_stretch : FnScope N_unseen_stretch ["fresh", "new", "share", "low"] (defScope s_unseen_stretch) := ⟨rfl, rfl, rfl, by decide +kernel, rfl, by decide +kernel, by decide +kernel⟩
theorem d_unseen_stretch (T : Txt K mg) (S : Src K mg "unseen_stretch" s_unseen_stretch) (h_check_fresh : Def P w K mg base "check_fresh" 3 none 2 f_check_fresh) (h_ratio_of : Def P w K mg base "ratio_of" 2 none 2 f_ratio_of) (h_check_part : Def P w K mg base "check_part" 5 none 1 f_check_part) (h_check_low : Def P w K mg base "check_low" 3 none 1 f_check_low) (h_least_top : Def P w K mg base "least_top" 4 none 4 f_least_top) (h_greatest_top : Def P w K mg base "greatest_top" 5 none 4 f_greatest_top) : Def P w K mg base "unseen_stretch" 6 none 4 f_unseen_stretch :=
  S.def_ (io := none) (N := N_unseen_stretch) (m := b_unseen_stretch) sc_unseen_stretch rfl (fun _ _ _ _ _ _ us hl => match us, hl with | [_, _, _, _], _ => rfl) fun f cdv A outer s H E hr => by
    have nd := sc_unseen_stretch.nd
    exact (ss_cons (sm_expr (em_call (h_check_fresh.fk hr) rfl (am_cons (em_var (pv 0)) (am_cons (em_var (pv 1)) am_nil)) (aLen_cons (aLen_cons aLen_nil))))
    (ss_cons (sm_expr (em_call (h_check_part.fk hr) rfl (am_cons (em_var (pv 2)) am_nil) (aLen_cons aLen_nil)))
    (ss_cons (sm_expr (em_call (h_check_low.fk hr) rfl (am_cons (em_var (pv 3)) am_nil) (aLen_cons aLen_nil)))
    (ss_cons (sm_set (i := 4) nd rfl (Or.inl rfl) (em_call (h_ratio_of.fk hr) rfl (am_cons (em_ixS (pv 2) em_int) (am_cons (em_op op_mulA os_mul em_int (em_ixS (pv 2) em_int)) am_nil)) (aLen_cons (aLen_cons aLen_nil))))
    (ss_cons (sm_par (i := 5) (j := 6) rfl nd rfl rfl (by decide) rfl rfl (ad_cons (em_call (h_least_top.fk hr) rfl (am_cons (em_var (pv 0)) (am_cons (em_var (pv 1)) (am_cons (em_var (pv 4)) (am_cons (em_var (pv 3)) am_nil)))) (aLen_cons (aLen_cons (aLen_cons (aLen_cons aLen_nil))))) (ad_cons (em_call (h_greatest_top.fk hr) rfl (am_cons (em_var (pv 0)) (am_cons (em_var (pv 1)) (am_cons (em_var (pv 4)) (am_cons (em_var (pv 3)) am_nil)))) (aLen_cons (aLen_cons (aLen_cons (aLen_cons aLen_nil))))) ad_nil)) (by rfl))
    (ss_one (sm_ret (em_tup (am_cons (em_call (h_ratio_of.fk hr) rfl (am_cons (em_callB (call_maxA rfl) cs_max rfl T.b_max bt_max (am_cons em_int (am_cons (em_op op_sub os_sub (em_var (pv 5)) em_int) am_nil))) (am_cons (em_var (pv 3)) am_nil)) (aLen_cons (aLen_cons aLen_nil))) (am_cons (em_call (h_ratio_of.fk hr) rfl (am_cons (em_callB (call_minA rfl) cs_min rfl T.b_min bt_min (am_cons (em_var (pv 3)) (am_cons (em_op op_addA os_add (em_var (pv 6)) em_int) am_nil))) (am_cons (em_var (pv 3)) am_nil)) (aLen_cons (aLen_cons aLen_nil))) am_nil))))))))))

/-! _law_are_ends_right -/
abbrev s__law_are_ends_right : Stmt := topAt prog 52
abbrev N__law_are_ends_right : List Str := ["pot", "fresh", "low", "share", "new", "least", "most", "one", "other"]
def b__law_are_ends_right : MS :=
  (sSeq (sSet 4 (mB dInt (aCons (mCallL 0 f__law_take (lLend 0 (lCons (m2 dAdd (mVar 1) (mC (.int 1))) lNil))) aNil)))
    (sSeq (sPar [5, 6] (dCons (mCall f_least_unseen_share (aCons (mVar 1) (aCons (mVar 4) (aCons (mVar 3) (aCons (mVar 2) aNil))))) (dCons (mCall f_greatest_unseen_share (aCons (mVar 1) (aCons (mVar 4) (aCons (mVar 3) (aCons (mVar 2) aNil))))) dNil)))
    (sSeq (sIf (tOrm (tst (m2 dNe (mCall f_greatest_unseen_share (aCons (mVar 1) (aCons (m2 dSub (mVar 1) (mVar 4)) (aCons (mVar 3) (aCons (mVar 2) aNil))))) (mCall f__law_rest (aCons (mVar 5) aNil)))) (tst (m2 dNe (mCall f_least_unseen_share (aCons (mVar 1) (aCons (m2 dSub (mVar 1) (mVar 4)) (aCons (mVar 3) (aCons (mVar 2) aNil))))) (mCall f__law_rest (aCons (mVar 6) aNil))))) (sRet (mC (.bl false))) sNext)
    (sSeq (sPar [7, 8] (dCons (mCall f_unseen_stretch (aCons (mVar 1) (aCons (mVar 4) (aCons (mVar 3) (aCons (mVar 2) aNil))))) (dCons (mCall f_unseen_stretch (aCons (mVar 1) (aCons (m2 dSub (mVar 1) (mVar 4)) (aCons (mVar 3) (aCons (mVar 2) aNil))))) dNil)))
    (sSeq (sIf (tOrm (tst (m2 dNe (mVar 8) (mTup (aCons (mCall f__law_rest (aCons (mIxS 7 (mC (.int 1))) aNil)) (aCons (mCall f__law_rest (aCons (mIxS 7 (mC (.int 0))) aNil)) aNil))))) (tst (mCall f__law_below (aCons (mIxS 7 (mC (.int 1))) (aCons (mIxS 7 (mC (.int 0))) aNil))))) (sRet (mC (.bl false))) sNext)
    (sSeq (sIf (tOrm (tAndm (tst (m2 dEq (mVar 4) (mC (.int 0)))) (tst (m2 dNe (mVar 5) (mTup (aCons (mC (.int 0)) (aCons (mC (.int 1)) aNil)))))) (tAndm (tst (m2 dEq (mVar 4) (mVar 1))) (tst (m2 dNe (mVar 6) (mTup (aCons (mC (.int 1)) (aCons (mC (.int 1)) aNil))))))) (sRet (mC (.bl false))) sNext)
    (sSeq (sIf (tst (m2 dLt (mVar 4) (mVar 1))) (sIf (tOrm (tst (mCall f__law_below (aCons (mCall f_least_unseen_share (aCons (mVar 1) (aCons (m2 dAdd (mVar 4) (mC (.int 1))) (aCons (mVar 3) (aCons (mVar 2) aNil))))) (aCons (mVar 5) aNil)))) (tst (mCall f__law_below (aCons (mCall f_greatest_unseen_share (aCons (mVar 1) (aCons (m2 dAdd (mVar 4) (mC (.int 1))) (aCons (mVar 3) (aCons (mVar 2) aNil))))) (aCons (mVar 6) aNil))))) (sRet (mC (.bl false))) sNext) sNext)
    (sRet (mAnd (m1 dNot (mCall f__law_below (aCons (mVar 5) (aCons (mCall f_least_unseen_share (aCons (m2 dAdd (mVar 1) (mC (.int 1))) (aCons (mVar 4) (aCons (mVar 3) (aCons (mVar 2) aNil))))) aNil)))) (m1 dNot (mCall f__law_below (aCons (mVar 6) (aCons (mCall f_greatest_unseen_share (aCons (m2 dAdd (mVar 1) (mC (.int 1))) (aCons (mVar 4) (aCons (mVar 3) (aCons (mVar 2) aNil))))) aNil)))))))))))))
def f__law_are_ends_right : List D → Option (DV × D) := runFn (some 0) N__law_are_ends_right.length b__law_are_ends_right
theorem sc__law_are_ends_right : FnScope N__law_are_ends_right ["pot", "fresh", "low", "share"] (defScope s__law_are_ends_right) := ⟨rfl, rfl, rfl, by decide +kernel, rfl, by decide +kernel, by decide +kernel⟩
theorem d__law_are_ends_right (T : Txt K mg) (S : Src K mg "_law_are_ends_right" s__law_are_ends_right) (h__law_take : Def P w K mg base "_law_take" 1 (some 0) 2 f__law_take) (h__law_rest : Def P w K mg base "_law_rest" 3 none 1 f__law_rest) (h__law_below : Def P w K mg base "_law_below" 1 none 2 f__law_below) (h_least_unseen_share : Def P w K mg base "least_unseen_share" 6 none 4 f_least_unseen_share) (h_greatest_unseen_share : Def P w K mg base "greatest_unseen_share" 6 none 4 f_greatest_unseen_share) (h_unseen_stretch : Def P w K mg base "unseen_stretch" 6 none 4 f_unseen_stretch) : Def P w K mg base "_law_are_ends_right" 7 (some 0) 4 f__law_are_ends_right :=
  S.def_ (io := (some 0)) (N := N__law_are_ends_right) (m := b__law_are_ends_right) sc__law_are_ends_right rfl (fun _ _ _ _ _ _ us hl => match us, hl with | [_, _, _, _], _ => rfl) fun f cdv A outer s H E hr => by
    have nd := sc__law_are_ends_right.nd
    exact (ss_cons (sm_set (i := 4) nd rfl (Or.inl rfl) (em_callTy call_int1 cs_int rfl T.b_int bt_int (am_cons (em_callL (h__law_take.fk hr) rfl (al_lend (pv 0) (al_cons (em_op op_addA os_add (em_var (pv 1)) em_int) al_nil)) (lLen_lend (lLen_cons lLen_nil))) am_nil)))
    (ss_cons (sm_par (i := 5) (j := 6) rfl nd rfl rfl (by decide) rfl rfl (ad_cons (em_call (h_least_unseen_share.fk hr) rfl (am_cons (em_var (pv 1)) (am_cons (em_var (pv 4)) (am_cons (em_var (pv 3)) (am_cons (em_var (pv 2)) am_nil)))) (aLen_cons (aLen_cons (aLen_cons (aLen_cons aLen_nil))))) (ad_cons (em_call (h_greatest_unseen_share.fk hr) rfl (am_cons (em_var (pv 1)) (am_cons (em_var (pv 4)) (am_cons (em_var (pv 3)) (am_cons (em_var (pv 2)) am_nil)))) (aLen_cons (aLen_cons (aLen_cons (aLen_cons aLen_nil))))) ad_nil)) (by rfl))
    (ss_cons (sm_if (et_w (ew_or (et_cmp (op_neD hr.units) os_ne (em_call (h_greatest_unseen_share.fk hr) rfl (am_cons (em_var (pv 1)) (am_cons (em_op op_sub os_sub (em_var (pv 1)) (em_var (pv 4))) (am_cons (em_var (pv 3)) (am_cons (em_var (pv 2)) am_nil)))) (aLen_cons (aLen_cons (aLen_cons (aLen_cons aLen_nil))))) (em_call (h__law_rest.fk hr) rfl (am_cons (em_var (pv 5)) am_nil) (aLen_cons aLen_nil)) (nomark _)) (ew_or1 (et_cmp (op_neD hr.units) os_ne (em_call (h_least_unseen_share.fk hr) rfl (am_cons (em_var (pv 1)) (am_cons (em_op op_sub os_sub (em_var (pv 1)) (em_var (pv 4))) (am_cons (em_var (pv 3)) (am_cons (em_var (pv 2)) am_nil)))) (aLen_cons (aLen_cons (aLen_cons (aLen_cons aLen_nil))))) (em_call (h__law_rest.fk hr) rfl (am_cons (em_var (pv 6)) am_nil) (aLen_cons aLen_nil)) (nomark _))))) (ss_one (sm_ret em_bl)) ss_nil)
    (ss_cons (sm_par (i := 7) (j := 8) rfl nd rfl rfl (by decide) rfl rfl (ad_cons (em_call (h_unseen_stretch.fk hr) rfl (am_cons (em_var (pv 1)) (am_cons (em_var (pv 4)) (am_cons (em_var (pv 3)) (am_cons (em_var (pv 2)) am_nil)))) (aLen_cons (aLen_cons (aLen_cons (aLen_cons aLen_nil))))) (ad_cons (em_call (h_unseen_stretch.fk hr) rfl (am_cons (em_var (pv 1)) (am_cons (em_op op_sub os_sub (em_var (pv 1)) (em_var (pv 4))) (am_cons (em_var (pv 3)) (am_cons (em_var (pv 2)) am_nil)))) (aLen_cons (aLen_cons (aLen_cons (aLen_cons aLen_nil))))) ad_nil)) (by rfl))
    (ss_cons (sm_if (et_w (ew_or (et_cmp (op_neD hr.units) os_ne (em_var (pv 8)) (em_tup (am_cons (em_call (h__law_rest.fk hr) rfl (am_cons (em_ixS (pv 7) em_int) am_nil) (aLen_cons aLen_nil)) (am_cons (em_call (h__law_rest.fk hr) rfl (am_cons (em_ixS (pv 7) em_int) am_nil) (aLen_cons aLen_nil)) am_nil))) (nomark _)) (ew_or1 (et_val (em_call (h__law_below.fk hr) rfl (am_cons (em_ixS (pv 7) em_int) (am_cons (em_ixS (pv 7) em_int) am_nil)) (aLen_cons (aLen_cons aLen_nil))))))) (ss_one (sm_ret em_bl)) ss_nil)
    (ss_cons (sm_if (et_w (ew_or (et_w (ew_and (et_cmp (op_eqD hr.units) os_eq (em_var (pv 4)) em_int (nomark _)) (ew_and1 (et_cmp (op_neD hr.units) os_ne (em_var (pv 5)) (em_tup (am_cons em_int (am_cons em_int am_nil))) (nomark _))))) (ew_or1 (et_w (ew_and (et_cmp (op_eqD hr.units) os_eq (em_var (pv 4)) (em_var (pv 1)) (nomark _)) (ew_and1 (et_cmp (op_neD hr.units) os_ne (em_var (pv 6)) (em_tup (am_cons em_int (am_cons em_int am_nil))) (nomark _)))))))) (ss_one (sm_ret em_bl)) ss_nil)
    (ss_cons (sm_if (et_cmp op_lt os_lt (em_var (pv 4)) (em_var (pv 1)) (nomark _)) (ss_one (sm_if (et_w (ew_or (et_val (em_call (h__law_below.fk hr) rfl (am_cons (em_call (h_least_unseen_share.fk hr) rfl (am_cons (em_var (pv 1)) (am_cons (em_op op_addA os_add (em_var (pv 4)) em_int) (am_cons (em_var (pv 3)) (am_cons (em_var (pv 2)) am_nil)))) (aLen_cons (aLen_cons (aLen_cons (aLen_cons aLen_nil))))) (am_cons (em_var (pv 5)) am_nil)) (aLen_cons (aLen_cons aLen_nil)))) (ew_or1 (et_val (em_call (h__law_below.fk hr) rfl (am_cons (em_call (h_greatest_unseen_share.fk hr) rfl (am_cons (em_var (pv 1)) (am_cons (em_op op_addA os_add (em_var (pv 4)) em_int) (am_cons (em_var (pv 3)) (am_cons (em_var (pv 2)) am_nil)))) (aLen_cons (aLen_cons (aLen_cons (aLen_cons aLen_nil))))) (am_cons (em_var (pv 6)) am_nil)) (aLen_cons (aLen_cons aLen_nil))))))) (ss_one (sm_ret em_bl)) ss_nil)) ss_nil)
    (ss_one (sm_ret (em_and (em_not (em_call (h__law_below.fk hr) rfl (am_cons (em_var (pv 5)) (am_cons (em_call (h_least_unseen_share.fk hr) rfl (am_cons (em_op op_addA os_add (em_var (pv 1)) em_int) (am_cons (em_var (pv 4)) (am_cons (em_var (pv 3)) (am_cons (em_var (pv 2)) am_nil)))) (aLen_cons (aLen_cons (aLen_cons (aLen_cons aLen_nil))))) am_nil)) (aLen_cons (aLen_cons aLen_nil)))) (em_one (em_not (em_call (h__law_below.fk hr) rfl (am_cons (em_var (pv 6)) (am_cons (em_call (h_greatest_unseen_share.fk hr) rfl (am_cons (em_op op_addA os_add (em_var (pv 1)) em_int) (am_cons (em_var (pv 4)) (am_cons (em_var (pv 3)) (am_cons (em_var (pv 2)) am_nil)))) (aLen_cons (aLen_cons (aLen_cons (aLen_cons aLen_nil))))) am_nil)) (aLen_cons (aLen_cons aLen_nil)))))))))))))))

/-! check_two -/
abbrev s_check_two : Stmt := topAt prog 37
abbrev N_check_two : List Str := ["first", "second", "number", "size"]
def b_check_two : MS :=
  (sSeq (sFor (iSeq (mTup (aCons (mVar 0) (aCons (mVar 1) aNil)))) (gN 3) (sIf (tNotm (tst (mCall f_is_integer (aCons (mVar 3) (aCons (mC (.int 0)) (aCons (mC (.int 200)) aNil)))))) sNever sNext))
    (sIf (tNotm (tst (mCall f_is_integer (aCons (mVar 2) (aCons (mB dMax (aCons (mVar 0) (aCons (mVar 1) (aCons (mC (.int 1)) aNil)))) (aCons (mC (.int 1000)) aNil)))))) sNever sNext))
def f_check_two : List D → Option (DV × D) := runFn none N_check_two.length b_check_two
theorem sc_check_two : FnScope N_check_two ["first", "second", "number"] (defScope s_check_two) := ⟨rfl, rfl, rfl, by decide +kernel, rfl, by decide +kernel, by decide +kernel⟩
theorem d_check_two (T : Txt K mg) (S : Src K mg "check_two" s_check_two) (h_is_integer : Def P w K mg base "is_integer" 2 none 3 f_is_integer) : Def P w K mg base "check_two" 3 none 3 f_check_two :=
  S.def_ (io := none) (N := N_check_two) (m := b_check_two) sc_check_two rfl (fun _ _ _ _ _ _ us hl => match us, hl with | [_, _, _], _ => rfl) fun f cdv A outer s H E hr => by
    have nd := sc_check_two.nd
    exact (ss_cons (sm_for PassesOwn.never rfl (im_seq (em_tup (am_cons (em_var (pv 0)) (am_cons (em_var (pv 1)) am_nil)))) (gm_name (i := 3) nd rfl (Or.inl rfl)) (ss_one (sm_if (et_not (et_val (em_call (h_is_integer.fk hr) rfl (am_cons (em_var (pv 3)) (am_cons em_int (am_cons (em_glob rfl T.c_MOST_SIZE_histories) am_nil))) (aLen_cons (aLen_cons (aLen_cons aLen_nil)))))) ss_never ss_nil)))
    (ss_one (sm_if (et_not (et_val (em_call (h_is_integer.fk hr) rfl (am_cons (em_var (pv 2)) (am_cons (em_callB (call_maxA rfl) cs_max rfl T.b_max bt_max (am_cons (em_var (pv 0)) (am_cons (em_var (pv 1)) (am_cons em_int am_nil)))) (am_cons (em_glob rfl T.c_MOST_THERE) am_nil))) (aLen_cons (aLen_cons (aLen_cons aLen_nil)))))) ss_never ss_nil)))

/-! both_row -/
abbrev s_both_row : Stmt := topAt prog 39
abbrev N_both_row : List Str := ["first", "second", "number", "whole", "found", "both", "ways"]
def b_both_row : MS :=
  (sSeq (sExpr (mCall f_check_two (aCons (mVar 0) (aCons (mVar 1) (aCons (mVar 2) aNil)))))
    (sSeq (sPar [3, 4] (dCons (mCall f_choose_of (aCons (mVar 2) (aCons (mVar 1) aNil))) (dCons (mLst aNil) dNil)))
    (sSeq (sFor (iRng (aCons (mB dMax (aCons (mC (.int 0)) (aCons (m2 dSub (m2 dAdd (mVar 0) (mVar 1)) (mVar 2)) aNil))) (aCons (m2 dAdd (mB dMin (aCons (mVar 0) (aCons (mVar 1) aNil))) (mC (.int 1))) aNil))) (gN 5) (sSeq (sSet 6 (m2 dMul (mCall f_choose_of (aCons (mVar 0) (aCons (mVar 5) aNil))) (mCall f_choose_of (aCons (m2 dSub (mVar 2) (mVar 0)) (aCons (m2 dSub (mVar 1) (mVar 5)) aNil)))))
    (sApp 4 (mTup (aCons (mVar 5) (aCons (mCall f_ratio_of (aCons (mVar 6) (aCons (mVar 3) aNil))) aNil))))))
    (sRet (mB dTuple (aCons (mVar 4) aNil))))))
def f_both_row : List D → Option (DV × D) := runFn none N_both_row.length b_both_row
theorem sc_both_row : FnScope N_both_row ["first", "second", "number"] (defScope s_both_row) := ⟨rfl, rfl, rfl, by decide +kernel, rfl, by decide +kernel, by decide +kernel⟩
theorem d_both_row (T : Txt K mg) (S : Src K mg "both_row" s_both_row) (h_ratio_of : Def P w K mg base "ratio_of" 2 none 2 f_ratio_of) (h_choose_of : Def P w K mg base "choose_of" 1 none 2 f_choose_of) (h_check_two : Def P w K mg base "check_two" 3 none 3 f_check_two) : Def P w K mg base "both_row" 4 none 3 f_both_row :=
  S.def_ (io := none) (N := N_both_row) (m := b_both_row) sc_both_row rfl (fun _ _ _ _ _ _ us hl => match us, hl with | [_, _, _], _ => rfl) fun f cdv A outer s H E hr => by
    have nd := sc_both_row.nd
    exact (ss_cons (sm_expr (em_call (h_check_two.fk hr) rfl (am_cons (em_var (pv 0)) (am_cons (em_var (pv 1)) (am_cons (em_var (pv 2)) am_nil))) (aLen_cons (aLen_cons (aLen_cons aLen_nil)))))
    (ss_cons (sm_par (i := 3) (j := 4) rfl nd rfl rfl (by decide) rfl rfl (ad_cons (em_call (h_choose_of.fk hr) rfl (am_cons (em_var (pv 2)) (am_cons (em_var (pv 1)) am_nil)) (aLen_cons (aLen_cons aLen_nil))) (ad_cons (em_lst am_nil) ad_nil)) (by rfl))
    (ss_cons (sm_for PassesOwn.never rfl (im_range2 rfl T.b_range (am_cons (em_callB (call_maxA rfl) cs_max rfl T.b_max bt_max (am_cons em_int (am_cons (em_op op_sub os_sub (em_op op_addA os_add (em_var (pv 0)) (em_var (pv 1))) (em_var (pv 2))) am_nil))) (am_cons (em_op op_addA os_add (em_callB (call_minA rfl) cs_min rfl T.b_min bt_min (am_cons (em_var (pv 0)) (am_cons (em_var (pv 1)) am_nil))) em_int) am_nil)) (aLen_cons (aLen_cons aLen_nil))) (gm_name (i := 5) nd rfl (Or.inl rfl)) (ss_cons (sm_set (i := 6) nd rfl (Or.inl rfl) (em_op op_mulA os_mul (em_call (h_choose_of.fk hr) rfl (am_cons (em_var (pv 0)) (am_cons (em_var (pv 5)) am_nil)) (aLen_cons (aLen_cons aLen_nil))) (em_call (h_choose_of.fk hr) rfl (am_cons (em_op op_sub os_sub (em_var (pv 2)) (em_var (pv 0))) (am_cons (em_op op_sub os_sub (em_var (pv 1)) (em_var (pv 5))) am_nil)) (aLen_cons (aLen_cons aLen_nil)))))
    (ss_one (sm_append (pv 4) (em_tup (am_cons (em_var (pv 5)) (am_cons (em_call (h_ratio_of.fk hr) rfl (am_cons (em_var (pv 6)) (am_cons (em_var (pv 3)) am_nil)) (aLen_cons (aLen_cons aLen_nil))) am_nil))) (fun to te ho he => pe_bm PySem.F.plainAttrs_list PySem.F.slot_list_append PySem.F.type_list_append mt_append ho (pa_cons he pa_nil))))))
    (ss_one (sm_ret (em_callTy call_tuple_of cs_tuple rfl T.b_tuple bt_tuple (am_cons (em_var (pv 4)) am_nil)))))))

/-! _law_of -/
abbrev s__law_of : Stmt := topAt prog 43
abbrev N__law_of : List Str := ["pot", "some"]
def b__law_of : MS :=
  (sRet (mIxS 1 (mCallL 0 f__law_take (lLend 0 (lCons (mLenS 1) lNil)))))
def f__law_of : List D → Option (DV × D) := runFn (some 0) N__law_of.length b__law_of
theorem sc__law_of : FnScope N__law_of ["pot", "some"] (defScope s__law_of) := ⟨rfl, rfl, rfl, by decide +kernel, rfl, by decide +kernel, by decide +kernel⟩
theorem d__law_of (T : Txt K mg) (S : Src K mg "_law_of" s__law_of) (h__law_take : Def P w K mg base "_law_take" 1 (some 0) 2 f__law_take) : Def P w K mg base "_law_of" 2 (some 0) 2 f__law_of :=
  S.def_ (io := (some 0)) (N := N__law_of) (m := b__law_of) sc__law_of rfl (fun _ _ _ _ _ _ us hl => match us, hl with | [_, _], _ => rfl) fun f cdv A outer s H E hr => by
    have nd := sc__law_of.nd
    exact (ss_one (sm_ret (em_ixS (pv 1) (em_callL (h__law_take.fk hr) rfl (al_lend (pv 0) (al_cons (em_lenS rfl T.b_len bt_len (pv 1)) al_nil)) (lLen_lend (lLen_cons lLen_nil))))))

/-! _law_are_lots_right -/
abbrev s__law_are_lots_right : Stmt := topAt prog 53
abbrev N__law_are_lots_right : List Str := ["pot", "number", "first", "second", "row", "rest", "both", "chance"]
def b__law_are_lots_right : MS :=
  (sSeq (sSet 1 (m2 dAdd (mC (.int 2)) (mB dInt (aCons (mCallL 0 f__law_take (lLend 0 (lCons (mCallL 0 f__law_of (lLend 0 (lCons (mLst (aCons (mC (.int 8)) (aCons (mC (.int 90)) aNil))) lNil))) lNil))) aNil))))
    (sSeq (sPar [2, 3] (dCons (m2 dAdd (mC (.int 1)) (mB dInt (aCons (mCallL 0 f__law_take (lLend 0 (lCons (m2 dSub (mVar 1) (mC (.int 1))) lNil))) aNil))) (dCons (m2 dAdd (mC (.int 1)) (mB dInt (aCons (mCallL 0 f__law_take (lLend 0 (lCons (m2 dSub (mVar 1) (mC (.int 1))) lNil))) aNil))) dNil)))
    (sSeq (sSet 4 (mCall f_both_row (aCons (mVar 2) (aCons (mVar 3) (aCons (mVar 1) aNil)))))
    (sSeq (sIf (tst (m2 dNe (mCall f_both_row (aCons (mVar 3) (aCons (mVar 2) (aCons (mVar 1) aNil)))) (mVar 4))) (sRet (mC (.bl false))) sNext)
    (sSeq (sSet 5 (mB dTuple (aCons (mLc (iSeq (mRev (mVar 4))) (gT (gsCons (gN 6) (gsCons (gN 7) gsNil))) tYesM (mTup (aCons (m2 dSub (mVar 3) (mVar 6)) (aCons (mVar 7) aNil))) [6, 7]) aNil)))
    (sRet (mIf (tst (m2 dLt (mVar 2) (mVar 1))) (m2 dEq (mCall f_both_row (aCons (m2 dSub (mVar 1) (mVar 2)) (aCons (mVar 3) (aCons (mVar 1) aNil)))) (mVar 5)) (mC (.bl true)))))))))
def f__law_are_lots_right : List D → Option (DV × D) := runFn (some 0) N__law_are_lots_right.length b__law_are_lots_right
theorem sc__law_are_lots_right : FnScope N__law_are_lots_right ["pot"] (defScope s__law_are_lots_right) := ⟨rfl, rfl, rfl, by decide +kernel, rfl, by decide +kernel, by decide +kernel⟩
theorem d__law_are_lots_right (T : Txt K mg) (S : Src K mg "_law_are_lots_right" s__law_are_lots_right) (h__law_take : Def P w K mg base "_law_take" 1 (some 0) 2 f__law_take) (h_both_row : Def P w K mg base "both_row" 4 none 3 f_both_row) (h__law_of : Def P w K mg base "_law_of" 2 (some 0) 2 f__law_of) : Def P w K mg base "_law_are_lots_right" 5 (some 0) 1 f__law_are_lots_right :=
  S.def_ (io := (some 0)) (N := N__law_are_lots_right) (m := b__law_are_lots_right) sc__law_are_lots_right rfl (fun _ _ _ _ _ _ us hl => match us, hl with | [_], _ => rfl) fun f cdv A outer s H E hr => by
    have nd := sc__law_are_lots_right.nd
    exact (ss_cons (sm_set (i := 1) nd rfl (Or.inl rfl) (em_op op_addA os_add em_int (em_callTy call_int1 cs_int rfl T.b_int bt_int (am_cons (em_callL (h__law_take.fk hr) rfl (al_lend (pv 0) (al_cons (em_callL (h__law_of.fk hr) rfl (al_lend (pv 0) (al_cons (em_lst (am_cons em_int (am_cons em_int am_nil))) al_nil)) (lLen_lend (lLen_cons lLen_nil))) al_nil)) (lLen_lend (lLen_cons lLen_nil))) am_nil))))
    (ss_cons (sm_parT (is := [2, 3]) (ad_cons (em_op op_addA os_add em_int (em_callTy call_int1 cs_int rfl T.b_int bt_int (am_cons (em_callL (h__law_take.fk hr) rfl (al_lend (pv 0) (al_cons (em_op op_sub os_sub (em_var (pv 1)) em_int) al_nil)) (lLen_lend (lLen_cons lLen_nil))) am_nil))) (ad_cons (em_op op_addA os_add em_int (em_callTy call_int1 cs_int rfl T.b_int bt_int (am_cons (em_callL (h__law_take.fk hr) rfl (al_lend (pv 0) (al_cons (em_op op_sub os_sub (em_var (pv 1)) em_int) al_nil)) (lLen_lend (lLen_cons lLen_nil))) am_nil))) ad_nil)) (pg_tup rfl (pgs_cons (pg_name (i := 2) nd rfl (Or.inl rfl)) (pgs_cons (pg_name (i := 3) nd rfl (Or.inr rfl)) pgs_nil))))
    (ss_cons (sm_set (i := 4) nd rfl (Or.inl rfl) (em_call (h_both_row.fk hr) rfl (am_cons (em_var (pv 2)) (am_cons (em_var (pv 3)) (am_cons (em_var (pv 1)) am_nil))) (aLen_cons (aLen_cons (aLen_cons aLen_nil)))))
    (ss_cons (sm_if (et_cmp (op_neD hr.units) os_ne (em_call (h_both_row.fk hr) rfl (am_cons (em_var (pv 3)) (am_cons (em_var (pv 2)) (am_cons (em_var (pv 1)) am_nil))) (aLen_cons (aLen_cons (aLen_cons aLen_nil)))) (em_var (pv 4)) (nomark _)) (ss_one (sm_ret em_bl)) ss_nil)
    (ss_cons (sm_set (i := 5) nd rfl (Or.inl rfl) (em_callTy call_tuple_of cs_tuple rfl T.b_tuple bt_tuple (am_cons (em_lc (own := [("both", 6), ("chance", 7)]) (by decide) rfl nd (im_seq (em_rev (em_var (pv 4)))) (blkOk_by (N := N__law_are_lots_right) (sc := defScope s__law_are_lots_right) (own := [("both", 6), ("chance", 7)]) (by decide +kernel)) (fun _ _ _ _ _ => (gm_tup rfl (gs_cons (gm_name (i := 6) nd rfl (Or.inl rfl)) (gs_cons (gm_name (i := 7) nd rfl (Or.inl rfl)) gs_nil)) (gsLen_cons (gsLen_cons gsLen_nil)))) (fun _ _ _ _ _ => tm_nil) (fun _ _ _ _ _ => (em_tup (am_cons (em_op op_sub os_sub (em_var (pv 3)) (em_var (pv 6))) (am_cons (em_var (pv 7)) am_nil))))) am_nil)))
    (ss_one (sm_ret (em_if (et_cmp op_lt os_lt (em_var (pv 2)) (em_var (pv 1)) (nomark _)) (em_cmp (op_eqD hr.units) os_eq (em_call (h_both_row.fk hr) rfl (am_cons (em_op op_sub os_sub (em_var (pv 1)) (em_var (pv 2))) (am_cons (em_var (pv 3)) (am_cons (em_var (pv 1)) am_nil))) (aLen_cons (aLen_cons (aLen_cons aLen_nil)))) (em_var (pv 5)) (nomark _)) em_bl))))))))

/-! _law_part -/
abbrev s__law_part : Stmt := topAt prog 49
abbrev N__law_part : List Str := ["pot"]
def b__law_part : MS :=
  (sRet (mCallL 0 f__law_of (lLend 0 (lCons (mLst (aCons (mTup (aCons (mC (.int 1)) (aCons (mC (.int 20)) aNil))) (aCons (mTup (aCons (mC (.int 1)) (aCons (mC (.int 4)) aNil))) (aCons (mTup (aCons (mC (.int 1)) (aCons (mC (.int 2)) aNil))) (aCons (mTup (aCons (mC (.int 0)) (aCons (mC (.int 1)) aNil))) (aCons (mTup (aCons (mC (.int 9)) (aCons (mC (.int 10)) aNil))) (aCons (mTup (aCons (mC (.int 1)) (aCons (mC (.int 3)) aNil))) (aCons (mTup (aCons (mC (.int 1)) (aCons (mC (.int 100)) aNil))) (aCons (mTup (aCons (mC (.int 2)) (aCons (mC (.int 7)) aNil))) aNil))))))))) lNil))))
def f__law_part : List D → Option (DV × D) := runFn (some 0) N__law_part.length b__law_part
theorem sc__law_part : FnScope N__law_part ["pot"] (defScope s__law_part) := ⟨rfl, rfl, rfl, by decide +kernel, rfl, by decide +kernel, by decide +kernel⟩
theorem d__law_part (T : Txt K mg) (S : Src K mg "_law_part" s__law_part) (h__law_of : Def P w K mg base "_law_of" 2 (some 0) 2 f__law_of) : Def P w K mg base "_law_part" 3 (some 0) 1 f__law_part :=
  S.def_ (io := (some 0)) (N := N__law_part) (m := b__law_part) sc__law_part rfl (fun _ _ _ _ _ _ us hl => match us, hl with | [_], _ => rfl) fun f cdv A outer s H E hr => by
    have nd := sc__law_part.nd
    exact (ss_one (sm_ret (em_callL (h__law_of.fk hr) rfl (al_lend (pv 0) (al_cons (em_lst (am_cons (em_tup (am_cons em_int (am_cons em_int am_nil))) (am_cons (em_tup (am_cons em_int (am_cons em_int am_nil))) (am_cons (em_tup (am_cons em_int (am_cons em_int am_nil))) (am_cons (em_tup (am_cons em_int (am_cons em_int am_nil))) (am_cons (em_tup (am_cons em_int (am_cons em_int am_nil))) (am_cons (em_tup (am_cons em_int (am_cons em_int am_nil))) (am_cons (em_tup (am_cons em_int (am_cons em_int am_nil))) (am_cons (em_tup (am_cons em_int (am_cons em_int am_nil))) am_nil))))))))) al_nil)) (lLen_lend (lLen_cons lLen_nil)))))

/-! law -/
abbrev s_law : Stmt := topAt prog 54
abbrev N_law : List Str := ["script", "place", "pot", "fresh", "low"]
def b_law : MS :=
  (sSeq (sFor (iSeq (mCall f__law_cells (aCons (mVar 0) (aCons (mC (.int 2)) aNil)))) (gN 1) (sSeq (sSet 2 (mCall f__law_pot (aCons (mVar 0) (aCons (mVar 1) aNil))))
    (sSeq (sPar [3, 4] (dCons (m2 dAdd (mC (.int 1)) (mB dInt (aCons (mCallL 0 f__law_take (lLend 2 (lCons (mCallL 0 f__law_of (lLend 2 (lCons (mLst (aCons (mC (.int 5)) (aCons (mC (.int 40)) aNil))) lNil))) lNil))) aNil))) (dCons (m2 dAdd (mC (.int 1)) (mB dInt (aCons (mCallL 0 f__law_take (lLend 2 (lCons (mCallL 0 f__law_of (lLend 2 (lCons (mLst (aCons (mC (.int 4)) (aCons (mC (.int 100)) (aCons (mC (.int 1000)) aNil)))) lNil))) lNil))) aNil))) dNil)))
    (sIf (tOrm (tNotm (tst (mCallL 0 f__law_are_chances_right (lLend 2 (lCons (mVar 3) (lCons (mVar 4) lNil)))))) (tOrm (tNotm (tst (mCallL 0 f__law_are_ends_right (lLend 2 (lCons (mVar 3) (lCons (mVar 4) (lCons (mCallL 0 f__law_part (lLend 2 lNil)) lNil))))))) (tNotm (tst (mCallL 0 f__law_are_lots_right (lLend 2 lNil)))))) (sRet (mC (.bl false))) sNext))))
    (sRet (mC (.bl true))))
def f_law : List D → Option (DV × D) := runFn none N_law.length b_law
theorem sc_law : FnScope N_law ["script"] (defScope s_law) := ⟨rfl, rfl, rfl, by decide +kernel, rfl, by decide +kernel, by decide +kernel⟩
theorem d_law (T : Txt K mg) (S : Src K mg "law" s_law) (h__law_cells : Def P w K mg base "_law_cells" 1 none 2 f__law_cells) (h__law_pot : Def P w K mg base "_law_pot" 1 none 2 f__law_pot) (h__law_take : Def P w K mg base "_law_take" 1 (some 0) 2 f__law_take) (h__law_are_chances_right : Def P w K mg base "_law_are_chances_right" 6 (some 0) 3 f__law_are_chances_right) (h__law_are_ends_right : Def P w K mg base "_law_are_ends_right" 7 (some 0) 4 f__law_are_ends_right) (h__law_of : Def P w K mg base "_law_of" 2 (some 0) 2 f__law_of) (h__law_are_lots_right : Def P w K mg base "_law_are_lots_right" 5 (some 0) 1 f__law_are_lots_right) (h__law_part : Def P w K mg base "_law_part" 3 (some 0) 1 f__law_part) : Def P w K mg base "law" 8 none 1 f_law :=
  S.def_ (io := none) (N := N_law) (m := b_law) sc_law rfl (fun _ _ _ _ _ _ us hl => match us, hl with | [_], _ => rfl) fun f cdv A outer s H E hr => by
    have nd := sc_law.nd
    exact (ss_cons (sm_for PassesOwn.never rfl (im_seq (em_call (h__law_cells.fk hr) rfl (am_cons (em_var (pv 0)) (am_cons em_int am_nil)) (aLen_cons (aLen_cons aLen_nil)))) (gm_name (i := 1) nd rfl (Or.inl rfl)) (ss_cons (sm_set (i := 2) nd rfl (Or.inl rfl) (em_call (h__law_pot.fk hr) rfl (am_cons (em_var (pv 0)) (am_cons (em_var (pv 1)) am_nil)) (aLen_cons (aLen_cons aLen_nil))))
    (ss_cons (sm_par (i := 3) (j := 4) rfl nd rfl rfl (by decide) rfl rfl (ad_cons (em_op op_addA os_add em_int (em_callTy call_int1 cs_int rfl T.b_int bt_int (am_cons (em_callL (h__law_take.fk hr) rfl (al_lend (pv 2) (al_cons (em_callL (h__law_of.fk hr) rfl (al_lend (pv 2) (al_cons (em_lst (am_cons em_int (am_cons em_int am_nil))) al_nil)) (lLen_lend (lLen_cons lLen_nil))) al_nil)) (lLen_lend (lLen_cons lLen_nil))) am_nil))) (ad_cons (em_op op_addA os_add em_int (em_callTy call_int1 cs_int rfl T.b_int bt_int (am_cons (em_callL (h__law_take.fk hr) rfl (al_lend (pv 2) (al_cons (em_callL (h__law_of.fk hr) rfl (al_lend (pv 2) (al_cons (em_lst (am_cons em_int (am_cons em_int (am_cons em_int am_nil)))) al_nil)) (lLen_lend (lLen_cons lLen_nil))) al_nil)) (lLen_lend (lLen_cons lLen_nil))) am_nil))) ad_nil)) (by rfl))
    (ss_one (sm_if (et_w (ew_or (et_not (et_val (em_callL (h__law_are_chances_right.fk hr) rfl (al_lend (pv 2) (al_cons (em_var (pv 3)) (al_cons (em_var (pv 4)) al_nil))) (lLen_lend (lLen_cons (lLen_cons lLen_nil)))))) (ew_or (et_not (et_val (em_callL (h__law_are_ends_right.fk hr) rfl (al_lend (pv 2) (al_cons (em_var (pv 3)) (al_cons (em_var (pv 4)) (al_cons (em_callL (h__law_part.fk hr) rfl (al_lend (pv 2) al_nil) (lLen_lend lLen_nil)) al_nil)))) (lLen_lend (lLen_cons (lLen_cons (lLen_cons lLen_nil))))))) (ew_or1 (et_not (et_val (em_callL (h__law_are_lots_right.fk hr) rfl (al_lend (pv 2) al_nil) (lLen_lend lLen_nil)))))))) (ss_one (sm_ret em_bl)) ss_nil)))))
    (ss_one (sm_ret em_bl)))

theorem fn_law (T : Txt K mg) {fd : FuncData} (F : FunD K "law" "law" (defArgs s_law) (defBody s_law) (defScope s_law) [] [] (ga K "law") fd) (h__law_cells : Def P w K mg base "_law_cells" 1 none 2 f__law_cells) (h__law_pot : Def P w K mg base "_law_pot" 1 none 2 f__law_pot) (h__law_take : Def P w K mg base "_law_take" 1 (some 0) 2 f__law_take) (h__law_are_chances_right : Def P w K mg base "_law_are_chances_right" 6 (some 0) 3 f__law_are_chances_right) (h__law_are_ends_right : Def P w K mg base "_law_are_ends_right" 7 (some 0) 4 f__law_are_ends_right) (h__law_of : Def P w K mg base "_law_of" 2 (some 0) 2 f__law_of) (h__law_are_lots_right : Def P w K mg base "_law_are_lots_right" 5 (some 0) 1 f__law_are_lots_right) (h__law_part : Def P w K mg base "_law_part" 3 (some 0) 1 f__law_part) : FnOk P w K mg base CX0 8 (ga K "law") fd ["script"] (spF K none 1 f_law) :=
  fn_ok (io := none) (N := N_law) (m := b_law) F sc_law rfl fun cdv A outer s H E hr => by
    have nd := sc_law.nd
    exact (ss_cons (sm_for PassesOwn.never rfl (im_seq (em_call (h__law_cells.fk hr) rfl (am_cons (em_var (pv 0)) (am_cons em_int am_nil)) (aLen_cons (aLen_cons aLen_nil)))) (gm_name (i := 1) nd rfl (Or.inl rfl)) (ss_cons (sm_set (i := 2) nd rfl (Or.inl rfl) (em_call (h__law_pot.fk hr) rfl (am_cons (em_var (pv 0)) (am_cons (em_var (pv 1)) am_nil)) (aLen_cons (aLen_cons aLen_nil))))
    (ss_cons (sm_par (i := 3) (j := 4) rfl nd rfl rfl (by decide) rfl rfl (ad_cons (em_op op_addA os_add em_int (em_callTy call_int1 cs_int rfl T.b_int bt_int (am_cons (em_callL (h__law_take.fk hr) rfl (al_lend (pv 2) (al_cons (em_callL (h__law_of.fk hr) rfl (al_lend (pv 2) (al_cons (em_lst (am_cons em_int (am_cons em_int am_nil))) al_nil)) (lLen_lend (lLen_cons lLen_nil))) al_nil)) (lLen_lend (lLen_cons lLen_nil))) am_nil))) (ad_cons (em_op op_addA os_add em_int (em_callTy call_int1 cs_int rfl T.b_int bt_int (am_cons (em_callL (h__law_take.fk hr) rfl (al_lend (pv 2) (al_cons (em_callL (h__law_of.fk hr) rfl (al_lend (pv 2) (al_cons (em_lst (am_cons em_int (am_cons em_int (am_cons em_int am_nil)))) al_nil)) (lLen_lend (lLen_cons lLen_nil))) al_nil)) (lLen_lend (lLen_cons lLen_nil))) am_nil))) ad_nil)) (by rfl))
    (ss_one (sm_if (et_w (ew_or (et_not (et_val (em_callL (h__law_are_chances_right.fk hr) rfl (al_lend (pv 2) (al_cons (em_var (pv 3)) (al_cons (em_var (pv 4)) al_nil))) (lLen_lend (lLen_cons (lLen_cons lLen_nil)))))) (ew_or (et_not (et_val (em_callL (h__law_are_ends_right.fk hr) rfl (al_lend (pv 2) (al_cons (em_var (pv 3)) (al_cons (em_var (pv 4)) (al_cons (em_callL (h__law_part.fk hr) rfl (al_lend (pv 2) al_nil) (lLen_lend lLen_nil)) al_nil)))) (lLen_lend (lLen_cons (lLen_cons (lLen_cons lLen_nil))))))) (ew_or1 (et_not (et_val (em_callL (h__law_are_lots_right.fk hr) rfl (al_lend (pv 2) al_nil) (lLen_lend lLen_nil)))))))) (ss_one (sm_ret em_bl)) ss_nil)))))
    (ss_one (sm_ret em_bl)))
end
/-! the head -/
def fn : List DefD := [datum "_law_cells" s__law_cells, datum "_law_pot" s__law_pot, datum "_law_gcd" s__law_gcd, datum "_law_ratio" s__law_ratio, datum "_law_plus" s__law_plus, datum "is_whole" s_is_whole, datum "is_integer" s_is_integer, datum "check_fresh" s_check_fresh, datum "common_of" s_common_of, datum "ratio_of" s_ratio_of, datum "whole_power" s_whole_power, datum "choose_of" s_choose_of, datum "new_from" s_new_from, datum "is_tuple" s_is_tuple, datum "is_size" s_is_size, datum "is_fraction" s_is_fraction, datum "is_share" s_is_share, datum "new_chance" s_new_chance, datum "_law_take" s__law_take, datum "_law_rest" s__law_rest, datum "_law_below" s__law_below, datum "_law_are_chances_right" s__law_are_chances_right, datum "check_part" s_check_part, datum "check_low" s_check_low, datum "is_below" s_is_below, datum "least_top" s_least_top, datum "least_unseen_share" s_least_unseen_share, datum "greatest_top" s_greatest_top, datum "greatest_unseen_share" s_greatest_unseen_share, datum "unseen_stretch" s_unseen_stretch, datum "_law_are_ends_right" s__law_are_ends_right, datum "check_two" s_check_two, datum "both_row" s_both_row, datum "_law_of" s__law_of, datum "_law_are_lots_right" s__law_are_lots_right, datum "_law_part" s__law_part, datum "law" s_law]
def fa : List Fa := [.glo "_law_cells", .glo "_law_pot", .glo "_law_gcd", .glo "_law_ratio", .glo "_law_plus", .glo "is_whole", .glo "is_integer", .glo "check_fresh", .glo "common_of", .glo "ratio_of", .glo "whole_power", .glo "choose_of", .glo "new_from", .glo "is_tuple", .glo "is_size", .glo "is_fraction", .glo "is_share", .glo "new_chance", .glo "_law_take", .glo "_law_rest", .glo "_law_below", .glo "_law_are_chances_right", .glo "check_part", .glo "check_low", .glo "is_below", .glo "least_top", .glo "least_unseen_share", .glo "greatest_top", .glo "greatest_unseen_share", .glo "unseen_stretch", .glo "_law_are_ends_right", .glo "check_two", .glo "both_row", .glo "_law_of", .glo "_law_are_lots_right", .glo "_law_part", .glo "law", .free "abs", .free "all", .free "bool", .free "int", .free "isinstance", .free "len", .free "list", .free "max", .free "min", .free "range", .free "sum", .free "tuple"]
def cs : List (Str × D) := [("MOST_FRESH", (.int 400)), ("MOST_LOW", (.int 1000)), ("MOST_SIZE_fractions", (.int 10000000000000000000000000000000000000000)), ("MOST_SIZE_histories", (.int 200)), ("MOST_THERE", (.int 1000)), ("ONE_WHOLE", (.tup [(.int 1), (.int 1)])), ("PAIR", (.int 2))]
theorem lawFn {w : World} {K : PySem.W.Frag} {mg : Str → Option Value} {h : Heap} {fa : Addr} (X : K.In h) (G : h.Ns mainGlobals mg) (hfa : mg ("law" : Str) = some (.ref fa)) (c : SaysC Wk61.fa cs fn K) :
    ∃ fd : FuncData, (∀ (s : Shared) (v : Value), BindsTo s fd ⟨[v], []⟩ [("script", v)]) ∧ ∀ base : Heap, K.In base → base.Ns mainGlobals mg → FnOk prog w K mg base CX0 8 fa fd ["script"] (spF K none 1 f_law) := by
  obtain ⟨fd, F⟩ := c.def_ 36 (d := datum "law" s_law) rfl
  have e := hfa.symm.trans (glo_ok X G (c.fact 36 (f := .glo "law") rfl))
  cases e
  have b := FunD.bindsA (ps := ["script"]) F fun _ _ _ _ _ _ us hl => match us, hl with | [_], _ => rfl
  refine ⟨fd, fun s v => b s [v] rfl, fun base _ _ => ?_⟩
  have T : Txt K mg := ⟨free_ok X G (c.fact 37 (f := .free "abs") rfl), free_ok X G (c.fact 38 (f := .free "all") rfl), free_ok X G (c.fact 39 (f := .free "bool") rfl), free_ok X G (c.fact 40 (f := .free "int") rfl), free_ok X G (c.fact 41 (f := .free "isinstance") rfl), free_ok X G (c.fact 42 (f := .free "len") rfl), free_ok X G (c.fact 43 (f := .free "list") rfl), free_ok X G (c.fact 44 (f := .free "max") rfl), free_ok X G (c.fact 45 (f := .free "min") rfl), free_ok X G (c.fact 46 (f := .free "range") rfl), free_ok X G (c.fact 47 (f := .free "sum") rfl), free_ok X G (c.fact 48 (f := .free "tuple") rfl), conB_ok X G (c.con 0 (f := ("MOST_FRESH", (.int 400))) rfl), conB_ok X G (c.con 1 (f := ("MOST_LOW", (.int 1000))) rfl), conB_ok X G (c.con 2 (f := ("MOST_SIZE_fractions", (.int 10000000000000000000000000000000000000000))) rfl), conB_ok X G (c.con 3 (f := ("MOST_SIZE_histories", (.int 200))) rfl), conB_ok X G (c.con 4 (f := ("MOST_THERE", (.int 1000))) rfl), conB_ok X G (c.con 5 (f := ("ONE_WHOLE", (.tup [(.int 1), (.int 1)]))) rfl), conB_ok X G (c.con 6 (f := ("PAIR", (.int 2))) rfl)⟩
  have h__law_cells : Def prog w K mg base "_law_cells" 1 none 2 f__law_cells := d__law_cells T ⟨c.def_ 0 (d := datum "_law_cells" s__law_cells) rfl, glo_ok X G (c.fact 0 (f := .glo "_law_cells") rfl)⟩ 
  have h__law_pot : Def prog w K mg base "_law_pot" 1 none 2 f__law_pot := d__law_pot T ⟨c.def_ 1 (d := datum "_law_pot" s__law_pot) rfl, glo_ok X G (c.fact 1 (f := .glo "_law_pot") rfl)⟩ 
  have h__law_gcd : Def prog w K mg base "_law_gcd" 1 none 2 f__law_gcd := d__law_gcd T ⟨c.def_ 2 (d := datum "_law_gcd" s__law_gcd) rfl, glo_ok X G (c.fact 2 (f := .glo "_law_gcd") rfl)⟩ 
  have h__law_ratio : Def prog w K mg base "_law_ratio" 2 none 2 f__law_ratio := d__law_ratio T ⟨c.def_ 3 (d := datum "_law_ratio" s__law_ratio) rfl, glo_ok X G (c.fact 3 (f := .glo "_law_ratio") rfl)⟩ h__law_gcd
  have h__law_plus : Def prog w K mg base "_law_plus" 3 none 2 f__law_plus := d__law_plus T ⟨c.def_ 4 (d := datum "_law_plus" s__law_plus) rfl, glo_ok X G (c.fact 4 (f := .glo "_law_plus") rfl)⟩ h__law_ratio
  have h_is_whole : Def prog w K mg base "is_whole" 1 none 1 f_is_whole := d_is_whole T ⟨c.def_ 5 (d := datum "is_whole" s_is_whole) rfl, glo_ok X G (c.fact 5 (f := .glo "is_whole") rfl)⟩ 
  have h_is_integer : Def prog w K mg base "is_integer" 2 none 3 f_is_integer := d_is_integer T ⟨c.def_ 6 (d := datum "is_integer" s_is_integer) rfl, glo_ok X G (c.fact 6 (f := .glo "is_integer") rfl)⟩ h_is_whole
  have h_check_fresh : Def prog w K mg base "check_fresh" 3 none 2 f_check_fresh := d_check_fresh T ⟨c.def_ 7 (d := datum "check_fresh" s_check_fresh) rfl, glo_ok X G (c.fact 7 (f := .glo "check_fresh") rfl)⟩ h_is_integer
  have h_common_of : Def prog w K mg base "common_of" 1 none 2 f_common_of := d_common_of T ⟨c.def_ 8 (d := datum "common_of" s_common_of) rfl, glo_ok X G (c.fact 8 (f := .glo "common_of") rfl)⟩ 
  have h_ratio_of : Def prog w K mg base "ratio_of" 2 none 2 f_ratio_of := d_ratio_of T ⟨c.def_ 9 (d := datum "ratio_of" s_ratio_of) rfl, glo_ok X G (c.fact 9 (f := .glo "ratio_of") rfl)⟩ h_common_of
  have h_whole_power : Def prog w K mg base "whole_power" 1 none 2 f_whole_power := d_whole_power T ⟨c.def_ 10 (d := datum "whole_power" s_whole_power) rfl, glo_ok X G (c.fact 10 (f := .glo "whole_power") rfl)⟩ 
  have h_choose_of : Def prog w K mg base "choose_of" 1 none 2 f_choose_of := d_choose_of T ⟨c.def_ 11 (d := datum "choose_of" s_choose_of) rfl, glo_ok X G (c.fact 11 (f := .glo "choose_of") rfl)⟩ 
  have h_new_from : Def prog w K mg base "new_from" 3 none 4 f_new_from := d_new_from T ⟨c.def_ 12 (d := datum "new_from" s_new_from) rfl, glo_ok X G (c.fact 12 (f := .glo "new_from") rfl)⟩ h_ratio_of h_whole_power h_choose_of
  have h_is_tuple : Def prog w K mg base "is_tuple" 1 none 3 f_is_tuple := d_is_tuple T ⟨c.def_ 13 (d := datum "is_tuple" s_is_tuple) rfl, glo_ok X G (c.fact 13 (f := .glo "is_tuple") rfl)⟩ 
  have h_is_size : Def prog w K mg base "is_size" 2 none 1 f_is_size := d_is_size T ⟨c.def_ 14 (d := datum "is_size" s_is_size) rfl, glo_ok X G (c.fact 14 (f := .glo "is_size") rfl)⟩ h_is_whole
  have h_is_fraction : Def prog w K mg base "is_fraction" 3 none 1 f_is_fraction := d_is_fraction T ⟨c.def_ 15 (d := datum "is_fraction" s_is_fraction) rfl, glo_ok X G (c.fact 15 (f := .glo "is_fraction") rfl)⟩ h_common_of h_is_tuple h_is_size
  have h_is_share : Def prog w K mg base "is_share" 4 none 1 f_is_share := d_is_share T ⟨c.def_ 16 (d := datum "is_share" s_is_share) rfl, glo_ok X G (c.fact 16 (f := .glo "is_share") rfl)⟩ h_is_fraction
  have h_new_chance : Def prog w K mg base "new_chance" 5 none 3 f_new_chance := d_new_chance T ⟨c.def_ 17 (d := datum "new_chance" s_new_chance) rfl, glo_ok X G (c.fact 17 (f := .glo "new_chance") rfl)⟩ h_check_fresh h_new_from h_is_share
  have h__law_take : Def prog w K mg base "_law_take" 1 (some 0) 2 f__law_take := d__law_take T ⟨c.def_ 18 (d := datum "_law_take" s__law_take) rfl, glo_ok X G (c.fact 18 (f := .glo "_law_take") rfl)⟩ 
  have h__law_rest : Def prog w K mg base "_law_rest" 3 none 1 f__law_rest := d__law_rest T ⟨c.def_ 19 (d := datum "_law_rest" s__law_rest) rfl, glo_ok X G (c.fact 19 (f := .glo "_law_rest") rfl)⟩ h__law_ratio
  have h__law_below : Def prog w K mg base "_law_below" 1 none 2 f__law_below := d__law_below T ⟨c.def_ 20 (d := datum "_law_below" s__law_below) rfl, glo_ok X G (c.fact 20 (f := .glo "_law_below") rfl)⟩ 
  have h__law_are_chances_right : Def prog w K mg base "_law_are_chances_right" 6 (some 0) 3 f__law_are_chances_right := d__law_are_chances_right T ⟨c.def_ 21 (d := datum "_law_are_chances_right" s__law_are_chances_right) rfl, glo_ok X G (c.fact 21 (f := .glo "_law_are_chances_right") rfl)⟩ h__law_ratio h__law_plus h_new_chance h__law_take h__law_rest h__law_below
  have h_check_part : Def prog w K mg base "check_part" 5 none 1 f_check_part := d_check_part T ⟨c.def_ 22 (d := datum "check_part" s_check_part) rfl, glo_ok X G (c.fact 22 (f := .glo "check_part") rfl)⟩ h_is_share
  have h_check_low : Def prog w K mg base "check_low" 3 none 1 f_check_low := d_check_low T ⟨c.def_ 23 (d := datum "check_low" s_check_low) rfl, glo_ok X G (c.fact 23 (f := .glo "check_low") rfl)⟩ h_is_integer
  have h_is_below : Def prog w K mg base "is_below" 1 none 2 f_is_below := d_is_below T ⟨c.def_ 24 (d := datum "is_below" s_is_below) rfl, glo_ok X G (c.fact 24 (f := .glo "is_below") rfl)⟩ 
  have h_least_top : Def prog w K mg base "least_top" 4 none 4 f_least_top := d_least_top T ⟨c.def_ 25 (d := datum "least_top" s_least_top) rfl, glo_ok X G (c.fact 25 (f := .glo "least_top") rfl)⟩ h_new_from h_is_below
  have h_least_unseen_share : Def prog w K mg base "least_unseen_share" 6 none 4 f_least_unseen_share := d_least_unseen_share T ⟨c.def_ 26 (d := datum "least_unseen_share" s_least_unseen_share) rfl, glo_ok X G (c.fact 26 (f := .glo "least_unseen_share") rfl)⟩ h_check_fresh h_ratio_of h_check_part h_check_low h_least_top
  have h_greatest_top : Def prog w K mg base "greatest_top" 5 none 4 f_greatest_top := d_greatest_top T ⟨c.def_ 27 (d := datum "greatest_top" s_greatest_top) rfl, glo_ok X G (c.fact 27 (f := .glo "greatest_top") rfl)⟩ h_least_top
  have h_greatest_unseen_share : Def prog w K mg base "greatest_unseen_share" 6 none 4 f_greatest_unseen_share := d_greatest_unseen_share T ⟨c.def_ 28 (d := datum "greatest_unseen_share" s_greatest_unseen_share) rfl, glo_ok X G (c.fact 28 (f := .glo "greatest_unseen_share") rfl)⟩ h_check_fresh h_ratio_of h_check_part h_check_low h_greatest_top
  have h_unseen_stretch : Def prog w K mg base "unseen_stretch" 6 none 4 f_unseen_stretch := d_unseen_stretch T ⟨c.def_ 29 (d := datum "unseen_stretch" s_unseen_stretch) rfl, glo_ok X G (c.fact 29 (f := .glo "unseen_stretch") rfl)⟩ h_check_fresh h_ratio_of h_check_part h_check_low h_least_top h_greatest_top
  have h__law_are_ends_right : Def prog w K mg base "_law_are_ends_right" 7 (some 0) 4 f__law_are_ends_right := d__law_are_ends_right T ⟨c.def_ 30 (d := datum "_law_are_ends_right" s__law_are_ends_right) rfl, glo_ok X G (c.fact 30 (f := .glo "_law_are_ends_right") rfl)⟩ h__law_take h__law_rest h__law_below h_least_unseen_share h_greatest_unseen_share h_unseen_stretch
  have h_check_two : Def prog w K mg base "check_two" 3 none 3 f_check_two := d_check_two T ⟨c.def_ 31 (d := datum "check_two" s_check_two) rfl, glo_ok X G (c.fact 31 (f := .glo "check_two") rfl)⟩ h_is_integer
  have h_both_row : Def prog w K mg base "both_row" 4 none 3 f_both_row := d_both_row T ⟨c.def_ 32 (d := datum "both_row" s_both_row) rfl, glo_ok X G (c.fact 32 (f := .glo "both_row") rfl)⟩ h_ratio_of h_choose_of h_check_two
  have h__law_of : Def prog w K mg base "_law_of" 2 (some 0) 2 f__law_of := d__law_of T ⟨c.def_ 33 (d := datum "_law_of" s__law_of) rfl, glo_ok X G (c.fact 33 (f := .glo "_law_of") rfl)⟩ h__law_take
  have h__law_are_lots_right : Def prog w K mg base "_law_are_lots_right" 5 (some 0) 1 f__law_are_lots_right := d__law_are_lots_right T ⟨c.def_ 34 (d := datum "_law_are_lots_right" s__law_are_lots_right) rfl, glo_ok X G (c.fact 34 (f := .glo "_law_are_lots_right") rfl)⟩ h__law_take h_both_row h__law_of
  have h__law_part : Def prog w K mg base "_law_part" 3 (some 0) 1 f__law_part := d__law_part T ⟨c.def_ 35 (d := datum "_law_part" s__law_part) rfl, glo_ok X G (c.fact 35 (f := .glo "_law_part") rfl)⟩ h__law_of
  exact fn_law T F h__law_cells h__law_pot h__law_take h__law_are_chances_right h__law_are_ends_right h__law_of h__law_are_lots_right h__law_part
end Wk61

set_option Elab.async false
set_option linter.all false
set_option maxRecDepth 100000
/-! k61: the chance of as many or more, by shares. -/
namespace Mk61
open PySem L2 Cb
noncomputable section
def P : Nat → Nat → Rat → Rat
  | _, 0, _ => 1
  | 0, _ + 1, _ => 0
  | f + 1, n + 1, q => q * P f n q + (1 - q) * P f (n + 1) q
theorem P_0 (f : Nat) (q : Rat) : P f 0 q = 1 := by cases f <;> rfl
theorem P_s (f n : Nat) (q : Rat) : P (f + 1) (n + 1) q = q * P f n q + (1 - q) * P f (n + 1) q := rfl
theorem P_big : ∀ (f n : Nat) (q : Rat), f < n → P f n q = 0
  | 0, n + 1, q, _ => rfl
  | f + 1, n + 1, q, h => by
    rw [P_s, P_big f n q (by omega), P_big f (n + 1) q (by omega)]; grind
theorem P_anti {q : Rat} (h0 : 0 ≤ q) (h1 : q ≤ 1) : ∀ (f n : Nat), 0 ≤ P f n q ∧ P f (n + 1) q ≤ P f n q
  | 0, 0 => by
    have e0 : P 0 0 q = 1 := rfl
    have e1 : P 0 1 q = 0 := rfl
    rw [e0, e1]; grind
  | 0, n + 1 => by
    have e0 : P 0 (n + 1) q = 0 := rfl
    have e1 : P 0 (n + 1 + 1) q = 0 := rfl
    rw [e0, e1]; grind
  | f + 1, 0 => by
    have h := P_anti h0 h1 f 0
    rw [P_0, P_s, P_0] at *
    have : (1 - q) * P f (0 + 1) q ≤ (1 - q) * 1 := Rat.mul_le_mul_of_nonneg_left h.2 (by grind)
    grind
  | f + 1, n + 1 => by
    have h := P_anti h0 h1 f n
    have k := P_anti h0 h1 f (n + 1)
    rw [P_s, P_s]
    have a1 : q * P f (n + 1) q ≤ q * P f n q := Rat.mul_le_mul_of_nonneg_left h.2 h0
    have a2 : (1 - q) * P f (n + 1 + 1) q ≤ (1 - q) * P f (n + 1) q := Rat.mul_le_mul_of_nonneg_left k.2 (by grind)
    have a3 : 0 ≤ q * P f n q := Rat.mul_nonneg h0 h.1
    have a4 : 0 ≤ (1 - q) * P f (n + 1) q := Rat.mul_nonneg (by grind) k.1
    grind
theorem P_mono {q r : Rat} (h0 : 0 ≤ q) (hq : q ≤ r) (h1 : r ≤ 1) : ∀ (f n : Nat), P f n q ≤ P f n r
  | f, 0 => by rw [P_0, P_0]; exact Rat.le_refl
  | 0, n + 1 => Rat.le_refl
  | f + 1, n + 1 => by
    have h := P_mono h0 hq h1 f n
    have k := P_mono h0 hq h1 f (n + 1)
    have an := P_anti h0 (Rat.le_trans hq h1) f n
    rw [P_s, P_s]
    have a1 : r * P f n q ≤ r * P f n r := Rat.mul_le_mul_of_nonneg_left h (by grind)
    have a2 : (1 - r) * P f (n + 1) q ≤ (1 - r) * P f (n + 1) r := Rat.mul_le_mul_of_nonneg_left k (by grind)
    have a3 : (r - q) * P f (n + 1) q ≤ (r - q) * P f n q := Rat.mul_le_mul_of_nonneg_left an.2 (by grind)
    grind
theorem P_up {q : Rat} (h0 : 0 ≤ q) (h1 : q ≤ 1) : ∀ (f n : Nat), P f n q ≤ P (f + 1) n q
  | f, 0 => by rw [P_0, P_0]; exact Rat.le_refl
  | f, n + 1 => by
    have an := P_anti h0 h1 f n
    rw [P_s]
    have : q * P f (n + 1) q ≤ q * P f n q := Rat.mul_le_mul_of_nonneg_left an.2 h0
    grind
theorem P_diag {q : Rat} (h0 : 0 ≤ q) (h1 : q ≤ 1) (f n : Nat) : P (f + 1) (n + 1) q ≤ P f n q := by
  have an := P_anti h0 h1 f n
  rw [P_s]
  have : (1 - q) * P f (n + 1) q ≤ (1 - q) * P f n q := Rat.mul_le_mul_of_nonneg_left an.2 (by grind)
  grind
theorem P_comp (q : Rat) : ∀ (f n m : Nat), n + m = f + 1 → P f n q + P f m (1 - q) = 1
  | f, 0, m, h => by rw [P_0, P_big f m _ (by omega)]; grind
  | f, n + 1, 0, h => by rw [P_0, P_big f (n + 1) _ (by omega)]; grind
  | 0, n + 1, m + 1, h => by omega
  | f + 1, n + 1, m + 1, h => by
    have a := P_comp q f n (m + 1) (by omega)
    have b := P_comp q f (n + 1) m (by omega)
    rw [P_s, P_s]
    have e : (1 : Rat) - (1 - q) = q := by grind
    rw [e]
    have e2 : P f m (1 - q) = 1 - P f (n + 1) q := by grind
    have e3 : P f (m + 1) (1 - q) = 1 - P f n q := by grind
    rw [e2, e3]; grind
theorem P_one : ∀ (f n : Nat), n ≤ f → P f n 1 = 1
  | f, 0, _ => P_0 _ _
  | f + 1, n + 1, h => by rw [P_s, P_one f n (by omega)]; grind
theorem P_zero : ∀ (f n : Nat), P f (n + 1) 0 = 0
  | 0, n => rfl
  | f + 1, n => by rw [P_s, P_zero f n]; grind
theorem P_11 (q : Rat) : P 1 1 q = q := by
  rw [P_s, P_0]
  have : P 0 (0 + 1) q = 0 := rfl
  rw [this]; grind
/-! ### the sum that the program takes -/
def tm (t r f s : Nat) : Nat := ch f s * t ^ s * r ^ (f - s)
def sm (t r f : Nat) : Nat → Nat → Nat
  | _, 0 => 0
  | n, k + 1 => tm t r f n + sm t r f (n + 1) k
theorem tm_s (t r f s : Nat) : tm t r (f + 1) (s + 1) = t * tm t r f s + r * tm t r f (s + 1) := by
  unfold tm
  rw [show ch (f + 1) (s + 1) = ch f s + ch f (s + 1) from rfl, Nat.pow_succ, show f + 1 - (s + 1) = f - s by omega]
  by_cases h : s < f
  · rw [show f - s = f - (s + 1) + 1 by omega, Nat.pow_succ]
    grind
  · rw [ch_lt (n := f) (k := s + 1) (by omega)]
    grind
theorem tm_0 (t r f : Nat) : tm t r (f + 1) 0 = r * tm t r f 0 := by
  unfold tm
  rw [ch_0, ch_0, Nat.sub_zero, Nat.sub_zero, Nat.pow_succ]; grind
theorem sm_s (t r f : Nat) : ∀ (k n : Nat), sm t r (f + 1) (n + 1) k = t * sm t r f n k + r * sm t r f (n + 1) k
  | 0, n => by simp [sm]
  | k + 1, n => by
    show tm t r (f + 1) (n + 1) + sm t r (f + 1) (n + 1 + 1) k = t * (tm t r f n + sm t r f (n + 1) k) + r * (tm t r f (n + 1) + sm t r f (n + 1 + 1) k)
    rw [tm_s, sm_s t r f k (n + 1)]; grind
theorem sm_ext (t r f : Nat) : ∀ (k n : Nat), f < n + k → sm t r f n (k + 1) = sm t r f n k
  | 0, n, h => by
    show tm t r f n + 0 = 0
    unfold tm; rw [ch_lt (by omega)]; simp
  | k + 1, n, h => by
    show tm t r f n + sm t r f (n + 1) (k + 1) = tm t r f n + sm t r f (n + 1) k
    rw [sm_ext t r f k (n + 1) (by omega)]
theorem sm_ext2 (t r f n k : Nat) (h : f < n + k) : ∀ j, sm t r f n (k + j) = sm t r f n k
  | 0 => rfl
  | j + 1 => by rw [← Nat.add_assoc, sm_ext t r f (k + j) n (by omega), sm_ext2 t r f n k h j]
def T (t r f n : Nat) : Nat := sm t r f n (f + 1)
theorem T_s (t r f n : Nat) : T t r (f + 1) (n + 1) = t * T t r f n + r * T t r f (n + 1) := by
  unfold T
  rw [sm_s, sm_ext2 t r f n (f + 1) (by omega) 1, sm_ext2 t r f (n + 1) (f + 1) (by omega) 1]
theorem T_0 (t r : Nat) : ∀ f, T t r f 0 = (t + r) ^ f
  | 0 => by simp [T, sm, tm, ch]
  | f + 1 => by
    have h := T_0 t r f
    have e : T t r (f + 1) 0 = (t + r) * T t r f 0 := by
      unfold T
      show tm t r (f + 1) 0 + sm t r (f + 1) (0 + 1) (f + 1) = _
      rw [sm_s, tm_0]
      have : sm t r f 0 (f + 1 + 1) = tm t r f 0 + sm t r f (0 + 1) (f + 1) := rfl
      rw [sm_ext t r f (f + 1) 0 (by omega)] at this
      rw [this]; grind
    rw [e, h, Nat.pow_succ]; grind
theorem T_big (t r n : Nat) : T t r 0 (n + 1) = 0 := by
  simp [T, sm, tm, ch]
theorem T_P {t r : Nat} (hl : 0 < t + r) : ∀ (f n : Nat), (T t r f n : Rat) / ((t + r : Nat) : Rat) ^ f = P f n ((t : Rat) / ((t + r : Nat) : Rat))
  | f, 0 => by
    rw [T_0, P_0, Rat.natCast_pow]
    have : (((t + r : Nat) : Rat)) ^ f ≠ 0 := by
      have := Rat.pow_pos (n := f) (Rat.natCast_pos.mpr hl)
      grind
    grind
  | 0, n + 1 => by
    rw [T_big]
    show (((0 : Nat) : Rat)) / _ = 0
    rw [Rat.div_def]; simp
  | f + 1, n + 1 => by
    have h1 := T_P hl f n
    have h2 := T_P hl f (n + 1)
    have hL : (((t + r : Nat) : Rat)) ≠ 0 := by
      have := Rat.natCast_pos.mpr hl
      grind
    have hf : (((t + r : Nat) : Rat)) ^ f ≠ 0 := by
      have := Rat.pow_pos (n := f) (Rat.natCast_pos.mpr hl)
      grind
    rw [T_s, P_s, ← h1, ← h2, Rat.pow_succ, Rat.natCast_add, Rat.natCast_mul, Rat.natCast_mul]
    have e : (((t + r : Nat) : Rat)) = (t : Rat) + (r : Rat) := Rat.natCast_add _ _
    generalize (((t + r : Nat) : Rat)) = l at *
    generalize l ^ f = lf at *
    have e1 : (r : Rat) = l - t := by grind
    rw [e1]
    grind
theorem T_le (t r : Nat) : ∀ f n, T t r f n ≤ (t + r) ^ f
  | f, 0 => by rw [T_0]; exact Nat.le_refl _
  | 0, n + 1 => by rw [T_big]; omega
  | f + 1, n + 1 => by
    have h1 := T_le t r f n
    have h2 := T_le t r f (n + 1)
    have h3 : t * T t r f n ≤ t * (t + r) ^ f := Nat.mul_le_mul_left _ h1
    have h4 : r * T t r f (n + 1) ≤ r * (t + r) ^ f := Nat.mul_le_mul_left _ h2
    rw [T_s, Nat.pow_succ, Nat.mul_comm ((t + r) ^ f), Nat.add_mul]
    omega
theorem T_list (t r f n : Nat) (h : n ≤ f) : T t r f n = sm t r f n (f + 1 - n) := by
  have := sm_ext2 t r f n (f + 1 - n) (by omega) n
  rw [show f + 1 - n + n = f + 1 by omega] at this
  exact this
/-! ### the least share -/
structure Least (f n : Nat) (s : Rat) (l m : Nat) : Prop where
  le : m ≤ l
  at_ : s < P f n ((m : Rat) / (l : Rat))
  below : ∀ k : Nat, k < m → P f n ((k : Rat) / (l : Rat)) ≤ s
theorem Least.le_of {f n f' n' : Nat} {s : Rat} {l m m' : Nat} (a : Least f n s l m) (b : Least f' n' s l m') (h : ∀ k : Nat, k ≤ l → P f n ((k : Rat) / (l : Rat)) ≤ P f' n' ((k : Rat) / (l : Rat))) : m' ≤ m := by
  by_cases hc : m < m'
  · have h1 := b.below m hc
    have h2 := h m a.le
    have h3 := a.at_
    grind
  · omega
theorem Least.uniq {f n : Nat} {s : Rat} {l m m' : Nat} (a : Least f n s l m) (b : Least f n s l m') : m = m' := by
  have := a.le_of b (fun _ _ => Rat.le_refl)
  have := b.le_of a (fun _ _ => Rat.le_refl)
  omega
theorem q_rng {k l : Nat} (h : k ≤ l) (hl : 0 < l) : 0 ≤ (k : Rat) / (l : Rat) ∧ (k : Rat) / (l : Rat) ≤ 1 := by
  have hl' : (0 : Rat) < (l : Rat) := Rat.natCast_pos.mpr hl
  have hk : (0 : Rat) ≤ (k : Rat) := Rat.natCast_nonneg
  have hkl : (k : Rat) ≤ (l : Rat) := Rat.natCast_le_natCast.mpr h
  have hi : 0 < (l : Rat)⁻¹ := Rat.inv_pos.mpr hl'
  constructor
  · rw [Rat.div_def]; exact Rat.mul_nonneg hk (by grind)
  · have : (k : Rat) * (l : Rat)⁻¹ ≤ (l : Rat) * (l : Rat)⁻¹ := Rat.mul_le_mul_of_nonneg_right hkl (by grind)
    rw [Rat.mul_inv_cancel _ (by grind)] at this
    rw [Rat.div_def]; exact this
theorem q_mono {k j l : Nat} (h : k ≤ j) (hl : 0 < l) : (k : Rat) / (l : Rat) ≤ (j : Rat) / (l : Rat) := by
  have hl' : (0 : Rat) < (l : Rat) := Rat.natCast_pos.mpr hl
  have hkl : (k : Rat) ≤ (j : Rat) := Rat.natCast_le_natCast.mpr h
  have hi : 0 < (l : Rat)⁻¹ := Rat.inv_pos.mpr hl'
  rw [Rat.div_def, Rat.div_def]
  exact Rat.mul_le_mul_of_nonneg_right hkl (by grind)
theorem stretch {f n : Nat} {s : Rat} {l m m' : Nat} (hn : n ≤ f) (hl : 0 < l) (hs : s + s < 1) (a : Least f n s l m) (b : Least f (f - n) s l m') : m + m' ≤ l + 2 := by
  by_cases hc : m + m' ≤ l + 2
  · exact hc
  · exfalso
    have h1 := a.le
    have h2 := b.le
    have k1 := a.below (m - 1) (by omega)
    have k2 := b.below (m' - 1) (by omega)
    have r1 := q_rng (k := m - 1) (l := l) (by omega) hl
    have r2 := q_rng (k := m' - 1) (l := l) (by omega) hl
    have r3 := q_rng (k := l - (m - 1)) (l := l) (by omega) hl
    have e : ((l - (m - 1) : Nat) : Rat) / (l : Rat) = 1 - ((m - 1 : Nat) : Rat) / (l : Rat) := by
      have e0 : ((l - (m - 1) : Nat) : Rat) + ((m - 1 : Nat) : Rat) = (l : Rat) := by
        rw [← Rat.natCast_add]; congr 1; omega
      have hl' : (l : Rat) ≠ 0 := by
        have := Rat.natCast_pos.mpr hl
        grind
      grind
    have c := P_comp (((m - 1 : Nat) : Rat) / (l : Rat)) f n (f - n + 1) (by omega)
    rw [← e] at c
    have d := (P_anti r3.1 r3.2 f (f - n)).2
    have g := P_mono r3.1 (q_mono (k := l - (m - 1)) (j := m' - 1) (l := l) (by omega) hl) r2.2 f (f - n)
    grind
end
end Mk61

set_option Elab.async false
set_option linter.all false
set_option maxRecDepth 100000
namespace Wk61
open PySem Cb Mk61
noncomputable section
theorem e_common_of : f_common_of = c_common_of := rfl
theorem e_ratio_of : f_ratio_of = c_ratio_of := rfl
theorem e_whole_power : f_whole_power = c_whole_power := rfl
theorem e_choose_of : f_choose_of = c_choose_of := rfl
theorem e_is_integer : f_is_integer = c_is_integer := rfl
theorem e_is_fraction : f_is_fraction = c_is_fraction := rfl
theorem e_is_share : f_is_share = c_is_share := rfl
theorem e__law_ratio : f__law_ratio = c__law_ratio := rfl
theorem e__law_plus : f__law_plus = c__law_plus := rfl
theorem e__law_below : f__law_below = c__law_below := rfl
theorem e__law_rest : f__law_rest = c__law_rest := rfl
theorem e__law_take : f__law_take = c__law_take 215285 7885 6845 := rfl
theorem e__law_of : f__law_of = c__law_of 215285 7885 6845 := rfl
theorem e__law_pot : f__law_pot = c__law_pot 9331 20819 164305 23563 7287 := rfl
theorem e__law_cells : f__law_cells = c__law_cells := rfl
/-! ### the powers -/
def pws (x : Int) (k : Nat) : List D := (List.range (k + 1)).map fun i => D.int (x ^ i)
theorem pws_len (x : Int) (k : Nat) : (pws x k).length = k + 1 := by simp [pws]
theorem pws_0 (x : Int) : pws x 0 = [.int 1] := by simp [pws]
theorem pws_s (x : Int) (k : Nat) : pws x k ++ [.int (x ^ k * x)] = pws x (k + 1) := by
  rw [← Int.pow_succ]
  unfold pws
  rw [List.range_succ (n := k + 1), List.map_append]; rfl
theorem pws_last (x : Int) (k : Nat) : dIx (.lst (pws x k)) (.int (-1)) = some (.int (x ^ k)) := by
  show L2.atI (pws x k) (-1) = _
  unfold L2.atI L2.ixN
  rw [pws_len, if_neg (by decide), if_pos (by omega)]
  have e : (-1 + ((k + 1 : Nat) : Int)).toNat = k := by omega
  rw [e]
  simp [pws]
theorem pws_at (x : Int) (k i : Nat) (h : i ≤ k) : dIx (.lst (pws x k)) (.int i) = some (.int (x ^ i)) := by
  show L2.atI (pws x k) i = _
  unfold L2.atI L2.ixN
  rw [pws_len, if_pos (by omega), if_pos (by omega)]
  have e : ((i : Int)).toNat = i := by omega
  rw [e]
  have : i < k + 1 := by omega
  simp [pws, this]
theorem pw_loop {a b : Int} (ha : Sz 11 a) (hb : Sz 11 (b - a)) (fd nd : D) : ∀ (L : List D) (k : Nat) (o : Option DV), k + L.length < 1000 → ∃ o',
    forL (gN 6) (sSeq (sApp 4 (m2 dMul (mIxS 4 (m1 dNeg (mC (.int 1)))) (mVar 0))) (sApp 5 (m2 dMul (mIxS 5 (m1 dNeg (mC (.int 1)))) (m2 dSub (mVar 1) (mVar 0))))) L
      [some (.val (.int a)), some (.val (.int b)), some (.val fd), some (.val nd), some (.own (.lst (pws a k))), some (.own (.lst (pws (b - a) k))), o, none, none] =
    some (.nx [some (.val (.int a)), some (.val (.int b)), some (.val fd), some (.val nd), some (.own (.lst (pws a (k + L.length)))), some (.own (.lst (pws (b - a) (k + L.length)))), o', none, none])
  | [], k, o, h => ⟨o, by simp [kSeq_1, kSeq_2, kSeq_3, kSeq_4, kSet_1, kNx_1, kPar_1, kd2_1, kd1_1, kIf_1, kIf_2, kRt_1, kEx_1, kVar_1, kVar_2, kMov_1, kMov_2, kfz_1, kfz_2, kc_1, k1_1, k2b_1, k2a_1, kt_1, kn_1, kAnd_1, kAnd_2, kOr_1, kOr_2, kmA_1, kmA_2, kmO_1, kmO_2, kmI_1, kmI_2, kh4_1, kh3_1, kh3_2, kh2_1, kh1_1, kcb_1, kca_1, kL5_1, kL4_1, kL3_1, kL2_1, kL1_1, kl2_1, kl1_1, kl3_1, kr_1, krs_1, krs_2, kput_1, kput_2, kpk_1, klst_1, klst_2, kbor_1, ka2_1, ka1_1, ktup_1, kls_1, kB_1, kx3_1, kx2_1, kx1_1, kx4_1, kis2_1, kis_1, kp_1, ks3_1, ks2_1, ks1_1, kF_1, kF2_1, kF2_2, kF2_3, kF2_4, kF1_1, kW2_1, kW2_2, kW2_3, kW2_4, kW_1, kW_2, kg_1, ksa_1, ki_1, ki_2, ki_3, kap2_1, kap_1, ksx4_1, ksx3_1, ksx2_1, ksx1_1, kat_1, ko_1, kfin_1, kfin_2, klc2_1, klc_1, kC4_1, kC3_1, kC2_1, kC2_2, kC1_1, ksum_1, kst2_1, kst_1, kst_2, kRev_1, kRev_2, krg_1, krg2_1, krg1_1, kav_1, kav_2, krc_1, runFn_a, out_n, out_s, ini_a, iniL_n, iniL_0, iniL_e, sSeq_a, sSet_a, sPar_a, dNil_a, dCons_a, setAll_n, setAll_c, sIf_a, sRet_a, sExpr_a, sNext_a, sBreak_a, sCont_a, mC_a, mVar_a, mMove_a, fz_a, m1_a, m2_a, tst_a, tNot_a, tAnd_a, tOr_a, tYes_a, mAnd_a, mOr_a, mIf_a, mChain_a, mCall_a, mCallL_a, lNil_a, lCons_a, lLend_a, res_e, res_v, res_s, slot_0, slot_s, put_a, peek_a, lstAt_a, get_v, get_o, get_b, aNil_a, aCons_a, aStar_a, mTup_a, mLst_a, mB_a, mIxS_a, mLenS_a, mIsi_a, pNone_a, pSome_a, mSl_a, sFor_a, forL_n, forL_c, whN_s, gN_a, gT_a, gsC_a, gsN_a, sAsg_a, iSeq_a, sApp_a, sSetIx_a, mLc_a, lcL_n, lcL_c, wipe_n, wipe_c, rest_n, rest_c, allVal_n, allVal_c, mRev_a, mLRg_a, mLRg2_a, lt_int, le_int, gt_int, ge_int, sub_int, add_int, mod_int, fdiv_int, pow_int', mul_ok, eq_int, ne_int, neg_int, not_bl, abs_int, int_int, int_bl, max_2, min_2, max_3, min_3, len_l, len_t, len_s, lenB_l, lenB_t, lenB_s, ix_l, ix_t, ix_s, ixV_a, at_a, tuple_l, tuple_t, list_l, list_t, sum_l, all_l, any_l, isi_int, isi_bool, isi_tup, ix_fr0, ix_fr1, mul_l, cat_l, cat_t, sl_l, sl_t, sl_s, line, L2.ixN]⟩
  | d :: L, k, o, h => by
    obtain ⟨o', ih⟩ := pw_loop ha hb fd nd L (k + 1) (some (.val d)) (by simp only [List.length_cons] at h; omega)
    refine ⟨o', ?_⟩
    have e : k + (d :: L).length = k + 1 + L.length := by simp only [List.length_cons]; omega
    have h' : k < 1000 := by omega
    have q1 := pws_last a k
    have q2 := pws_last (b - a) k
    have m1' : MulOk (a ^ k) a := (ha.pow k).mulOk ha (by omega)
    have m2' : MulOk ((b - a) ^ k) (b - a) := (hb.pow k).mulOk hb (by omega)
    have l1 : k + 1 < 16777216 := by omega
    rw [e, ← ih]
    simp -implicitDefEqProofs only [kSeq_1, kSeq_2, kSeq_3, kSeq_4, kSet_1, kNx_1, kPar_1, kd2_1, kd1_1, kIf_1, kIf_2, kRt_1, kEx_1, kVar_1, kVar_2, kMov_1, kMov_2, kfz_1, kfz_2, kc_1, k1_1, k2b_1, k2a_1, kt_1, kn_1, kAnd_1, kAnd_2, kOr_1, kOr_2, kmA_1, kmA_2, kmO_1, kmO_2, kmI_1, kmI_2, kh4_1, kh3_1, kh3_2, kh2_1, kh1_1, kcb_1, kca_1, kL5_1, kL4_1, kL3_1, kL2_1, kL1_1, kl2_1, kl1_1, kl3_1, kr_1, krs_1, krs_2, kput_1, kput_2, kpk_1, klst_1, klst_2, kbor_1, ka2_1, ka1_1, ktup_1, kls_1, kB_1, kx3_1, kx2_1, kx1_1, kx4_1, kis2_1, kis_1, kp_1, ks3_1, ks2_1, ks1_1, kF_1, kF2_1, kF2_2, kF2_3, kF2_4, kF1_1, kW2_1, kW2_2, kW2_3, kW2_4, kW_1, kW_2, kg_1, ksa_1, ki_1, ki_2, ki_3, kap2_1, kap_1, ksx4_1, ksx3_1, ksx2_1, ksx1_1, kat_1, ko_1, kfin_1, kfin_2, klc2_1, klc_1, kC4_1, kC3_1, kC2_1, kC2_2, kC1_1, ksum_1, kst2_1, kst_1, kst_2, kRev_1, kRev_2, krg_1, krg2_1, krg1_1, kav_1, kav_2, krc_1, runFn_a, out_n, out_s, ini_a, iniL_n, iniL_0, iniL_e, sSeq_a, sSet_a, sPar_a, dNil_a, dCons_a, setAll_n, setAll_c, sIf_a, sRet_a, sExpr_a, sNext_a, sBreak_a, sCont_a, mC_a, mVar_a, mMove_a, fz_a, m1_a, m2_a, tst_a, tNot_a, tAnd_a, tOr_a, tYes_a, mAnd_a, mOr_a, mIf_a, mChain_a, mCall_a, mCallL_a, lNil_a, lCons_a, lLend_a, res_e, res_v, res_s, slot_0, slot_s, put_a, peek_a, lstAt_a, get_v, get_o, get_b, aNil_a, aCons_a, aStar_a, mTup_a, mLst_a, mB_a, mIxS_a, mLenS_a, mIsi_a, pNone_a, pSome_a, mSl_a, sFor_a, forL_n, forL_c, whN_s, gN_a, gT_a, gsC_a, gsN_a, sAsg_a, iSeq_a, sApp_a, sSetIx_a, mLc_a, lcL_n, lcL_c, wipe_n, wipe_c, rest_n, rest_c, allVal_n, allVal_c, mRev_a, mLRg_a, mLRg2_a, lt_int, le_int, gt_int, ge_int, sub_int, add_int, mod_int, fdiv_int, pow_int', mul_ok, eq_int, ne_int, neg_int, not_bl, abs_int, int_int, int_bl, max_2, min_2, max_3, min_3, len_l, len_t, len_s, lenB_l, lenB_t, lenB_s, ix_s, ixV_a, tuple_l, tuple_t, list_l, list_t, sum_l, all_l, any_l, isi_int, isi_bool, isi_tup, ix_fr0, ix_fr1, mul_l, cat_l, cat_t, sl_l, sl_t, sl_s, line, q1, q2, m1', m2', pws_len, pws_s, l1, if_pos, List.length_cons, List.length_nil, List.replicate, List.append_nil, List.cons_append, List.nil_append, Nat.reduceAdd, Nat.reduceSub, List.getElem?_cons_succ, List.getElem?_cons_zero, Nat.sub_self, List.set_cons_succ, List.set_cons_zero, ↓reduceIte, Nat.reduceLeDiff, Nat.reduceLT]
/-! ### the ways -/
def wys (a r : Int) (f : Nat) (n k : Nat) : List Int := (List.range k).map fun i => (ch f (n + i) : Int) * a ^ (n + i) * r ^ (f - (n + i))
theorem wys_s (a r : Int) (f n k : Nat) : wys a r f n (k + 1) = (ch f n : Int) * a ^ n * r ^ (f - n) :: wys a r f (n + 1) k := by
  unfold wys
  rw [List.range_succ_eq_map, List.map_cons, List.map_map]
  congr 1
  apply List.map_congr_left
  intro i _
  show (ch f (n + (i + 1)) : Int) * a ^ (n + (i + 1)) * r ^ (f - (n + (i + 1))) = _
  rw [show n + (i + 1) = n + 1 + i by omega]
theorem wys_sum (t r f : Nat) : ∀ (k n : Nat), (wys (t : Int) (r : Int) f n k).sum = (sm t r f n k : Int)
  | 0, n => by simp [wys, sm]
  | k + 1, n => by
    rw [wys_s, List.sum_cons, wys_sum t r f k (n + 1)]
    show _ = ((tm t r f n + sm t r f (n + 1) k : Nat) : Int)
    unfold tm
    simp
theorem wy_loop {a b : Int} {f : Nat} (ha : Sz 11 a) (hb : Sz 11 (b - a)) (hf : f < 1000) (nd : D) (o o' : Option DV) : ∀ (k n : Nat), n + k ≤ f + 1 →
    lcL (gN 8) tYesM (m2 dMul (m2 dMul (mCall c_choose_of (aCons (mVar 2) (aCons (mVar 8) aNil))) (mIxS 4 (mVar 8))) (mIxS 5 (m2 dSub (mVar 2) (mVar 8)))) [8] (rangeD (n : Int) k)
      [some (.val (.int a)), some (.val (.int b)), some (.val (.int f)), some (.val nd), some (.own (.lst (pws a f))), some (.own (.lst (pws (b - a) f))), o, o', none] =
    some ((wys a (b - a) f n k).map D.int, [some (.val (.int a)), some (.val (.int b)), some (.val (.int f)), some (.val nd), some (.own (.lst (pws a f))), some (.own (.lst (pws (b - a) f))), o, o', none])
  | 0, n, h => by simp [rangeD_0, lcL_n, wys]
  | k + 1, n, h => by
    have ih := wy_loop ha hb hf nd o o' k (n + 1) (by omega)
    have q1 := pws_at a f n (by omega)
    have q2 := pws_at (b - a) f (f - n) (by omega)
    rw [show ((f - n : Nat) : Int) = (f : Int) - n by omega] at q2
    have m1' : MulOk (ch f n : Int) (a ^ n) := (ch_sz f n).mulOk (ha.pow n) (by omega)
    have m2' : MulOk ((ch f n : Int) * a ^ n) ((b - a) ^ (f - n)) := ((ch_sz f n).mul (ha.pow n)).mulOk (hb.pow _) (by omega)
    have hc := choose_of_ok (n := f) (k := n) (by omega)
    rw [rangeD_s, wys_s, show (n : Int) + 1 = ((n + 1 : Nat) : Int) by omega]
    simp only [kSeq_1, kSeq_2, kSeq_3, kSeq_4, kSet_1, kNx_1, kPar_1, kd2_1, kd1_1, kIf_1, kIf_2, kRt_1, kEx_1, kVar_1, kVar_2, kMov_1, kMov_2, kfz_1, kfz_2, kc_1, k1_1, k2b_1, k2a_1, kt_1, kn_1, kAnd_1, kAnd_2, kOr_1, kOr_2, kmA_1, kmA_2, kmO_1, kmO_2, kmI_1, kmI_2, kh4_1, kh3_1, kh3_2, kh2_1, kh1_1, kcb_1, kca_1, kL5_1, kL4_1, kL3_1, kL2_1, kL1_1, kl2_1, kl1_1, kl3_1, kr_1, krs_1, krs_2, kput_1, kput_2, kpk_1, klst_1, klst_2, kbor_1, ka2_1, ka1_1, ktup_1, kls_1, kB_1, kx3_1, kx2_1, kx1_1, kx4_1, kis2_1, kis_1, kp_1, ks3_1, ks2_1, ks1_1, kF_1, kF2_1, kF2_2, kF2_3, kF2_4, kF1_1, kW2_1, kW2_2, kW2_3, kW2_4, kW_1, kW_2, kg_1, ksa_1, ki_1, ki_2, ki_3, kap2_1, kap_1, ksx4_1, ksx3_1, ksx2_1, ksx1_1, kat_1, ko_1, kfin_1, kfin_2, klc2_1, klc_1, kC4_1, kC3_1, kC2_1, kC2_2, kC1_1, ksum_1, kst2_1, kst_1, kst_2, kRev_1, kRev_2, krg_1, krg2_1, krg1_1, kav_1, kav_2, krc_1, runFn_a, out_n, out_s, ini_a, iniL_n, iniL_0, iniL_e, sSeq_a, sSet_a, sPar_a, dNil_a, dCons_a, setAll_n, setAll_c, sIf_a, sRet_a, sExpr_a, sNext_a, sBreak_a, sCont_a, mC_a, mVar_a, mMove_a, fz_a, m1_a, m2_a, tst_a, tNot_a, tAnd_a, tOr_a, tYes_a, mAnd_a, mOr_a, mIf_a, mChain_a, mCall_a, mCallL_a, lNil_a, lCons_a, lLend_a, res_e, res_v, res_s, slot_0, slot_s, put_a, peek_a, lstAt_a, get_v, get_o, get_b, aNil_a, aCons_a, aStar_a, mTup_a, mLst_a, mB_a, mIxS_a, mLenS_a, mIsi_a, pNone_a, pSome_a, mSl_a, sFor_a, forL_n, forL_c, whN_s, gN_a, gT_a, gsC_a, gsN_a, sAsg_a, iSeq_a, sApp_a, sSetIx_a, mLc_a, lcL_n, lcL_c, wipe_n, wipe_c, rest_n, rest_c, allVal_n, allVal_c, mRev_a, mLRg_a, mLRg2_a, lt_int, le_int, gt_int, ge_int, sub_int, add_int, mod_int, fdiv_int, pow_int', mul_ok, eq_int, ne_int, neg_int, not_bl, abs_int, int_int, int_bl, max_2, min_2, max_3, min_3, len_l, len_t, len_s, lenB_l, lenB_t, lenB_s, ix_s, ixV_a, tuple_l, tuple_t, list_l, list_t, sum_l, all_l, any_l, isi_int, isi_bool, isi_tup, ix_fr0, ix_fr1, mul_l, cat_l, cat_t, sl_l, sl_t, sl_s, line, List.length_cons, List.length_nil, List.replicate, List.append_nil, List.cons_append, List.nil_append, Nat.reduceAdd, Nat.reduceSub, List.getElem?_cons_succ, List.getElem?_cons_zero, Nat.sub_self, List.set_cons_succ, List.set_cons_zero, ↓reduceIte, Nat.reduceLeDiff, Nat.reduceLT, hc, q1, q2, m1', m2', ih, List.map_cons]
theorem sz_nat {n : Nat} (k : Nat) (h : n < 2 ^ k) : Sz k (n : Int) := by unfold Sz; simpa using h
theorem new_from_ok {t l f n : Nat} (ht : t ≤ l) (h0 : 0 < l) (hl : l ≤ 1000) (hn : n ≤ f) (hf : f < 700) : f_new_from [.int t, .int l, .int f, .int n] = ok (fr (P f n ((t : Rat) / (l : Rat)))) := by
  have sa : Sz 11 (t : Int) := sz_nat 11 (by omega)
  have er : ((l - t : Nat) : Int) = (l : Int) - t := by omega
  have sb : Sz 11 ((l : Int) - t) := by rw [← er]; exact sz_nat 11 (by omega)
  have sl : Sz 11 (l : Int) := sz_nat 11 (by omega)
  obtain ⟨o', h1⟩ := pw_loop sa sb (.int f) (.int n) (rangeD 0 f) 0 none (by rw [rangeD_length]; omega)
  rw [rangeD_length, Nat.zero_add, pws_0, pws_0] at h1
  have h2 := wy_loop (f := f) sa sb (by omega) (.int n) o' none (f + 1 - n) n (by omega)
  have hr1 := fun (ρ : En) e => range_D f (by omega) ρ ρ (aCons (mVar 2) aNil) e
  have hr2 := fun (ρ : En) e => range_D2 n ((f : Int) + 1) (by omega) (by omega) (by omega) (by omega) ρ ρ (aCons (mVar 3) (aCons (m2 dAdd (mVar 2) (mC (.int 1))) aNil)) e
  have en : ((f : Int) + 1 - n).toNat = f + 1 - n := by omega
  have hp := whole_power_ok (k := f) sl (by omega) (by omega)
  have hs : intsOf ((wys (t : Int) ((l : Int) - t) f n (f + 1 - n)).map D.int) = some (wys (t : Int) ((l : Int) - t) f n (f + 1 - n)) := intsOf_map _
  have hsum : (wys (t : Int) ((l : Int) - t) f n (f + 1 - n)).sum = (T t (l - t) f n : Int) := by
    rw [← er, wys_sum, T_list _ _ _ _ hn]
  have hne : ((l : Int) ^ f) ≠ 0 := by
    have : 0 < (l : Int) ^ f := Int.pow_pos (by omega)
    omega
  have hq := ratio_of_ok (a := (T t (l - t) f n : Int)) hne (sl.pow f) (by omega)
  have hv : ((T t (l - t) f n : Int) : Rat) / (((l : Int) ^ f : Int) : Rat) = P f n ((t : Rat) / (l : Rat)) := by
    have := T_P (t := t) (r := l - t) (by omega) f n
    rw [show t + (l - t) = l by omega] at this
    rw [← this, Rat.intCast_pow, Rat.intCast_natCast, Rat.intCast_natCast]
  rw [hv] at hq
  have ll : (rangeD (n : Int) (f + 1 - n)).length ≤ 16777216 := by rw [rangeD_length]; omega
  simp only [f_new_from, b_new_from, kSeq_1, kSeq_2, kSeq_3, kSeq_4, kSet_1, kNx_1, kPar_1, kd2_1, kd1_1, kIf_1, kIf_2, kRt_1, kEx_1, kVar_1, kVar_2, kMov_1, kMov_2, kfz_1, kfz_2, kc_1, k1_1, k2b_1, k2a_1, kt_1, kn_1, kAnd_1, kAnd_2, kOr_1, kOr_2, kmA_1, kmA_2, kmO_1, kmO_2, kmI_1, kmI_2, kh4_1, kh3_1, kh3_2, kh2_1, kh1_1, kcb_1, kca_1, kL5_1, kL4_1, kL3_1, kL2_1, kL1_1, kl2_1, kl1_1, kl3_1, kr_1, krs_1, krs_2, kput_1, kput_2, kpk_1, klst_1, klst_2, kbor_1, ka2_1, ka1_1, ktup_1, kls_1, kB_1, kx3_1, kx2_1, kx1_1, kx4_1, kis2_1, kis_1, kp_1, ks3_1, ks2_1, ks1_1, kF_1, kF2_1, kF2_2, kF2_3, kF2_4, kF1_1, kW2_1, kW2_2, kW2_3, kW2_4, kW_1, kW_2, kg_1, ksa_1, ki_1, ki_2, ki_3, kap2_1, kap_1, ksx4_1, ksx3_1, ksx2_1, ksx1_1, kat_1, ko_1, kfin_1, kfin_2, klc2_1, klc_1, kC4_1, kC3_1, kC2_1, kC2_2, kC1_1, ksum_1, kst2_1, kst_1, kst_2, kRev_1, kRev_2, krg_1, krg2_1, krg1_1, kav_1, kav_2, krc_1, runFn_a, out_n, out_s, ini_a, iniL_n, iniL_0, iniL_e, sSeq_a, sSet_a, sPar_a, dNil_a, dCons_a, setAll_n, setAll_c, sIf_a, sRet_a, sExpr_a, sNext_a, sBreak_a, sCont_a, mC_a, mVar_a, mMove_a, fz_a, m1_a, m2_a, tst_a, tNot_a, tAnd_a, tOr_a, tYes_a, mAnd_a, mOr_a, mIf_a, mChain_a, mCall_a, mCallL_a, lNil_a, lCons_a, lLend_a, res_e, res_v, res_s, slot_0, slot_s, put_a, peek_a, lstAt_a, get_v, get_o, get_b, aNil_a, aCons_a, aStar_a, mTup_a, mLst_a, mB_a, mIxS_a, mLenS_a, mIsi_a, pNone_a, pSome_a, mSl_a, sFor_a, forL_n, forL_c, whN_s, gN_a, gT_a, gsC_a, gsN_a, sAsg_a, iSeq_a, sApp_a, sSetIx_a, mLc_a, lcL_n, lcL_c, wipe_n, wipe_c, rest_n, rest_c, allVal_n, allVal_c, mRev_a, mLRg_a, mLRg2_a, lt_int, le_int, gt_int, ge_int, sub_int, add_int, mod_int, fdiv_int, pow_int', mul_ok, eq_int, ne_int, neg_int, not_bl, abs_int, int_int, int_bl, max_2, min_2, max_3, min_3, len_l, len_t, len_s, lenB_l, lenB_t, lenB_s, ix_s, ixV_a, tuple_l, tuple_t, list_l, list_t, sum_l, all_l, any_l, isi_int, isi_bool, isi_tup, ix_fr0, ix_fr1, mul_l, cat_l, cat_t, sl_l, sl_t, sl_s, line, List.length_cons, List.length_nil, List.replicate, List.append_nil, List.cons_append, List.nil_append, Nat.reduceAdd, Nat.reduceSub, List.getElem?_cons_succ, List.getElem?_cons_zero, Nat.sub_self, List.set_cons_succ, List.set_cons_zero, ↓reduceIte, Nat.reduceLeDiff, Nat.reduceLT, e_choose_of, e_ratio_of, e_whole_power, h1, hr1, hr2, en, h2, hp, hs, hsum, hq, rangeD_length]
  have l2 : f + 1 - n ≤ 16777216 := by omega
  simp [kSeq_1, kSeq_2, kSeq_3, kSeq_4, kSet_1, kNx_1, kPar_1, kd2_1, kd1_1, kIf_1, kIf_2, kRt_1, kEx_1, kVar_1, kVar_2, kMov_1, kMov_2, kfz_1, kfz_2, kc_1, k1_1, k2b_1, k2a_1, kt_1, kn_1, kAnd_1, kAnd_2, kOr_1, kOr_2, kmA_1, kmA_2, kmO_1, kmO_2, kmI_1, kmI_2, kh4_1, kh3_1, kh3_2, kh2_1, kh1_1, kcb_1, kca_1, kL5_1, kL4_1, kL3_1, kL2_1, kL1_1, kl2_1, kl1_1, kl3_1, kr_1, krs_1, krs_2, kput_1, kput_2, kpk_1, klst_1, klst_2, kbor_1, ka2_1, ka1_1, ktup_1, kls_1, kB_1, kx3_1, kx2_1, kx1_1, kx4_1, kis2_1, kis_1, kp_1, ks3_1, ks2_1, ks1_1, kF_1, kF2_1, kF2_2, kF2_3, kF2_4, kF1_1, kW2_1, kW2_2, kW2_3, kW2_4, kW_1, kW_2, kg_1, ksa_1, ki_1, ki_2, ki_3, kap2_1, kap_1, ksx4_1, ksx3_1, ksx2_1, ksx1_1, kat_1, ko_1, kfin_1, kfin_2, klc2_1, klc_1, kC4_1, kC3_1, kC2_1, kC2_2, kC1_1, ksum_1, kst2_1, kst_1, kst_2, kRev_1, kRev_2, krg_1, krg2_1, krg1_1, kav_1, kav_2, krc_1, runFn_a, out_n, out_s, ini_a, iniL_n, iniL_0, iniL_e, sSeq_a, sSet_a, sPar_a, dNil_a, dCons_a, setAll_n, setAll_c, sIf_a, sRet_a, sExpr_a, sNext_a, sBreak_a, sCont_a, mC_a, mVar_a, mMove_a, fz_a, m1_a, m2_a, tst_a, tNot_a, tAnd_a, tOr_a, tYes_a, mAnd_a, mOr_a, mIf_a, mChain_a, mCall_a, mCallL_a, lNil_a, lCons_a, lLend_a, res_e, res_v, res_s, slot_0, slot_s, put_a, peek_a, lstAt_a, get_v, get_o, get_b, aNil_a, aCons_a, aStar_a, mTup_a, mLst_a, mB_a, mIxS_a, mLenS_a, mIsi_a, pNone_a, pSome_a, mSl_a, sFor_a, forL_n, forL_c, whN_s, gN_a, gT_a, gsC_a, gsN_a, sAsg_a, iSeq_a, sApp_a, sSetIx_a, mLc_a, lcL_n, lcL_c, wipe_n, wipe_c, rest_n, rest_c, allVal_n, allVal_c, mRev_a, mLRg_a, mLRg2_a, lt_int, le_int, gt_int, ge_int, sub_int, add_int, mod_int, fdiv_int, pow_int', mul_ok, eq_int, ne_int, neg_int, not_bl, abs_int, int_int, int_bl, max_2, min_2, max_3, min_3, len_l, len_t, len_s, lenB_l, lenB_t, lenB_s, ix_s, ixV_a, tuple_l, tuple_t, list_l, list_t, sum_l, all_l, any_l, isi_int, isi_bool, isi_tup, ix_fr0, ix_fr1, mul_l, cat_l, cat_t, sl_l, sl_t, sl_s, line, List.length_cons, List.length_nil, List.replicate, List.append_nil, List.cons_append, List.nil_append, Nat.reduceAdd, Nat.reduceSub, List.getElem?_cons_succ, List.getElem?_cons_zero, Nat.sub_self, List.set_cons_succ, List.set_cons_zero, ↓reduceIte, Nat.reduceLeDiff, Nat.reduceLT, h2, hp, hs, hsum, hq, l2]
theorem P_fs {t l f n : Nat} (ht : t ≤ l) (h0 : 0 < l) (hl : l ≤ 1000) : Fs (11 * f + 1) (P f n ((t : Rat) / (l : Rat))) := by
  have := T_P (t := t) (r := l - t) (by omega) f n
  rw [show t + (l - t) = l by omega] at this
  rw [← this]
  have hs : Sz (11 * f + 1) ((l : Int) ^ f) := (sz_nat (n := l) 11 (by omega)).pow f
  have hb : (((l : Nat) : Rat)) ^ f = (((l : Int) ^ f : Int) : Rat) := by rw [Rat.intCast_pow, Rat.intCast_natCast]
  rw [hb, ← Rat.intCast_natCast (T t (l - t) f n)]
  have hpos : 0 < (l : Int) ^ f := Int.pow_pos (by omega)
  refine fs_ratio (hs.of_le ?_) hs (by omega)
  have h2 := T_le t (l - t) f n
  rw [show t + (l - t) = l by omega] at h2
  have h3 : ((T t (l - t) f n : Nat) : Int) ≤ (l : Int) ^ f := by exact_mod_cast h2
  omega
end
end Wk61

set_option Elab.async false
set_option linter.all false
set_option maxRecDepth 100000
namespace Wk61
open PySem Cb Mk61
noncomputable section
theorem e_is_below : f_is_below = c__law_below := rfl
theorem check_fresh_ok {f n : Nat} (h0 : 1 ≤ f) (h1 : f ≤ 400) (h2 : n ≤ f) : f_check_fresh [.int f, .int n] = ok .non := by
  have e1 : decide ((1 : Int) ≤ (f : Int) ∧ (f : Int) ≤ 400) = true := by simp; omega
  have e2 : decide ((0 : Int) ≤ (n : Int) ∧ (n : Int) ≤ f) = true := by simp; omega
  simp only [f_check_fresh, b_check_fresh, kSeq_1, kSeq_2, kSeq_3, kSeq_4, kSet_1, kNx_1, kPar_1, kd2_1, kd1_1, kIf_1, kIf_2, kRt_1, kEx_1, kVar_1, kVar_2, kMov_1, kMov_2, kfz_1, kfz_2, kc_1, k1_1, k2b_1, k2a_1, kt_1, kn_1, kAnd_1, kAnd_2, kOr_1, kOr_2, kmA_1, kmA_2, kmO_1, kmO_2, kmI_1, kmI_2, kh4_1, kh3_1, kh3_2, kh2_1, kh1_1, kcb_1, kca_1, kL5_1, kL4_1, kL3_1, kL2_1, kL1_1, kl2_1, kl1_1, kl3_1, kr_1, krs_1, krs_2, kput_1, kput_2, kpk_1, klst_1, klst_2, kbor_1, ka2_1, ka1_1, ktup_1, kls_1, kB_1, kx3_1, kx2_1, kx1_1, kx4_1, kis2_1, kis_1, kp_1, ks3_1, ks2_1, ks1_1, kF_1, kF2_1, kF2_2, kF2_3, kF2_4, kF1_1, kW2_1, kW2_2, kW2_3, kW2_4, kW_1, kW_2, kg_1, ksa_1, ki_1, ki_2, ki_3, kap2_1, kap_1, ksx4_1, ksx3_1, ksx2_1, ksx1_1, kat_1, ko_1, kfin_1, kfin_2, klc2_1, klc_1, kC4_1, kC3_1, kC2_1, kC2_2, kC1_1, ksum_1, kst2_1, kst_1, kst_2, kRev_1, kRev_2, krg_1, krg2_1, krg1_1, kav_1, kav_2, krc_1, runFn_a, out_n, out_s, ini_a, iniL_n, iniL_0, iniL_e, sSeq_a, sSet_a, sPar_a, dNil_a, dCons_a, setAll_n, setAll_c, sIf_a, sRet_a, sExpr_a, sNext_a, sBreak_a, sCont_a, mC_a, mVar_a, mMove_a, fz_a, m1_a, m2_a, tst_a, tNot_a, tAnd_a, tOr_a, tYes_a, mAnd_a, mOr_a, mIf_a, mChain_a, mCall_a, mCallL_a, lNil_a, lCons_a, lLend_a, res_e, res_v, res_s, slot_0, slot_s, put_a, peek_a, lstAt_a, get_v, get_o, get_b, aNil_a, aCons_a, aStar_a, mTup_a, mLst_a, mB_a, mIxS_a, mLenS_a, mIsi_a, pNone_a, pSome_a, mSl_a, sFor_a, forL_n, forL_c, whN_s, gN_a, gT_a, gsC_a, gsN_a, sAsg_a, iSeq_a, sApp_a, sSetIx_a, mLc_a, lcL_n, lcL_c, wipe_n, wipe_c, rest_n, rest_c, allVal_n, allVal_c, mRev_a, mLRg_a, mLRg2_a, lt_int, le_int, gt_int, ge_int, sub_int, add_int, mod_int, fdiv_int, pow_int', mul_ok, eq_int, ne_int, neg_int, not_bl, abs_int, int_int, int_bl, max_2, min_2, max_3, min_3, len_l, len_t, len_s, lenB_l, lenB_t, lenB_s, ix_s, ixV_a, tuple_l, tuple_t, list_l, list_t, sum_l, all_l, any_l, isi_int, isi_bool, isi_tup, ix_fr0, ix_fr1, mul_l, cat_l, cat_t, sl_l, sl_t, sl_s, line, Bool.not_true, Bool.not_false, decide_true, decide_false, Bool.and_self, Bool.and_true, Bool.true_and, List.length_cons, List.length_nil, List.replicate, List.append_nil, List.cons_append, List.nil_append, Nat.reduceAdd, Nat.reduceSub, List.getElem?_cons_succ, List.getElem?_cons_zero, Nat.sub_self, List.set_cons_succ, List.set_cons_zero, ↓reduceIte, Nat.reduceLeDiff, Nat.reduceLT, e_is_integer, is_integer_ok, e1, e2]
theorem check_low_ok {l : Nat} (h0 : 1 ≤ l) (h1 : l ≤ 1000) : f_check_low [.int l] = ok .non := by
  have e1 : decide ((1 : Int) ≤ (l : Int) ∧ (l : Int) ≤ 1000) = true := by simp; omega
  simp only [f_check_low, b_check_low, kSeq_1, kSeq_2, kSeq_3, kSeq_4, kSet_1, kNx_1, kPar_1, kd2_1, kd1_1, kIf_1, kIf_2, kRt_1, kEx_1, kVar_1, kVar_2, kMov_1, kMov_2, kfz_1, kfz_2, kc_1, k1_1, k2b_1, k2a_1, kt_1, kn_1, kAnd_1, kAnd_2, kOr_1, kOr_2, kmA_1, kmA_2, kmO_1, kmO_2, kmI_1, kmI_2, kh4_1, kh3_1, kh3_2, kh2_1, kh1_1, kcb_1, kca_1, kL5_1, kL4_1, kL3_1, kL2_1, kL1_1, kl2_1, kl1_1, kl3_1, kr_1, krs_1, krs_2, kput_1, kput_2, kpk_1, klst_1, klst_2, kbor_1, ka2_1, ka1_1, ktup_1, kls_1, kB_1, kx3_1, kx2_1, kx1_1, kx4_1, kis2_1, kis_1, kp_1, ks3_1, ks2_1, ks1_1, kF_1, kF2_1, kF2_2, kF2_3, kF2_4, kF1_1, kW2_1, kW2_2, kW2_3, kW2_4, kW_1, kW_2, kg_1, ksa_1, ki_1, ki_2, ki_3, kap2_1, kap_1, ksx4_1, ksx3_1, ksx2_1, ksx1_1, kat_1, ko_1, kfin_1, kfin_2, klc2_1, klc_1, kC4_1, kC3_1, kC2_1, kC2_2, kC1_1, ksum_1, kst2_1, kst_1, kst_2, kRev_1, kRev_2, krg_1, krg2_1, krg1_1, kav_1, kav_2, krc_1, runFn_a, out_n, out_s, ini_a, iniL_n, iniL_0, iniL_e, sSeq_a, sSet_a, sPar_a, dNil_a, dCons_a, setAll_n, setAll_c, sIf_a, sRet_a, sExpr_a, sNext_a, sBreak_a, sCont_a, mC_a, mVar_a, mMove_a, fz_a, m1_a, m2_a, tst_a, tNot_a, tAnd_a, tOr_a, tYes_a, mAnd_a, mOr_a, mIf_a, mChain_a, mCall_a, mCallL_a, lNil_a, lCons_a, lLend_a, res_e, res_v, res_s, slot_0, slot_s, put_a, peek_a, lstAt_a, get_v, get_o, get_b, aNil_a, aCons_a, aStar_a, mTup_a, mLst_a, mB_a, mIxS_a, mLenS_a, mIsi_a, pNone_a, pSome_a, mSl_a, sFor_a, forL_n, forL_c, whN_s, gN_a, gT_a, gsC_a, gsN_a, sAsg_a, iSeq_a, sApp_a, sSetIx_a, mLc_a, lcL_n, lcL_c, wipe_n, wipe_c, rest_n, rest_c, allVal_n, allVal_c, mRev_a, mLRg_a, mLRg2_a, lt_int, le_int, gt_int, ge_int, sub_int, add_int, mod_int, fdiv_int, pow_int', mul_ok, eq_int, ne_int, neg_int, not_bl, abs_int, int_int, int_bl, max_2, min_2, max_3, min_3, len_l, len_t, len_s, lenB_l, lenB_t, lenB_s, ix_s, ixV_a, tuple_l, tuple_t, list_l, list_t, sum_l, all_l, any_l, isi_int, isi_bool, isi_tup, ix_fr0, ix_fr1, mul_l, cat_l, cat_t, sl_l, sl_t, sl_s, line, Bool.not_true, Bool.not_false, decide_true, decide_false, Bool.and_self, Bool.and_true, Bool.true_and, List.length_cons, List.length_nil, List.replicate, List.append_nil, List.cons_append, List.nil_append, Nat.reduceAdd, Nat.reduceSub, List.getElem?_cons_succ, List.getElem?_cons_zero, Nat.sub_self, List.set_cons_succ, List.set_cons_zero, ↓reduceIte, Nat.reduceLeDiff, Nat.reduceLT, e_is_integer, is_integer_ok, e1]
theorem check_part_ok {s : Rat} (hz : Fz s) (h0 : 0 ≤ s) (h1 : s < 1) : f_check_part [fr s] = ok .non := by
  have n0 : 0 ≤ s.num := Rat.num_nonneg.mpr h0
  have n1 : s.num ≤ s.den := by
    have := (Rat.lt_iff _ _).mp h1
    simp at this; omega
  have hne : s ≠ 1 := by grind
  simp only [f_check_part, b_check_part, kSeq_1, kSeq_2, kSeq_3, kSeq_4, kSet_1, kNx_1, kPar_1, kd2_1, kd1_1, kIf_1, kIf_2, kRt_1, kEx_1, kVar_1, kVar_2, kMov_1, kMov_2, kfz_1, kfz_2, kc_1, k1_1, k2b_1, k2a_1, kt_1, kn_1, kAnd_1, kAnd_2, kOr_1, kOr_2, kmA_1, kmA_2, kmO_1, kmO_2, kmI_1, kmI_2, kh4_1, kh3_1, kh3_2, kh2_1, kh1_1, kcb_1, kca_1, kL5_1, kL4_1, kL3_1, kL2_1, kL1_1, kl2_1, kl1_1, kl3_1, kr_1, krs_1, krs_2, kput_1, kput_2, kpk_1, klst_1, klst_2, kbor_1, ka2_1, ka1_1, ktup_1, kls_1, kB_1, kx3_1, kx2_1, kx1_1, kx4_1, kis2_1, kis_1, kp_1, ks3_1, ks2_1, ks1_1, kF_1, kF2_1, kF2_2, kF2_3, kF2_4, kF1_1, kW2_1, kW2_2, kW2_3, kW2_4, kW_1, kW_2, kg_1, ksa_1, ki_1, ki_2, ki_3, kap2_1, kap_1, ksx4_1, ksx3_1, ksx2_1, ksx1_1, kat_1, ko_1, kfin_1, kfin_2, klc2_1, klc_1, kC4_1, kC3_1, kC2_1, kC2_2, kC1_1, ksum_1, kst2_1, kst_1, kst_2, kRev_1, kRev_2, krg_1, krg2_1, krg1_1, kav_1, kav_2, krc_1, runFn_a, out_n, out_s, ini_a, iniL_n, iniL_0, iniL_e, sSeq_a, sSet_a, sPar_a, dNil_a, dCons_a, setAll_n, setAll_c, sIf_a, sRet_a, sExpr_a, sNext_a, sBreak_a, sCont_a, mC_a, mVar_a, mMove_a, fz_a, m1_a, m2_a, tst_a, tNot_a, tAnd_a, tOr_a, tYes_a, mAnd_a, mOr_a, mIf_a, mChain_a, mCall_a, mCallL_a, lNil_a, lCons_a, lLend_a, res_e, res_v, res_s, slot_0, slot_s, put_a, peek_a, lstAt_a, get_v, get_o, get_b, aNil_a, aCons_a, aStar_a, mTup_a, mLst_a, mB_a, mIxS_a, mLenS_a, mIsi_a, pNone_a, pSome_a, mSl_a, sFor_a, forL_n, forL_c, whN_s, gN_a, gT_a, gsC_a, gsN_a, sAsg_a, iSeq_a, sApp_a, sSetIx_a, mLc_a, lcL_n, lcL_c, wipe_n, wipe_c, rest_n, rest_c, allVal_n, allVal_c, mRev_a, mLRg_a, mLRg2_a, lt_int, le_int, gt_int, ge_int, sub_int, add_int, mod_int, fdiv_int, pow_int', mul_ok, eq_int, ne_int, neg_int, not_bl, abs_int, int_int, int_bl, max_2, min_2, max_3, min_3, len_l, len_t, len_s, lenB_l, lenB_t, lenB_s, ix_s, ixV_a, tuple_l, tuple_t, list_l, list_t, sum_l, all_l, any_l, isi_int, isi_bool, isi_tup, ix_fr0, ix_fr1, mul_l, cat_l, cat_t, sl_l, sl_t, sl_s, line, Bool.not_true, Bool.not_false, decide_true, decide_false, Bool.and_self, Bool.and_true, Bool.true_and, List.length_cons, List.length_nil, List.replicate, List.append_nil, List.cons_append, List.nil_append, Nat.reduceAdd, Nat.reduceSub, List.getElem?_cons_succ, List.getElem?_cons_zero, Nat.sub_self, List.set_cons_succ, List.set_cons_zero, ↓reduceIte, Nat.reduceLeDiff, Nat.reduceLT, e_is_share, is_share_ok hz n0 n1, fr_one, eq_fr, hne]
def WC : MT := tst (m2 dGt (m2 dSub (mVar 5) (mVar 4)) (mC (.int 1)))
def WB : MS := sSeq (sSet 6 (m2 dFdiv (m2 dAdd (mVar 4) (mVar 5)) (mC (.int 2))))
    (sIf (tst (mCall f_is_below (aCons (mVar 2) (aCons (mCall f_new_from (aCons (mVar 6) (aCons (mVar 3) (aCons (mVar 0) (aCons (mVar 1) aNil))))) aNil)))) (sSet 5 (mVar 6)) (sSet 4 (mVar 6)))
theorem lt_loop {f n l : Nat} {s : Rat} (h0 : 0 < l) (hl : l ≤ 1000) (hn : n ≤ f) (hf : f < 700) (hs : Fs 100 s) : ∀ (d a b : Nat) (o : Option DV), b - a ≤ d → a ≤ b → b ≤ l → s < P f n ((b : Rat) / (l : Rat)) → (∀ k : Nat, k < a → P f n ((k : Rat) / (l : Rat)) ≤ s) →
    ∃ (N m : Nat) (x o' : Option DV), whN WC WB N [some (.val (.int f)), some (.val (.int n)), some (.val (fr s)), some (.val (.int l)), some (.val (.int ((a : Int) - 1))), some (.val (.int b)), o] =
      some (.nx [some (.val (.int f)), some (.val (.int n)), some (.val (fr s)), some (.val (.int l)), x, some (.val (.int m)), o']) ∧ Least f n s l m
  | d, a, b, o, hd, hab, hbl, hP, hB => by
    by_cases hc : a = b
    · subst hc
      have e1 : decide ((1 : Int) < (a : Int) - ((a : Int) - 1)) = false := by simp; omega
      refine ⟨1, a, some (.val (.int ((a : Int) - 1))), o, ?_, ⟨hbl, hP, hB⟩⟩
      simp only [WC, WB, whN_s, kSeq_1, kSeq_2, kSeq_3, kSeq_4, kSet_1, kNx_1, kPar_1, kd2_1, kd1_1, kIf_1, kIf_2, kRt_1, kEx_1, kVar_1, kVar_2, kMov_1, kMov_2, kfz_1, kfz_2, kc_1, k1_1, k2b_1, k2a_1, kt_1, kn_1, kAnd_1, kAnd_2, kOr_1, kOr_2, kmA_1, kmA_2, kmO_1, kmO_2, kmI_1, kmI_2, kh4_1, kh3_1, kh3_2, kh2_1, kh1_1, kcb_1, kca_1, kL5_1, kL4_1, kL3_1, kL2_1, kL1_1, kl2_1, kl1_1, kl3_1, kr_1, krs_1, krs_2, kput_1, kput_2, kpk_1, klst_1, klst_2, kbor_1, ka2_1, ka1_1, ktup_1, kls_1, kB_1, kx3_1, kx2_1, kx1_1, kx4_1, kis2_1, kis_1, kp_1, ks3_1, ks2_1, ks1_1, kF_1, kF2_1, kF2_2, kF2_3, kF2_4, kF1_1, kW2_1, kW2_2, kW2_3, kW2_4, kW_1, kW_2, kg_1, ksa_1, ki_1, ki_2, ki_3, kap2_1, kap_1, ksx4_1, ksx3_1, ksx2_1, ksx1_1, kat_1, ko_1, kfin_1, kfin_2, klc2_1, klc_1, kC4_1, kC3_1, kC2_1, kC2_2, kC1_1, ksum_1, kst2_1, kst_1, kst_2, kRev_1, kRev_2, krg_1, krg2_1, krg1_1, kav_1, kav_2, krc_1, runFn_a, out_n, out_s, ini_a, iniL_n, iniL_0, iniL_e, sSeq_a, sSet_a, sPar_a, dNil_a, dCons_a, setAll_n, setAll_c, sIf_a, sRet_a, sExpr_a, sNext_a, sBreak_a, sCont_a, mC_a, mVar_a, mMove_a, fz_a, m1_a, m2_a, tst_a, tNot_a, tAnd_a, tOr_a, tYes_a, mAnd_a, mOr_a, mIf_a, mChain_a, mCall_a, mCallL_a, lNil_a, lCons_a, lLend_a, res_e, res_v, res_s, slot_0, slot_s, put_a, peek_a, lstAt_a, get_v, get_o, get_b, aNil_a, aCons_a, aStar_a, mTup_a, mLst_a, mB_a, mIxS_a, mLenS_a, mIsi_a, pNone_a, pSome_a, mSl_a, sFor_a, forL_n, forL_c, whN_s, gN_a, gT_a, gsC_a, gsN_a, sAsg_a, iSeq_a, sApp_a, sSetIx_a, mLc_a, lcL_n, lcL_c, wipe_n, wipe_c, rest_n, rest_c, allVal_n, allVal_c, mRev_a, mLRg_a, mLRg2_a, lt_int, le_int, gt_int, ge_int, sub_int, add_int, mod_int, fdiv_int, pow_int', mul_ok, eq_int, ne_int, neg_int, not_bl, abs_int, int_int, int_bl, max_2, min_2, max_3, min_3, len_l, len_t, len_s, lenB_l, lenB_t, lenB_s, ix_s, ixV_a, tuple_l, tuple_t, list_l, list_t, sum_l, all_l, any_l, isi_int, isi_bool, isi_tup, ix_fr0, ix_fr1, mul_l, cat_l, cat_t, sl_l, sl_t, sl_s, line, Bool.not_true, Bool.not_false, decide_true, decide_false, Bool.and_self, Bool.and_true, Bool.true_and, List.length_cons, List.length_nil, List.replicate, List.append_nil, List.cons_append, List.nil_append, Nat.reduceAdd, Nat.reduceSub, List.getElem?_cons_succ, List.getElem?_cons_zero, Nat.sub_self, List.set_cons_succ, List.set_cons_zero, ↓reduceIte, Nat.reduceLeDiff, Nat.reduceLT, e1]
    · cases d with
      | zero => omega
      | succ d =>
      have e1 : decide ((1 : Int) < (b : Int) - ((a : Int) - 1)) = true := by simp; omega
      have e2 : ((a : Int) - 1 + b).fdiv 2 = ((a + b - 1) / 2 : Nat) := by
        rw [Int.fdiv_eq_ediv_of_nonneg _ (by decide)]; omega
      have d2 : DivOk 2 := by decide
      generalize hm : (a + b - 1) / 2 = mid at *
      have hmb : mid < b := by omega
      have hma : a ≤ mid := by omega
      have hnf := new_from_ok (t := mid) (l := l) (f := f) (n := n) (by omega) h0 hl hn hf
      have hfs := P_fs (t := mid) (l := l) (f := f) (n := n) (by omega) h0 hl
      have hbel := law_below_ok hs hfs (by omega)
      by_cases hlt : s < P f n ((mid : Rat) / (l : Rat))
      · obtain ⟨N, m, x, o', h, hL⟩ := lt_loop h0 hl hn hf hs d a mid (some (.val (.int mid))) (by omega) hma (by omega) hlt hB
        refine ⟨N + 1, m, x, o', ?_, hL⟩
        have e3 : decide (s < P f n ((mid : Rat) / (l : Rat))) = true := by simpa using hlt
        rw [← h]
        simp only [WC, WB, whN_s, kSeq_1, kSeq_2, kSeq_3, kSeq_4, kSet_1, kNx_1, kPar_1, kd2_1, kd1_1, kIf_1, kIf_2, kRt_1, kEx_1, kVar_1, kVar_2, kMov_1, kMov_2, kfz_1, kfz_2, kc_1, k1_1, k2b_1, k2a_1, kt_1, kn_1, kAnd_1, kAnd_2, kOr_1, kOr_2, kmA_1, kmA_2, kmO_1, kmO_2, kmI_1, kmI_2, kh4_1, kh3_1, kh3_2, kh2_1, kh1_1, kcb_1, kca_1, kL5_1, kL4_1, kL3_1, kL2_1, kL1_1, kl2_1, kl1_1, kl3_1, kr_1, krs_1, krs_2, kput_1, kput_2, kpk_1, klst_1, klst_2, kbor_1, ka2_1, ka1_1, ktup_1, kls_1, kB_1, kx3_1, kx2_1, kx1_1, kx4_1, kis2_1, kis_1, kp_1, ks3_1, ks2_1, ks1_1, kF_1, kF2_1, kF2_2, kF2_3, kF2_4, kF1_1, kW2_1, kW2_2, kW2_3, kW2_4, kW_1, kW_2, kg_1, ksa_1, ki_1, ki_2, ki_3, kap2_1, kap_1, ksx4_1, ksx3_1, ksx2_1, ksx1_1, kat_1, ko_1, kfin_1, kfin_2, klc2_1, klc_1, kC4_1, kC3_1, kC2_1, kC2_2, kC1_1, ksum_1, kst2_1, kst_1, kst_2, kRev_1, kRev_2, krg_1, krg2_1, krg1_1, kav_1, kav_2, krc_1, runFn_a, out_n, out_s, ini_a, iniL_n, iniL_0, iniL_e, sSeq_a, sSet_a, sPar_a, dNil_a, dCons_a, setAll_n, setAll_c, sIf_a, sRet_a, sExpr_a, sNext_a, sBreak_a, sCont_a, mC_a, mVar_a, mMove_a, fz_a, m1_a, m2_a, tst_a, tNot_a, tAnd_a, tOr_a, tYes_a, mAnd_a, mOr_a, mIf_a, mChain_a, mCall_a, mCallL_a, lNil_a, lCons_a, lLend_a, res_e, res_v, res_s, slot_0, slot_s, put_a, peek_a, lstAt_a, get_v, get_o, get_b, aNil_a, aCons_a, aStar_a, mTup_a, mLst_a, mB_a, mIxS_a, mLenS_a, mIsi_a, pNone_a, pSome_a, mSl_a, sFor_a, forL_n, forL_c, whN_s, gN_a, gT_a, gsC_a, gsN_a, sAsg_a, iSeq_a, sApp_a, sSetIx_a, mLc_a, lcL_n, lcL_c, wipe_n, wipe_c, rest_n, rest_c, allVal_n, allVal_c, mRev_a, mLRg_a, mLRg2_a, lt_int, le_int, gt_int, ge_int, sub_int, add_int, mod_int, fdiv_int, pow_int', mul_ok, eq_int, ne_int, neg_int, not_bl, abs_int, int_int, int_bl, max_2, min_2, max_3, min_3, len_l, len_t, len_s, lenB_l, lenB_t, lenB_s, ix_s, ixV_a, tuple_l, tuple_t, list_l, list_t, sum_l, all_l, any_l, isi_int, isi_bool, isi_tup, ix_fr0, ix_fr1, mul_l, cat_l, cat_t, sl_l, sl_t, sl_s, line, Bool.not_true, Bool.not_false, decide_true, decide_false, Bool.and_self, Bool.and_true, Bool.true_and, List.length_cons, List.length_nil, List.replicate, List.append_nil, List.cons_append, List.nil_append, Nat.reduceAdd, Nat.reduceSub, List.getElem?_cons_succ, List.getElem?_cons_zero, Nat.sub_self, List.set_cons_succ, List.set_cons_zero, ↓reduceIte, Nat.reduceLeDiff, Nat.reduceLT, e1, e2, d2, hnf, e_is_below, hbel, e3]
      · have hB' : ∀ k : Nat, k < mid + 1 → P f n ((k : Rat) / (l : Rat)) ≤ s := by
          intro k hk
          have r1 := q_rng (k := k) (l := l) (by omega) h0
          have r2 := q_rng (k := mid) (l := l) (by omega) h0
          have := P_mono r1.1 (q_mono (k := k) (j := mid) (l := l) (by omega) h0) r2.2 f n
          grind
        obtain ⟨N, m, x, o', h, hL⟩ := lt_loop h0 hl hn hf hs d (mid + 1) b (some (.val (.int mid))) (by omega) (by omega) hbl hP hB'
        refine ⟨N + 1, m, x, o', ?_, hL⟩
        have e3 : decide (s < P f n ((mid : Rat) / (l : Rat))) = false := by simpa using hlt
        rw [show (((mid + 1 : Nat) : Int) - 1) = (mid : Int) by omega] at h
        rw [← h]
        simp only [WC, WB, whN_s, kSeq_1, kSeq_2, kSeq_3, kSeq_4, kSet_1, kNx_1, kPar_1, kd2_1, kd1_1, kIf_1, kIf_2, kRt_1, kEx_1, kVar_1, kVar_2, kMov_1, kMov_2, kfz_1, kfz_2, kc_1, k1_1, k2b_1, k2a_1, kt_1, kn_1, kAnd_1, kAnd_2, kOr_1, kOr_2, kmA_1, kmA_2, kmO_1, kmO_2, kmI_1, kmI_2, kh4_1, kh3_1, kh3_2, kh2_1, kh1_1, kcb_1, kca_1, kL5_1, kL4_1, kL3_1, kL2_1, kL1_1, kl2_1, kl1_1, kl3_1, kr_1, krs_1, krs_2, kput_1, kput_2, kpk_1, klst_1, klst_2, kbor_1, ka2_1, ka1_1, ktup_1, kls_1, kB_1, kx3_1, kx2_1, kx1_1, kx4_1, kis2_1, kis_1, kp_1, ks3_1, ks2_1, ks1_1, kF_1, kF2_1, kF2_2, kF2_3, kF2_4, kF1_1, kW2_1, kW2_2, kW2_3, kW2_4, kW_1, kW_2, kg_1, ksa_1, ki_1, ki_2, ki_3, kap2_1, kap_1, ksx4_1, ksx3_1, ksx2_1, ksx1_1, kat_1, ko_1, kfin_1, kfin_2, klc2_1, klc_1, kC4_1, kC3_1, kC2_1, kC2_2, kC1_1, ksum_1, kst2_1, kst_1, kst_2, kRev_1, kRev_2, krg_1, krg2_1, krg1_1, kav_1, kav_2, krc_1, runFn_a, out_n, out_s, ini_a, iniL_n, iniL_0, iniL_e, sSeq_a, sSet_a, sPar_a, dNil_a, dCons_a, setAll_n, setAll_c, sIf_a, sRet_a, sExpr_a, sNext_a, sBreak_a, sCont_a, mC_a, mVar_a, mMove_a, fz_a, m1_a, m2_a, tst_a, tNot_a, tAnd_a, tOr_a, tYes_a, mAnd_a, mOr_a, mIf_a, mChain_a, mCall_a, mCallL_a, lNil_a, lCons_a, lLend_a, res_e, res_v, res_s, slot_0, slot_s, put_a, peek_a, lstAt_a, get_v, get_o, get_b, aNil_a, aCons_a, aStar_a, mTup_a, mLst_a, mB_a, mIxS_a, mLenS_a, mIsi_a, pNone_a, pSome_a, mSl_a, sFor_a, forL_n, forL_c, whN_s, gN_a, gT_a, gsC_a, gsN_a, sAsg_a, iSeq_a, sApp_a, sSetIx_a, mLc_a, lcL_n, lcL_c, wipe_n, wipe_c, rest_n, rest_c, allVal_n, allVal_c, mRev_a, mLRg_a, mLRg2_a, lt_int, le_int, gt_int, ge_int, sub_int, add_int, mod_int, fdiv_int, pow_int', mul_ok, eq_int, ne_int, neg_int, not_bl, abs_int, int_int, int_bl, max_2, min_2, max_3, min_3, len_l, len_t, len_s, lenB_l, lenB_t, lenB_s, ix_s, ixV_a, tuple_l, tuple_t, list_l, list_t, sum_l, all_l, any_l, isi_int, isi_bool, isi_tup, ix_fr0, ix_fr1, mul_l, cat_l, cat_t, sl_l, sl_t, sl_s, line, Bool.not_true, Bool.not_false, decide_true, decide_false, Bool.and_self, Bool.and_true, Bool.true_and, List.length_cons, List.length_nil, List.replicate, List.append_nil, List.cons_append, List.nil_append, Nat.reduceAdd, Nat.reduceSub, List.getElem?_cons_succ, List.getElem?_cons_zero, Nat.sub_self, List.set_cons_succ, List.set_cons_zero, ↓reduceIte, Nat.reduceLeDiff, Nat.reduceLT, e1, e2, d2, hnf, e_is_below, hbel, e3]
theorem least_top_ok {f n l : Nat} {s : Rat} (h0 : 0 < l) (hl : l ≤ 1000) (hn : n ≤ f) (hf : f < 700) (hs : Fs 100 s) (h1 : s < 1) : ∃ m, f_least_top [.int f, .int n, fr s, .int l] = ok (.int (m : Nat)) ∧ Least f n s l m := by
  have hP : s < P f n ((l : Rat) / (l : Rat)) := by
    have hl' : (l : Rat) ≠ 0 := by have := Rat.natCast_pos.mpr h0; grind
    have : (l : Rat) / (l : Rat) = 1 := by rw [Rat.div_def, Rat.mul_inv_cancel _ hl']
    rw [this, P_one f n hn]; exact h1
  obtain ⟨N, m, x, o', h, hL⟩ := lt_loop h0 hl hn hf hs (l - 0) 0 l none (Nat.le_refl _) (by omega) (Nat.le_refl _) hP (fun k hk => by omega)
  have w := sWhile_of h
  refine ⟨m, ?_, hL⟩
  have e : (((0 : Nat) : Int) - 1) = -1 := by decide
  rw [e] at w
  have hw : sWhile WC WB = sWhile (tst (m2 dGt (m2 dSub (mVar 5) (mVar 4)) (mC (.int 1)))) (sSeq (sSet 6 (m2 dFdiv (m2 dAdd (mVar 4) (mVar 5)) (mC (.int 2))))
    (sIf (tst (mCall f_is_below (aCons (mVar 2) (aCons (mCall f_new_from (aCons (mVar 6) (aCons (mVar 3) (aCons (mVar 0) (aCons (mVar 1) aNil))))) aNil)))) (sSet 5 (mVar 6)) (sSet 4 (mVar 6)))) := rfl
  rw [hw] at w
  simp only [f_least_top, b_least_top, kSeq_1, kSeq_2, kSeq_3, kSeq_4, kSet_1, kNx_1, kPar_1, kd2_1, kd1_1, kIf_1, kIf_2, kRt_1, kEx_1, kVar_1, kVar_2, kMov_1, kMov_2, kfz_1, kfz_2, kc_1, k1_1, k2b_1, k2a_1, kt_1, kn_1, kAnd_1, kAnd_2, kOr_1, kOr_2, kmA_1, kmA_2, kmO_1, kmO_2, kmI_1, kmI_2, kh4_1, kh3_1, kh3_2, kh2_1, kh1_1, kcb_1, kca_1, kL5_1, kL4_1, kL3_1, kL2_1, kL1_1, kl2_1, kl1_1, kl3_1, kr_1, krs_1, krs_2, kput_1, kput_2, kpk_1, klst_1, klst_2, kbor_1, ka2_1, ka1_1, ktup_1, kls_1, kB_1, kx3_1, kx2_1, kx1_1, kx4_1, kis2_1, kis_1, kp_1, ks3_1, ks2_1, ks1_1, kF_1, kF2_1, kF2_2, kF2_3, kF2_4, kF1_1, kW2_1, kW2_2, kW2_3, kW2_4, kW_1, kW_2, kg_1, ksa_1, ki_1, ki_2, ki_3, kap2_1, kap_1, ksx4_1, ksx3_1, ksx2_1, ksx1_1, kat_1, ko_1, kfin_1, kfin_2, klc2_1, klc_1, kC4_1, kC3_1, kC2_1, kC2_2, kC1_1, ksum_1, kst2_1, kst_1, kst_2, kRev_1, kRev_2, krg_1, krg2_1, krg1_1, kav_1, kav_2, krc_1, runFn_a, out_n, out_s, ini_a, iniL_n, iniL_0, iniL_e, sSeq_a, sSet_a, sPar_a, dNil_a, dCons_a, setAll_n, setAll_c, sIf_a, sRet_a, sExpr_a, sNext_a, sBreak_a, sCont_a, mC_a, mVar_a, mMove_a, fz_a, m1_a, m2_a, tst_a, tNot_a, tAnd_a, tOr_a, tYes_a, mAnd_a, mOr_a, mIf_a, mChain_a, mCall_a, mCallL_a, lNil_a, lCons_a, lLend_a, res_e, res_v, res_s, slot_0, slot_s, put_a, peek_a, lstAt_a, get_v, get_o, get_b, aNil_a, aCons_a, aStar_a, mTup_a, mLst_a, mB_a, mIxS_a, mLenS_a, mIsi_a, pNone_a, pSome_a, mSl_a, sFor_a, forL_n, forL_c, whN_s, gN_a, gT_a, gsC_a, gsN_a, sAsg_a, iSeq_a, sApp_a, sSetIx_a, mLc_a, lcL_n, lcL_c, wipe_n, wipe_c, rest_n, rest_c, allVal_n, allVal_c, mRev_a, mLRg_a, mLRg2_a, lt_int, le_int, gt_int, ge_int, sub_int, add_int, mod_int, fdiv_int, pow_int', mul_ok, eq_int, ne_int, neg_int, not_bl, abs_int, int_int, int_bl, max_2, min_2, max_3, min_3, len_l, len_t, len_s, lenB_l, lenB_t, lenB_s, ix_s, ixV_a, tuple_l, tuple_t, list_l, list_t, sum_l, all_l, any_l, isi_int, isi_bool, isi_tup, ix_fr0, ix_fr1, mul_l, cat_l, cat_t, sl_l, sl_t, sl_s, line, Bool.not_true, Bool.not_false, decide_true, decide_false, Bool.and_self, Bool.and_true, Bool.true_and, List.length_cons, List.length_nil, List.replicate, List.append_nil, List.cons_append, List.nil_append, Nat.reduceAdd, Nat.reduceSub, List.getElem?_cons_succ, List.getElem?_cons_zero, Nat.sub_self, List.set_cons_succ, List.set_cons_zero, ↓reduceIte, Nat.reduceLeDiff, Nat.reduceLT, w]
theorem greatest_top_ok {f n l : Nat} {s : Rat} (h0 : 0 < l) (hl : l ≤ 1000) (hn : n ≤ f) (hf : f < 700) (hs : Fs 100 s) (h1 : s < 1) : ∃ m, f_greatest_top [.int f, .int n, fr s, .int l] = ok (.int ((l : Int) - (m : Nat))) ∧ Least f (f - n) s l m := by
  obtain ⟨m, e, hL⟩ := least_top_ok (f := f) (n := f - n) h0 hl (by omega) hf hs h1
  refine ⟨m, ?_, hL⟩
  rw [show ((f - n : Nat) : Int) = (f : Int) - n by omega] at e
  simp only [f_greatest_top, b_greatest_top, kSeq_1, kSeq_2, kSeq_3, kSeq_4, kSet_1, kNx_1, kPar_1, kd2_1, kd1_1, kIf_1, kIf_2, kRt_1, kEx_1, kVar_1, kVar_2, kMov_1, kMov_2, kfz_1, kfz_2, kc_1, k1_1, k2b_1, k2a_1, kt_1, kn_1, kAnd_1, kAnd_2, kOr_1, kOr_2, kmA_1, kmA_2, kmO_1, kmO_2, kmI_1, kmI_2, kh4_1, kh3_1, kh3_2, kh2_1, kh1_1, kcb_1, kca_1, kL5_1, kL4_1, kL3_1, kL2_1, kL1_1, kl2_1, kl1_1, kl3_1, kr_1, krs_1, krs_2, kput_1, kput_2, kpk_1, klst_1, klst_2, kbor_1, ka2_1, ka1_1, ktup_1, kls_1, kB_1, kx3_1, kx2_1, kx1_1, kx4_1, kis2_1, kis_1, kp_1, ks3_1, ks2_1, ks1_1, kF_1, kF2_1, kF2_2, kF2_3, kF2_4, kF1_1, kW2_1, kW2_2, kW2_3, kW2_4, kW_1, kW_2, kg_1, ksa_1, ki_1, ki_2, ki_3, kap2_1, kap_1, ksx4_1, ksx3_1, ksx2_1, ksx1_1, kat_1, ko_1, kfin_1, kfin_2, klc2_1, klc_1, kC4_1, kC3_1, kC2_1, kC2_2, kC1_1, ksum_1, kst2_1, kst_1, kst_2, kRev_1, kRev_2, krg_1, krg2_1, krg1_1, kav_1, kav_2, krc_1, runFn_a, out_n, out_s, ini_a, iniL_n, iniL_0, iniL_e, sSeq_a, sSet_a, sPar_a, dNil_a, dCons_a, setAll_n, setAll_c, sIf_a, sRet_a, sExpr_a, sNext_a, sBreak_a, sCont_a, mC_a, mVar_a, mMove_a, fz_a, m1_a, m2_a, tst_a, tNot_a, tAnd_a, tOr_a, tYes_a, mAnd_a, mOr_a, mIf_a, mChain_a, mCall_a, mCallL_a, lNil_a, lCons_a, lLend_a, res_e, res_v, res_s, slot_0, slot_s, put_a, peek_a, lstAt_a, get_v, get_o, get_b, aNil_a, aCons_a, aStar_a, mTup_a, mLst_a, mB_a, mIxS_a, mLenS_a, mIsi_a, pNone_a, pSome_a, mSl_a, sFor_a, forL_n, forL_c, whN_s, gN_a, gT_a, gsC_a, gsN_a, sAsg_a, iSeq_a, sApp_a, sSetIx_a, mLc_a, lcL_n, lcL_c, wipe_n, wipe_c, rest_n, rest_c, allVal_n, allVal_c, mRev_a, mLRg_a, mLRg2_a, lt_int, le_int, gt_int, ge_int, sub_int, add_int, mod_int, fdiv_int, pow_int', mul_ok, eq_int, ne_int, neg_int, not_bl, abs_int, int_int, int_bl, max_2, min_2, max_3, min_3, len_l, len_t, len_s, lenB_l, lenB_t, lenB_s, ix_s, ixV_a, tuple_l, tuple_t, list_l, list_t, sum_l, all_l, any_l, isi_int, isi_bool, isi_tup, ix_fr0, ix_fr1, mul_l, cat_l, cat_t, sl_l, sl_t, sl_s, line, Bool.not_true, Bool.not_false, decide_true, decide_false, Bool.and_self, Bool.and_true, Bool.true_and, List.length_cons, List.length_nil, List.replicate, List.append_nil, List.cons_append, List.nil_append, Nat.reduceAdd, Nat.reduceSub, List.getElem?_cons_succ, List.getElem?_cons_zero, Nat.sub_self, List.set_cons_succ, List.set_cons_zero, ↓reduceIte, Nat.reduceLeDiff, Nat.reduceLT, e]
end
end Wk61

set_option Elab.async false
set_option linter.all false
set_option maxRecDepth 100000
namespace Wk61
open PySem Cb Mk61
noncomputable section
theorem nat_ne {l : Nat} (h : 0 < l) : (l : Rat) ≠ 0 := by have := Rat.natCast_pos.mpr h; grind
theorem ratio_nat (t : Nat) {l : Nat} (h0 : 0 < l) (hl : l ≤ 100000) : c_ratio_of [.int t, .int l] = ok (fr ((t : Rat) / (l : Rat))) := by
  have := ratio_of_ok (a := (t : Int)) (b := (l : Int)) (by omega) (sz_nat (n := l) 20 (by omega))
  rw [Rat.intCast_natCast, Rat.intCast_natCast] at this
  exact this
theorem least_share_ok {f n l : Nat} {s : Rat} (h0 : 0 < l) (hl : l ≤ 1000) (hn : n ≤ f) (hf1 : 1 ≤ f) (hf : f ≤ 400) (hs : Fs 100 s) (hs0 : 0 ≤ s) (h1 : s < 1) :
    ∃ m : Nat, f_least_unseen_share [.int f, .int n, fr s, .int l] = ok (fr ((m : Rat) / (l : Rat))) ∧ Least f n s l m := by
  obtain ⟨m, e, hL⟩ := least_top_ok (f := f) (n := n) h0 hl hn (by omega) hs h1
  refine ⟨m, ?_, hL⟩
  simp only [f_least_unseen_share, b_least_unseen_share, kSeq_1, kSeq_2, kSeq_3, kSeq_4, kSet_1, kNx_1, kPar_1, kd2_1, kd1_1, kIf_1, kIf_2, kRt_1, kEx_1, kVar_1, kVar_2, kMov_1, kMov_2, kfz_1, kfz_2, kc_1, k1_1, k2b_1, k2a_1, kt_1, kn_1, kAnd_1, kAnd_2, kOr_1, kOr_2, kmA_1, kmA_2, kmO_1, kmO_2, kmI_1, kmI_2, kh4_1, kh3_1, kh3_2, kh2_1, kh1_1, kcb_1, kca_1, kL5_1, kL4_1, kL3_1, kL2_1, kL1_1, kl2_1, kl1_1, kl3_1, kr_1, krs_1, krs_2, kput_1, kput_2, kpk_1, klst_1, klst_2, kbor_1, ka2_1, ka1_1, ktup_1, kls_1, kB_1, kx3_1, kx2_1, kx1_1, kx4_1, kis2_1, kis_1, kp_1, ks3_1, ks2_1, ks1_1, kF_1, kF2_1, kF2_2, kF2_3, kF2_4, kF1_1, kW2_1, kW2_2, kW2_3, kW2_4, kW_1, kW_2, kg_1, ksa_1, ki_1, ki_2, ki_3, kap2_1, kap_1, ksx4_1, ksx3_1, ksx2_1, ksx1_1, kat_1, ko_1, kfin_1, kfin_2, klc2_1, klc_1, kC4_1, kC3_1, kC2_1, kC2_2, kC1_1, ksum_1, kst2_1, kst_1, kst_2, kRev_1, kRev_2, krg_1, krg2_1, krg1_1, kav_1, kav_2, krc_1, runFn_a, out_n, out_s, ini_a, iniL_n, iniL_0, iniL_e, sSeq_a, sSet_a, sPar_a, dNil_a, dCons_a, setAll_n, setAll_c, sIf_a, sRet_a, sExpr_a, sNext_a, sBreak_a, sCont_a, mC_a, mVar_a, mMove_a, fz_a, m1_a, m2_a, tst_a, tNot_a, tAnd_a, tOr_a, tYes_a, mAnd_a, mOr_a, mIf_a, mChain_a, mCall_a, mCallL_a, lNil_a, lCons_a, lLend_a, res_e, res_v, res_s, slot_0, slot_s, put_a, peek_a, lstAt_a, get_v, get_o, get_b, aNil_a, aCons_a, aStar_a, mTup_a, mLst_a, mB_a, mIxS_a, mLenS_a, mIsi_a, pNone_a, pSome_a, mSl_a, sFor_a, forL_n, forL_c, whN_s, gN_a, gT_a, gsC_a, gsN_a, sAsg_a, iSeq_a, sApp_a, sSetIx_a, mLc_a, lcL_n, lcL_c, wipe_n, wipe_c, rest_n, rest_c, allVal_n, allVal_c, mRev_a, mLRg_a, mLRg2_a, lt_int, le_int, gt_int, ge_int, sub_int, add_int, mod_int, fdiv_int, pow_int', mul_ok, eq_int, ne_int, neg_int, not_bl, abs_int, int_int, int_bl, max_2, min_2, max_3, min_3, len_l, len_t, len_s, lenB_l, lenB_t, lenB_s, ix_s, ixV_a, tuple_l, tuple_t, list_l, list_t, sum_l, all_l, any_l, isi_int, isi_bool, isi_tup, ix_fr0, ix_fr1, mul_l, cat_l, cat_t, sl_l, sl_t, sl_s, line, Nat.one_ne_zero, Nat.reduceEqDiff, reduceCtorEq, Bool.not_true, Bool.not_false, decide_true, decide_false, Bool.and_self, Bool.and_true, Bool.true_and, List.length_cons, List.length_nil, List.replicate, List.append_nil, List.cons_append, List.nil_append, Nat.reduceAdd, Nat.reduceSub, List.getElem?_cons_succ, List.getElem?_cons_zero, Nat.sub_self, List.set_cons_succ, List.set_cons_zero, ↓reduceIte, Nat.reduceLeDiff, Nat.reduceLT, check_fresh_ok hf1 hf hn, check_part_ok (hs.fz (by decide)) hs0 h1, check_low_ok h0 hl, e, e_ratio_of, ratio_nat m h0 (by omega : l ≤ 100000)]
theorem greatest_share_ok {f n l : Nat} {s : Rat} (h0 : 0 < l) (hl : l ≤ 1000) (hn : n ≤ f) (hf1 : 1 ≤ f) (hf : f ≤ 400) (hs : Fs 100 s) (hs0 : 0 ≤ s) (h1 : s < 1) :
    ∃ m : Nat, f_greatest_unseen_share [.int f, .int n, fr s, .int l] = ok (fr (((l - m : Nat) : Rat) / (l : Rat))) ∧ Least f (f - n) s l m := by
  obtain ⟨m, e, hL⟩ := greatest_top_ok (f := f) (n := n) h0 hl hn (by omega) hs h1
  refine ⟨m, ?_, hL⟩
  have hm := hL.le
  rw [show (l : Int) - (m : Int) = ((l - m : Nat) : Int) by omega] at e
  simp only [f_greatest_unseen_share, b_greatest_unseen_share, kSeq_1, kSeq_2, kSeq_3, kSeq_4, kSet_1, kNx_1, kPar_1, kd2_1, kd1_1, kIf_1, kIf_2, kRt_1, kEx_1, kVar_1, kVar_2, kMov_1, kMov_2, kfz_1, kfz_2, kc_1, k1_1, k2b_1, k2a_1, kt_1, kn_1, kAnd_1, kAnd_2, kOr_1, kOr_2, kmA_1, kmA_2, kmO_1, kmO_2, kmI_1, kmI_2, kh4_1, kh3_1, kh3_2, kh2_1, kh1_1, kcb_1, kca_1, kL5_1, kL4_1, kL3_1, kL2_1, kL1_1, kl2_1, kl1_1, kl3_1, kr_1, krs_1, krs_2, kput_1, kput_2, kpk_1, klst_1, klst_2, kbor_1, ka2_1, ka1_1, ktup_1, kls_1, kB_1, kx3_1, kx2_1, kx1_1, kx4_1, kis2_1, kis_1, kp_1, ks3_1, ks2_1, ks1_1, kF_1, kF2_1, kF2_2, kF2_3, kF2_4, kF1_1, kW2_1, kW2_2, kW2_3, kW2_4, kW_1, kW_2, kg_1, ksa_1, ki_1, ki_2, ki_3, kap2_1, kap_1, ksx4_1, ksx3_1, ksx2_1, ksx1_1, kat_1, ko_1, kfin_1, kfin_2, klc2_1, klc_1, kC4_1, kC3_1, kC2_1, kC2_2, kC1_1, ksum_1, kst2_1, kst_1, kst_2, kRev_1, kRev_2, krg_1, krg2_1, krg1_1, kav_1, kav_2, krc_1, runFn_a, out_n, out_s, ini_a, iniL_n, iniL_0, iniL_e, sSeq_a, sSet_a, sPar_a, dNil_a, dCons_a, setAll_n, setAll_c, sIf_a, sRet_a, sExpr_a, sNext_a, sBreak_a, sCont_a, mC_a, mVar_a, mMove_a, fz_a, m1_a, m2_a, tst_a, tNot_a, tAnd_a, tOr_a, tYes_a, mAnd_a, mOr_a, mIf_a, mChain_a, mCall_a, mCallL_a, lNil_a, lCons_a, lLend_a, res_e, res_v, res_s, slot_0, slot_s, put_a, peek_a, lstAt_a, get_v, get_o, get_b, aNil_a, aCons_a, aStar_a, mTup_a, mLst_a, mB_a, mIxS_a, mLenS_a, mIsi_a, pNone_a, pSome_a, mSl_a, sFor_a, forL_n, forL_c, whN_s, gN_a, gT_a, gsC_a, gsN_a, sAsg_a, iSeq_a, sApp_a, sSetIx_a, mLc_a, lcL_n, lcL_c, wipe_n, wipe_c, rest_n, rest_c, allVal_n, allVal_c, mRev_a, mLRg_a, mLRg2_a, lt_int, le_int, gt_int, ge_int, sub_int, add_int, mod_int, fdiv_int, pow_int', mul_ok, eq_int, ne_int, neg_int, not_bl, abs_int, int_int, int_bl, max_2, min_2, max_3, min_3, len_l, len_t, len_s, lenB_l, lenB_t, lenB_s, ix_s, ixV_a, tuple_l, tuple_t, list_l, list_t, sum_l, all_l, any_l, isi_int, isi_bool, isi_tup, ix_fr0, ix_fr1, mul_l, cat_l, cat_t, sl_l, sl_t, sl_s, line, Nat.one_ne_zero, Nat.reduceEqDiff, reduceCtorEq, Bool.not_true, Bool.not_false, decide_true, decide_false, Bool.and_self, Bool.and_true, Bool.true_and, List.length_cons, List.length_nil, List.replicate, List.append_nil, List.cons_append, List.nil_append, Nat.reduceAdd, Nat.reduceSub, List.getElem?_cons_succ, List.getElem?_cons_zero, Nat.sub_self, List.set_cons_succ, List.set_cons_zero, ↓reduceIte, Nat.reduceLeDiff, Nat.reduceLT, check_fresh_ok hf1 hf hn, check_part_ok (hs.fz (by decide)) hs0 h1, check_low_ok h0 hl, e, e_ratio_of, ratio_nat (l - m) h0 (by omega : l ≤ 100000)]
theorem half_ok {s : Rat} (hs : Fs 98 s) : c_ratio_of [.int s.num, .int (2 * s.den)] = ok (fr (s * (1 / 2))) ∧ Fs 100 (s * (1 / 2)) := by
  have hd : (2 * (s.den : Int)) ≠ 0 := by have := s.den_pos; omega
  have sd : Sz 100 (2 * (s.den : Int)) := (Sz.mul (n := 2) (by decide) hs.2)
  have e : ((s.num : Int) : Rat) / ((2 * (s.den : Int) : Int) : Rat) = s * (1 / 2) := by
    have := rat_mul s (1 / 2)
    have e1 : ((1 : Rat) / 2).num = 1 := by decide +kernel
    have e2 : ((1 : Rat) / 2).den = 2 := by decide +kernel
    rw [e1, e2, Int.mul_one, Int.mul_comm] at this
    exact this
  have h := ratio_of_ok (a := s.num) hd sd
  have g := fs_ratio (hs.1.mono (m := 100) (by decide)) sd hd
  rw [e] at h g
  exact ⟨h, g⟩
theorem stretch_ok {f n l : Nat} {s : Rat} (h0 : 0 < l) (hl : l ≤ 1000) (hn : n ≤ f) (hf1 : 1 ≤ f) (hf : f ≤ 400) (hs : Fs 98 s) (hs0 : 0 ≤ s) (h1 : s < 1) :
    ∃ m m' : Nat, f_unseen_stretch [.int f, .int n, fr s, .int l] = ok (.tup [fr (((m - 1 : Nat) : Rat) / (l : Rat)), fr (((min l (l - m' + 1) : Nat) : Rat) / (l : Rat))]) ∧ Least f n (s * (1 / 2)) l m ∧ Least f (f - n) (s * (1 / 2)) l m' := by
  obtain ⟨hh, hg⟩ := half_ok hs
  have h2 : s * (1 / 2) < 1 := by grind
  obtain ⟨m, e, hL⟩ := least_top_ok (f := f) (n := n) h0 hl hn (by omega) hg h2
  obtain ⟨m', e', hL'⟩ := greatest_top_ok (f := f) (n := n) h0 hl hn (by omega) hg h2
  refine ⟨m, m', ?_, hL, hL'⟩
  have hm := hL'.le
  have e1 : max (0 : Int) ((m : Int) - 1) = ((m - 1 : Nat) : Int) := by omega
  have e2 : min (l : Int) ((l : Int) - (m' : Int) + 1) = ((min l (l - m' + 1) : Nat) : Int) := by omega
  have mo : MulOk 2 (s.den : Int) := Sz.mulOk (n := 2) (by decide) hs.2
  have hsm := hs.mono (m := 100) (by decide)
  simp only [f_unseen_stretch, b_unseen_stretch, kSeq_1, kSeq_2, kSeq_3, kSeq_4, kSet_1, kNx_1, kPar_1, kd2_1, kd1_1, kIf_1, kIf_2, kRt_1, kEx_1, kVar_1, kVar_2, kMov_1, kMov_2, kfz_1, kfz_2, kc_1, k1_1, k2b_1, k2a_1, kt_1, kn_1, kAnd_1, kAnd_2, kOr_1, kOr_2, kmA_1, kmA_2, kmO_1, kmO_2, kmI_1, kmI_2, kh4_1, kh3_1, kh3_2, kh2_1, kh1_1, kcb_1, kca_1, kL5_1, kL4_1, kL3_1, kL2_1, kL1_1, kl2_1, kl1_1, kl3_1, kr_1, krs_1, krs_2, kput_1, kput_2, kpk_1, klst_1, klst_2, kbor_1, ka2_1, ka1_1, ktup_1, kls_1, kB_1, kx3_1, kx2_1, kx1_1, kx4_1, kis2_1, kis_1, kp_1, ks3_1, ks2_1, ks1_1, kF_1, kF2_1, kF2_2, kF2_3, kF2_4, kF1_1, kW2_1, kW2_2, kW2_3, kW2_4, kW_1, kW_2, kg_1, ksa_1, ki_1, ki_2, ki_3, kap2_1, kap_1, ksx4_1, ksx3_1, ksx2_1, ksx1_1, kat_1, ko_1, kfin_1, kfin_2, klc2_1, klc_1, kC4_1, kC3_1, kC2_1, kC2_2, kC1_1, ksum_1, kst2_1, kst_1, kst_2, kRev_1, kRev_2, krg_1, krg2_1, krg1_1, kav_1, kav_2, krc_1, runFn_a, out_n, out_s, ini_a, iniL_n, iniL_0, iniL_e, sSeq_a, sSet_a, sPar_a, dNil_a, dCons_a, setAll_n, setAll_c, sIf_a, sRet_a, sExpr_a, sNext_a, sBreak_a, sCont_a, mC_a, mVar_a, mMove_a, fz_a, m1_a, m2_a, tst_a, tNot_a, tAnd_a, tOr_a, tYes_a, mAnd_a, mOr_a, mIf_a, mChain_a, mCall_a, mCallL_a, lNil_a, lCons_a, lLend_a, res_e, res_v, res_s, slot_0, slot_s, put_a, peek_a, lstAt_a, get_v, get_o, get_b, aNil_a, aCons_a, aStar_a, mTup_a, mLst_a, mB_a, mIxS_a, mLenS_a, mIsi_a, pNone_a, pSome_a, mSl_a, sFor_a, forL_n, forL_c, whN_s, gN_a, gT_a, gsC_a, gsN_a, sAsg_a, iSeq_a, sApp_a, sSetIx_a, mLc_a, lcL_n, lcL_c, wipe_n, wipe_c, rest_n, rest_c, allVal_n, allVal_c, mRev_a, mLRg_a, mLRg2_a, lt_int, le_int, gt_int, ge_int, sub_int, add_int, mod_int, fdiv_int, pow_int', mul_ok, eq_int, ne_int, neg_int, not_bl, abs_int, int_int, int_bl, max_2, min_2, max_3, min_3, len_l, len_t, len_s, lenB_l, lenB_t, lenB_s, ix_s, ixV_a, tuple_l, tuple_t, list_l, list_t, sum_l, all_l, any_l, isi_int, isi_bool, isi_tup, ix_fr0, ix_fr1, mul_l, cat_l, cat_t, sl_l, sl_t, sl_s, line, Nat.one_ne_zero, Nat.reduceEqDiff, reduceCtorEq, Bool.not_true, Bool.not_false, decide_true, decide_false, Bool.and_self, Bool.and_true, Bool.true_and, List.length_cons, List.length_nil, List.replicate, List.append_nil, List.cons_append, List.nil_append, Nat.reduceAdd, Nat.reduceSub, List.getElem?_cons_succ, List.getElem?_cons_zero, Nat.sub_self, List.set_cons_succ, List.set_cons_zero, ↓reduceIte, Nat.reduceLeDiff, Nat.reduceLT, check_fresh_ok hf1 hf hn, check_part_ok (hsm.fz (by decide)) hs0 h1, check_low_ok h0 hl, e, e', e1, e2, mo, hh, e_ratio_of, ratio_nat (m - 1) h0 (by omega : l ≤ 100000), ratio_nat (min l (l - m' + 1)) h0 (by omega : l ≤ 100000)]
theorem q_num (q : Rat) : ((q.num : Int) : Rat) / ((q.den : Int) : Rat) = q := by
  rw [← Rat.divInt_eq_div, Rat.divInt_ofNat, Rat.mkRat_self]
theorem q_den {t l : Nat} (h0 : 0 < l) : ((t : Rat) / (l : Rat)).den ≤ l := by
  rw [← Rat.intCast_natCast t, ← Rat.intCast_natCast l, ← Rat.divInt_eq_div, Rat.den_divInt, if_neg (by omega)]
  exact Nat.le_trans (Nat.div_le_self _ _) (by simp)
theorem new_chance_ok {t l f n : Nat} (ht : t ≤ l) (h0 : 0 < l) (hl : l ≤ 1000) (hn : n ≤ f) (hf1 : 1 ≤ f) (hf : f ≤ 400) : f_new_chance [fr ((t : Rat) / (l : Rat)), .int f, .int n] = ok (fr (P f n ((t : Rat) / (l : Rat)))) := by
  have hr := q_rng ht h0
  have hd := q_den (t := t) h0
  generalize (t : Rat) / (l : Rat) = q at *
  have n0 : 0 ≤ q.num := Rat.num_nonneg.mpr hr.1
  have n1 : q.num ≤ q.den := by
    have := (Rat.le_iff _ _).mp hr.2
    simp at this; omega
  have dp := q.den_pos
  have fz : Fz q := by unfold Fz; omega
  have h := new_from_ok (t := q.num.toNat) (l := q.den) (f := f) (n := n) (by omega) dp (by omega) hn (by omega)
  have e : ((q.num.toNat : Nat) : Rat) / (q.den : Rat) = q := by
    have := q_num q
    rw [← Rat.intCast_natCast q.num.toNat, ← Rat.intCast_natCast q.den, show ((q.num.toNat : Nat) : Int) = q.num by omega]
    exact this
  rw [e, show ((q.num.toNat : Nat) : Int) = q.num by omega] at h
  simp only [f_new_chance, b_new_chance, kSeq_1, kSeq_2, kSeq_3, kSeq_4, kSet_1, kNx_1, kPar_1, kd2_1, kd1_1, kIf_1, kIf_2, kRt_1, kEx_1, kVar_1, kVar_2, kMov_1, kMov_2, kfz_1, kfz_2, kc_1, k1_1, k2b_1, k2a_1, kt_1, kn_1, kAnd_1, kAnd_2, kOr_1, kOr_2, kmA_1, kmA_2, kmO_1, kmO_2, kmI_1, kmI_2, kh4_1, kh3_1, kh3_2, kh2_1, kh1_1, kcb_1, kca_1, kL5_1, kL4_1, kL3_1, kL2_1, kL1_1, kl2_1, kl1_1, kl3_1, kr_1, krs_1, krs_2, kput_1, kput_2, kpk_1, klst_1, klst_2, kbor_1, ka2_1, ka1_1, ktup_1, kls_1, kB_1, kx3_1, kx2_1, kx1_1, kx4_1, kis2_1, kis_1, kp_1, ks3_1, ks2_1, ks1_1, kF_1, kF2_1, kF2_2, kF2_3, kF2_4, kF1_1, kW2_1, kW2_2, kW2_3, kW2_4, kW_1, kW_2, kg_1, ksa_1, ki_1, ki_2, ki_3, kap2_1, kap_1, ksx4_1, ksx3_1, ksx2_1, ksx1_1, kat_1, ko_1, kfin_1, kfin_2, klc2_1, klc_1, kC4_1, kC3_1, kC2_1, kC2_2, kC1_1, ksum_1, kst2_1, kst_1, kst_2, kRev_1, kRev_2, krg_1, krg2_1, krg1_1, kav_1, kav_2, krc_1, runFn_a, out_n, out_s, ini_a, iniL_n, iniL_0, iniL_e, sSeq_a, sSet_a, sPar_a, dNil_a, dCons_a, setAll_n, setAll_c, sIf_a, sRet_a, sExpr_a, sNext_a, sBreak_a, sCont_a, mC_a, mVar_a, mMove_a, fz_a, m1_a, m2_a, tst_a, tNot_a, tAnd_a, tOr_a, tYes_a, mAnd_a, mOr_a, mIf_a, mChain_a, mCall_a, mCallL_a, lNil_a, lCons_a, lLend_a, res_e, res_v, res_s, slot_0, slot_s, put_a, peek_a, lstAt_a, get_v, get_o, get_b, aNil_a, aCons_a, aStar_a, mTup_a, mLst_a, mB_a, mIxS_a, mLenS_a, mIsi_a, pNone_a, pSome_a, mSl_a, sFor_a, forL_n, forL_c, whN_s, gN_a, gT_a, gsC_a, gsN_a, sAsg_a, iSeq_a, sApp_a, sSetIx_a, mLc_a, lcL_n, lcL_c, wipe_n, wipe_c, rest_n, rest_c, allVal_n, allVal_c, mRev_a, mLRg_a, mLRg2_a, lt_int, le_int, gt_int, ge_int, sub_int, add_int, mod_int, fdiv_int, pow_int', mul_ok, eq_int, ne_int, neg_int, not_bl, abs_int, int_int, int_bl, max_2, min_2, max_3, min_3, len_l, len_t, len_s, lenB_l, lenB_t, lenB_s, ix_s, ixV_a, tuple_l, tuple_t, list_l, list_t, sum_l, all_l, any_l, isi_int, isi_bool, isi_tup, ix_fr0, ix_fr1, mul_l, cat_l, cat_t, sl_l, sl_t, sl_s, line, Nat.one_ne_zero, Nat.reduceEqDiff, reduceCtorEq, Bool.not_true, Bool.not_false, decide_true, decide_false, Bool.and_self, Bool.and_true, Bool.true_and, List.length_cons, List.length_nil, List.replicate, List.append_nil, List.cons_append, List.nil_append, Nat.reduceAdd, Nat.reduceSub, List.getElem?_cons_succ, List.getElem?_cons_zero, Nat.sub_self, List.set_cons_succ, List.set_cons_zero, ↓reduceIte, Nat.reduceLeDiff, Nat.reduceLT, check_fresh_ok hf1 hf hn, e_is_share, is_share_ok fz n0 n1, h]
theorem chances_ok {p : D} {N : Nat} (hp : Pot N p) (hN : N < 1000) {f l : Nat} (hf1 : 1 ≤ f) (hf : f ≤ 40) (h0 : 0 < l) (hl : l ≤ 1000) :
    ∃ p', f__law_are_chances_right [p, .int f, .int l] = some (.val (.bl true), p') ∧ Pot (N + 2) p' := by
  obtain ⟨d1, p1, e1, hp1, a1, a2⟩ := law_take_ok (F := 215285) (G := 7885) (H := 6845) (u := (f : Int)) (m := 10) hp (by omega) (sz_nat 10 (by omega)) (by decide) (by omega)
  obtain ⟨d2, p2, e2, hp2, b1, b2⟩ := law_take_ok (F := 215285) (G := 7885) (H := 6845) (u := (l : Int) + 1) (m := 10) hp1 (by omega) (by unfold Sz; omega) (by decide) (by omega)
  refine ⟨p2, ?_, hp2⟩
  obtain ⟨n, rfl⟩ : ∃ n : Nat, d1 = n := ⟨d1.toNat, by omega⟩
  obtain ⟨t, rfl⟩ : ∃ n : Nat, d2 = n := ⟨d2.toNat, by omega⟩
  have ht : t ≤ l := by omega
  have r1 := law_ratio_ok (a := (t : Int)) (b := (l : Int)) (by omega) (sz_nat (n := l) 20 (by omega))
  rw [Rat.intCast_natCast, Rat.intCast_natCast] at r1
  have hq : Fs 20 ((t : Rat) / (l : Rat)) := by
    have := fs_ratio (a := (t : Int)) (b := (l : Int)) (sz_nat (n := t) 20 (by omega)) (sz_nat (n := l) 20 (by omega)) (by omega)
    rwa [Rat.intCast_natCast, Rat.intCast_natCast] at this
  have r2 := law_rest_ok hq
  have hq2 : 1 - (t : Rat) / (l : Rat) = ((l - t : Nat) : Rat) / (l : Rat) := by
    have := nat_ne h0
    have e : ((l - t : Nat) : Rat) = (l : Rat) - (t : Rat) := by
      have : ((l - t : Nat) : Rat) + (t : Rat) = (l : Rat) := by rw [← Rat.natCast_add, Nat.sub_add_cancel ht]
      grind
    rw [e]; grind
  rw [hq2] at r2
  have c1 := new_chance_ok (f := f) (n := n + 1) ht h0 hl (by omega) hf1 (by omega)
  have c2 := new_chance_ok (t := l - t) (f := f) (n := f - (n + 1) + 1) (by omega) h0 hl (by omega) hf1 (by omega)
  have c3 := new_chance_ok (f := f) (n := 0) ht h0 hl (by omega) hf1 (by omega)
  have c4 := new_chance_ok (t := 1) (l := 1) (f := f) (n := f) (by omega) (by omega) (by omega) (by omega) hf1 (by omega)
  have c5 := new_chance_ok (t := 0) (l := 1) (f := f) (n := 1) (by omega) (by omega) (by omega) (by omega) hf1 (by omega)
  have c6 := new_chance_ok (f := 1) (n := 1) ht h0 hl (by omega) (by omega) (by omega)
  have c7 := new_chance_ok (f := f) (n := n) ht h0 hl (by omega) hf1 (by omega)
  have i1 : ((1 : Nat) : Rat) / ((1 : Nat) : Rat) = 1 := by decide +kernel
  have i0 : ((0 : Nat) : Rat) / ((1 : Nat) : Rat) = 0 := by decide +kernel
  rw [P_0] at c3
  rw [i1, P_one f f (by omega)] at c4
  rw [i0, P_zero f 0] at c5
  rw [P_11] at c6
  have pl := law_plus_ok (P_fs (f := f) (n := n + 1) ht h0 hl) (P_fs (t := l - t) (f := f) (n := f - (n + 1) + 1) (by omega) h0 hl) (by omega)
  have cp := P_comp ((t : Rat) / (l : Rat)) f (n + 1) (f - (n + 1) + 1) (by omega)
  rw [hq2] at cp
  rw [cp] at pl
  have bl := law_below_ok (P_fs (f := f) (n := n) ht h0 hl) (P_fs (f := f) (n := n + 1) ht h0 hl) (by omega)
  have qr := q_rng ht h0
  have an := (P_anti qr.1 qr.2 f n).2
  have bl2 : decide (P f n ((t : Rat) / (l : Rat)) < P f (n + 1) ((t : Rat) / (l : Rat))) = false := by
    rw [decide_eq_false_iff_not]; grind
  rw [bl2] at bl
  have k1 : ((n : Int) + 1) = ((n + 1 : Nat) : Int) := by omega
  have k2 : ((f : Int) - ((n + 1 : Nat) : Int) + 1) = ((f - (n + 1) + 1 : Nat) : Int) := by omega
  have k3 : ((n + 1 : Nat) : Int) - 1 = (n : Int) := by omega
  have k4 : ((1 : Nat) : Int) = 1 := by decide
  have k5 : ((0 : Nat) : Int) = 0 := by decide
  rw [k4] at c5 c6
  rw [k5] at c3
  simp only [f__law_are_chances_right, b__law_are_chances_right, kSeq_1, kSeq_2, kSeq_3, kSeq_4, kSet_1, kNx_1, kPar_1, kd2_1, kd1_1, kIf_1, kIf_2, kRt_1, kEx_1, kVar_1, kVar_2, kMov_1, kMov_2, kfz_1, kfz_2, kc_1, k1_1, k2b_1, k2a_1, kt_1, kn_1, kAnd_1, kAnd_2, kOr_1, kOr_2, kmA_1, kmA_2, kmO_1, kmO_2, kmI_1, kmI_2, kh4_1, kh3_1, kh3_2, kh2_1, kh1_1, kcb_1, kca_1, kL5_1, kL4_1, kL3_1, kL2_1, kL1_1, kl2_1, kl1_1, kl3_1, kr_1, krs_1, krs_2, kput_1, kput_2, kpk_1, klst_1, klst_2, kbor_1, ka2_1, ka1_1, ktup_1, kls_1, kB_1, kx3_1, kx2_1, kx1_1, kx4_1, kis2_1, kis_1, kp_1, ks3_1, ks2_1, ks1_1, kF_1, kF2_1, kF2_2, kF2_3, kF2_4, kF1_1, kW2_1, kW2_2, kW2_3, kW2_4, kW_1, kW_2, kg_1, ksa_1, ki_1, ki_2, ki_3, kap2_1, kap_1, ksx4_1, ksx3_1, ksx2_1, ksx1_1, kat_1, ko_1, kfin_1, kfin_2, klc2_1, klc_1, kC4_1, kC3_1, kC2_1, kC2_2, kC1_1, ksum_1, kst2_1, kst_1, kst_2, kRev_1, kRev_2, krg_1, krg2_1, krg1_1, kav_1, kav_2, krc_1, runFn_a, out_n, out_s, ini_a, iniL_n, iniL_0, iniL_e, sSeq_a, sSet_a, sPar_a, dNil_a, dCons_a, setAll_n, setAll_c, sIf_a, sRet_a, sExpr_a, sNext_a, sBreak_a, sCont_a, mC_a, mVar_a, mMove_a, fz_a, m1_a, m2_a, tst_a, tNot_a, tAnd_a, tOr_a, tYes_a, mAnd_a, mOr_a, mIf_a, mChain_a, mCall_a, mCallL_a, lNil_a, lCons_a, lLend_a, res_e, res_v, res_s, slot_0, slot_s, put_a, peek_a, lstAt_a, get_v, get_o, get_b, aNil_a, aCons_a, aStar_a, mTup_a, mLst_a, mB_a, mIxS_a, mLenS_a, mIsi_a, pNone_a, pSome_a, mSl_a, sFor_a, forL_n, forL_c, whN_s, gN_a, gT_a, gsC_a, gsN_a, sAsg_a, iSeq_a, sApp_a, sSetIx_a, mLc_a, lcL_n, lcL_c, wipe_n, wipe_c, rest_n, rest_c, allVal_n, allVal_c, mRev_a, mLRg_a, mLRg2_a, lt_int, le_int, gt_int, ge_int, sub_int, add_int, mod_int, fdiv_int, pow_int', mul_ok, eq_int, ne_int, neg_int, not_bl, abs_int, int_int, int_bl, max_2, min_2, max_3, min_3, len_l, len_t, len_s, lenB_l, lenB_t, lenB_s, ix_s, ixV_a, tuple_l, tuple_t, list_l, list_t, sum_l, all_l, any_l, isi_int, isi_bool, isi_tup, ix_fr0, ix_fr1, mul_l, cat_l, cat_t, sl_l, sl_t, sl_s, line, Nat.one_ne_zero, Nat.reduceEqDiff, reduceCtorEq, Bool.not_true, Bool.not_false, decide_true, decide_false, Bool.and_self, Bool.and_true, Bool.true_and, List.length_cons, List.length_nil, List.replicate, List.append_nil, List.cons_append, List.nil_append, Nat.reduceAdd, Nat.reduceSub, List.getElem?_cons_succ, List.getElem?_cons_zero, Nat.sub_self, List.set_cons_succ, List.set_cons_zero, ↓reduceIte, Nat.reduceLeDiff, Nat.reduceLT, e__law_take, e__law_ratio, e__law_rest, e__law_plus, e__law_below, e1, e2, k1, r1, r2, k2, k3, c1, c2, c3, c4, c5, c6, c7, pl, bl, fr_one, fr_zero, ne_fr, eq_fr, ne_eq, not_true_eq_false]
  trace_state
end
end Wk61

set_option Elab.async false
set_option linter.all false
set_option maxRecDepth 100000
namespace Wk61
open PySem Cb Mk61
noncomputable section
theorem rest_nat {t l : Nat} (ht : t ≤ l) (h0 : 0 < l) (hl : l ≤ 1000) : c__law_rest [fr ((t : Rat) / (l : Rat))] = ok (fr (((l - t : Nat) : Rat) / (l : Rat))) := by
  have hq : Fs 20 ((t : Rat) / (l : Rat)) := by
    have := fs_ratio (a := (t : Int)) (b := (l : Int)) (sz_nat (n := t) 20 (by omega)) (sz_nat (n := l) 20 (by omega)) (by omega)
    rwa [Rat.intCast_natCast, Rat.intCast_natCast] at this
  have r2 := law_rest_ok hq
  have hq2 : 1 - (t : Rat) / (l : Rat) = ((l - t : Nat) : Rat) / (l : Rat) := by
    have := nat_ne h0
    have e : ((l - t : Nat) : Rat) = (l : Rat) - (t : Rat) := by
      have : ((l - t : Nat) : Rat) + (t : Rat) = (l : Rat) := by rw [← Rat.natCast_add, Nat.sub_add_cancel ht]
      grind
    rw [e]; grind
  rw [hq2] at r2
  exact r2
theorem below_nat {t u l : Nat} (ht : t ≤ l) (hu : u ≤ l) (h0 : 0 < l) (hl : l ≤ 1000) : c__law_below [fr ((t : Rat) / (l : Rat)), fr ((u : Rat) / (l : Rat))] = ok (.bl (decide (t < u))) := by
  have hq : ∀ t : Nat, t ≤ l → Fs 20 ((t : Rat) / (l : Rat)) := by
    intro t ht
    have := fs_ratio (a := (t : Int)) (b := (l : Int)) (sz_nat (n := t) 20 (by omega)) (sz_nat (n := l) 20 (by omega)) (by omega)
    rwa [Rat.intCast_natCast, Rat.intCast_natCast] at this
  have := law_below_ok (hq t ht) (hq u hu) (by decide)
  have e : decide ((t : Rat) / (l : Rat) < (u : Rat) / (l : Rat)) = decide (t < u) := by
    rw [decide_eq_decide]
    constructor
    · intro h
      by_cases hc : t < u
      · exact hc
      · have := q_mono (k := u) (j := t) (l := l) (by omega) h0
        grind
    · intro h
      have hl' : (0 : Rat) < (l : Rat) := Rat.natCast_pos.mpr h0
      have hkl : (t : Rat) < (u : Rat) := Rat.natCast_lt_natCast.mpr h
      rw [Rat.div_def, Rat.div_def]
      exact Rat.mul_lt_mul_of_pos_right hkl (Rat.inv_pos.mpr hl')
  rw [this, e]
theorem ends_ok {p : D} {N : Nat} (hp : Pot N p) (hN : N < 1000) {f l : Nat} {s : Rat} (hf1 : 1 ≤ f) (hf : f ≤ 40) (h0 : 0 < l) (hl : l ≤ 1000) (hs : Fs 98 s) (hs0 : 0 ≤ s) (hs1 : s < 1) :
    ∃ p', f__law_are_ends_right [p, .int f, .int l, fr s] = some (.val (.bl true), p') ∧ Pot (N + 1) p' := by
  obtain ⟨d1, p1, e1, hp1, a1, a2⟩ := law_take_ok (F := 215285) (G := 7885) (H := 6845) (u := (f : Int) + 1) (m := 10) hp (by omega) (by unfold Sz; omega) (by decide) (by omega)
  refine ⟨p1, ?_, hp1⟩
  obtain ⟨n, rfl⟩ : ∃ n : Nat, d1 = n := ⟨d1.toNat, by omega⟩
  have hn : n ≤ f := by omega
  have hsm := hs.mono (m := 100) (by decide)
  obtain ⟨m1, l1, L1⟩ := least_share_ok (f := f) (n := n) h0 hl hn hf1 (by omega) hsm hs0 hs1
  obtain ⟨m2, l2, L2⟩ := greatest_share_ok (f := f) (n := n) h0 hl hn hf1 (by omega) hsm hs0 hs1
  obtain ⟨m3, l3, L3⟩ := greatest_share_ok (f := f) (n := f - n) h0 hl (by omega) hf1 (by omega) hsm hs0 hs1
  obtain ⟨m4, l4, L4⟩ := least_share_ok (f := f) (n := f - n) h0 hl (by omega) hf1 (by omega) hsm hs0 hs1
  rw [show f - (f - n) = n by omega] at L3
  have u3 := L3.uniq L1
  have u4 := L4.uniq L2
  subst u3 u4
  obtain ⟨m5, m6, l5, L5, L6⟩ := stretch_ok (f := f) (n := n) h0 hl hn hf1 (by omega) hs hs0 hs1
  obtain ⟨m7, m8, l7, L7, L8⟩ := stretch_ok (f := f) (n := f - n) h0 hl (by omega) hf1 (by omega) hs hs0 hs1
  rw [show f - (f - n) = n by omega] at L8
  have u7 := L7.uniq L6
  have u8 := L8.uniq L5
  subst u7 u8
  obtain ⟨m9, l9, L9⟩ := least_share_ok (f := f + 1) (n := n) h0 hl (by omega) (by omega) (by omega) hsm hs0 hs1
  obtain ⟨m10, l10, L10⟩ := greatest_share_ok (f := f + 1) (n := n) h0 hl (by omega) (by omega) (by omega) hsm hs0 hs1
  have b1 := L3.le
  have b2 := L4.le
  have b5 := L8.le
  have b6 := L7.le
  have b9 := L9.le
  have b10 := L10.le
  have rg := fun (k : Nat) (hk : k ≤ l) => q_rng hk h0
  -- orders
  have o9 : m9 ≤ m3 := L3.le_of L9 fun k hk => P_up (rg k hk).1 (rg k hk).2 f n
  have o10 : m4 ≤ m10 := by
    rw [show f + 1 - n = f - n + 1 by omega] at L10
    exact L10.le_of L4 fun k hk => P_diag (rg k hk).1 (rg k hk).2 f (f - n)
  have o5 := stretch hn h0 (by grind) L8 L7
  have z1 : n = 0 → m3 = 0 := fun z => by
    by_cases hc : m3 = 0
    · exact hc
    · have := L3.below 0 (by omega)
      rw [z, P_0] at this; grind
  have z2 : n = f → m4 = 0 := fun z => by
    by_cases hc : m4 = 0
    · exact hc
    · have := L4.below 0 (by omega)
      rw [z, Nat.sub_self, P_0] at this; grind
  -- the equations
  have r1 := rest_nat (t := m3) b1 h0 hl
  have r2 := rest_nat (t := l - m4) (by omega) h0 hl
  rw [show l - (l - m4) = m4 by omega] at r2
  have r3 := rest_nat (t := min l (l - m7 + 1)) (by omega) h0 hl
  rw [show l - min l (l - m7 + 1) = m7 - 1 by omega] at r3
  have r4 := rest_nat (t := m8 - 1) (by omega) h0 hl
  rw [show l - (m8 - 1) = min l (l - m8 + 1) by omega] at r4
  have v1 := below_nat (t := min l (l - m7 + 1)) (u := m8 - 1) (l := l) (by omega) (by omega) h0 hl
  rw [show decide (min l (l - m7 + 1) < m8 - 1) = false by rw [decide_eq_false_iff_not]; omega] at v1
  have v2 := below_nat (t := m3) (u := m9) (l := l) b1 b9 h0 hl
  rw [show decide (m3 < m9) = false by rw [decide_eq_false_iff_not]; omega] at v2
  have v3 := below_nat (t := l - m4) (u := l - m10) (l := l) (by omega) (by omega) h0 hl
  rw [show decide (l - m4 < l - m10) = false by rw [decide_eq_false_iff_not]; omega] at v3
  have k1 : ((f : Int) - (n : Int)) = ((f - n : Nat) : Int) := by omega
  have k2 : ((f : Int) + 1) = ((f + 1 : Nat) : Int) := by omega
  rw [k2] at e1
  have ab1 : ∀ a b : Rat, okD 8 (.tup [fr a, fr b]) = true := fun a b => by simp [fr, okD, okDs]
  have ab2 : ∀ a b : Rat, eqD (.tup [fr a, fr b]) (.tup [fr a, fr b]) = true := fun a b => (eqD_iff _ _ (by simp [fr, nob, nobs]) (by simp [fr, nob, nobs])).mpr rfl
  have ab3 : ∀ a b : Rat, dNe (.tup [fr a, fr b]) (.tup [fr a, fr b]) = some (.val (.bl false)) := fun a b => by
    simp only [dNe, ab1, ab2, and_self, ↓reduceIte, Bool.not_true]
  have dl : (l : Rat) / (l : Rat) = 1 := by rw [Rat.div_def, Rat.mul_inv_cancel _ (nat_ne h0)]
  have d0 : ((0 : Nat) : Rat) / (l : Rat) = 0 := by rw [Rat.div_def]; simp
  have ix2 : ∀ a b : D, dIx (.tup [a, b]) (.int 0) = some a := fun a b => rfl
  have ix3 : ∀ a b : D, dIx (.tup [a, b]) (.int 1) = some b := fun a b => rfl
  have c1 : decide ((n : Int) = 0) = decide (n = 0) := by rw [decide_eq_decide]; omega
  have c2 : decide ((n : Int) = (f : Int)) = decide (n = f) := by rw [decide_eq_decide]; omega
  have c3 : decide ((n : Int) < (f : Int)) = decide (n < f) := by rw [decide_eq_decide]; omega
  have key : ∀ (h1 : n = 0 → fr ((m3 : Rat) / (l : Rat)) = fr 0) (h2 : n = f → fr (((l - m4 : Nat) : Rat) / (l : Rat)) = fr 1), True := fun _ _ => trivial
  have k3 : ((n : Int) + 1) = ((n + 1 : Nat) : Int) := by omega
  by_cases hnf : n < f
  · obtain ⟨m11, l11, L11⟩ := least_share_ok (f := f) (n := n + 1) h0 hl (by omega) hf1 (by omega) hsm hs0 hs1
    obtain ⟨m12, l12, L12⟩ := greatest_share_ok (f := f) (n := n + 1) h0 hl (by omega) hf1 (by omega) hsm hs0 hs1
    have b11 := L11.le
    have b12 := L12.le
    have o11 : m3 ≤ m11 := L11.le_of L3 fun k hk => (P_anti (rg k hk).1 (rg k hk).2 f n).2
    have o12 : m12 ≤ m4 := by
      have e : f - n = f - (n + 1) + 1 := by omega
      rw [e] at L4
      exact L4.le_of L12 fun k hk => (P_anti (rg k hk).1 (rg k hk).2 f (f - (n + 1))).2
    have v4 := below_nat (t := m11) (u := m3) (l := l) b11 b1 h0 hl
    rw [show decide (m11 < m3) = false by rw [decide_eq_false_iff_not]; omega] at v4
    have v5 := below_nat (t := l - m12) (u := l - m4) (l := l) (by omega) (by omega) h0 hl
    rw [show decide (l - m12 < l - m4) = false by rw [decide_eq_false_iff_not]; omega] at v5
    have c2' : decide (n = f) = false := by rw [decide_eq_false_iff_not]; omega
    have c3' : decide (n < f) = true := by rw [decide_eq_true_iff]; omega
    by_cases hn0 : n = 0
    · have z := z1 hn0
      rw [z] at l1 l3 r1 v2 v4
      rw [d0] at l1 r1 v2 v4
      have c1' : decide (n = 0) = true := by rw [decide_eq_true_iff]; omega
      simp only [f__law_are_ends_right, b__law_are_ends_right, kSeq_1, kSeq_2, kSeq_3, kSeq_4, kSet_1, kNx_1, kPar_1, kd2_1, kd1_1, kIf_1, kIf_2, kRt_1, kEx_1, kVar_1, kVar_2, kMov_1, kMov_2, kfz_1, kfz_2, kc_1, k1_1, k2b_1, k2a_1, kt_1, kn_1, kAnd_1, kAnd_2, kOr_1, kOr_2, kmA_1, kmA_2, kmO_1, kmO_2, kmI_1, kmI_2, kh4_1, kh3_1, kh3_2, kh2_1, kh1_1, kcb_1, kca_1, kL5_1, kL4_1, kL3_1, kL2_1, kL1_1, kl2_1, kl1_1, kl3_1, kr_1, krs_1, krs_2, kput_1, kput_2, kpk_1, klst_1, klst_2, kbor_1, ka2_1, ka1_1, ktup_1, kls_1, kB_1, kx3_1, kx2_1, kx1_1, kx4_1, kis2_1, kis_1, kp_1, ks3_1, ks2_1, ks1_1, kF_1, kF2_1, kF2_2, kF2_3, kF2_4, kF1_1, kW2_1, kW2_2, kW2_3, kW2_4, kW_1, kW_2, kg_1, ksa_1, ki_1, ki_2, ki_3, kap2_1, kap_1, ksx4_1, ksx3_1, ksx2_1, ksx1_1, kat_1, ko_1, kfin_1, kfin_2, klc2_1, klc_1, kC4_1, kC3_1, kC2_1, kC2_2, kC1_1, ksum_1, kst2_1, kst_1, kst_2, kRev_1, kRev_2, krg_1, krg2_1, krg1_1, kav_1, kav_2, krc_1, runFn_a, out_n, out_s, ini_a, iniL_n, iniL_0, iniL_e, sSeq_a, sSet_a, sPar_a, dNil_a, dCons_a, setAll_n, setAll_c, sIf_a, sRet_a, sExpr_a, sNext_a, sBreak_a, sCont_a, mC_a, mVar_a, mMove_a, fz_a, m1_a, m2_a, tst_a, tNot_a, tAnd_a, tOr_a, tYes_a, mAnd_a, mOr_a, mIf_a, mChain_a, mCall_a, mCallL_a, lNil_a, lCons_a, lLend_a, res_e, res_v, res_s, slot_0, slot_s, put_a, peek_a, lstAt_a, get_v, get_o, get_b, aNil_a, aCons_a, aStar_a, mTup_a, mLst_a, mB_a, mIxS_a, mLenS_a, mIsi_a, pNone_a, pSome_a, mSl_a, sFor_a, forL_n, forL_c, whN_s, gN_a, gT_a, gsC_a, gsN_a, sAsg_a, iSeq_a, sApp_a, sSetIx_a, mLc_a, lcL_n, lcL_c, wipe_n, wipe_c, rest_n, rest_c, allVal_n, allVal_c, mRev_a, mLRg_a, mLRg2_a, lt_int, le_int, gt_int, ge_int, sub_int, add_int, mod_int, fdiv_int, pow_int', mul_ok, eq_int, ne_int, neg_int, not_bl, abs_int, int_int, int_bl, max_2, min_2, max_3, min_3, len_l, len_t, len_s, lenB_l, lenB_t, lenB_s, ix_s, ixV_a, tuple_l, tuple_t, list_l, list_t, sum_l, all_l, any_l, isi_int, isi_bool, isi_tup, ix_fr0, ix_fr1, mul_l, cat_l, cat_t, sl_l, sl_t, sl_s, line, Nat.one_ne_zero, Nat.reduceEqDiff, reduceCtorEq, Bool.not_true, Bool.not_false, decide_true, decide_false, Bool.and_self, Bool.and_true, Bool.true_and, List.length_cons, List.length_nil, List.replicate, List.append_nil, List.cons_append, List.nil_append, Nat.reduceAdd, Nat.reduceSub, List.getElem?_cons_succ, List.getElem?_cons_zero, Nat.sub_self, List.set_cons_succ, List.set_cons_zero, ↓reduceIte, Nat.reduceLeDiff, Nat.reduceLT, e__law_take, e__law_rest, e__law_below, e1, k1, k2, k3, l1, l2, l3, l4, l5, l7, l9, l10, l11, l12, r1, r2, r3, r4, v1, v2, v3, v4, v5, fr_one, fr_zero, ne_fr, eq_fr, ne_eq, not_true_eq_false, ab3, ix2, ix3, c1, c2, c3, c1', c2', c3']
    · have c1' : decide (n = 0) = false := by rw [decide_eq_false_iff_not]; omega
      simp only [f__law_are_ends_right, b__law_are_ends_right, kSeq_1, kSeq_2, kSeq_3, kSeq_4, kSet_1, kNx_1, kPar_1, kd2_1, kd1_1, kIf_1, kIf_2, kRt_1, kEx_1, kVar_1, kVar_2, kMov_1, kMov_2, kfz_1, kfz_2, kc_1, k1_1, k2b_1, k2a_1, kt_1, kn_1, kAnd_1, kAnd_2, kOr_1, kOr_2, kmA_1, kmA_2, kmO_1, kmO_2, kmI_1, kmI_2, kh4_1, kh3_1, kh3_2, kh2_1, kh1_1, kcb_1, kca_1, kL5_1, kL4_1, kL3_1, kL2_1, kL1_1, kl2_1, kl1_1, kl3_1, kr_1, krs_1, krs_2, kput_1, kput_2, kpk_1, klst_1, klst_2, kbor_1, ka2_1, ka1_1, ktup_1, kls_1, kB_1, kx3_1, kx2_1, kx1_1, kx4_1, kis2_1, kis_1, kp_1, ks3_1, ks2_1, ks1_1, kF_1, kF2_1, kF2_2, kF2_3, kF2_4, kF1_1, kW2_1, kW2_2, kW2_3, kW2_4, kW_1, kW_2, kg_1, ksa_1, ki_1, ki_2, ki_3, kap2_1, kap_1, ksx4_1, ksx3_1, ksx2_1, ksx1_1, kat_1, ko_1, kfin_1, kfin_2, klc2_1, klc_1, kC4_1, kC3_1, kC2_1, kC2_2, kC1_1, ksum_1, kst2_1, kst_1, kst_2, kRev_1, kRev_2, krg_1, krg2_1, krg1_1, kav_1, kav_2, krc_1, runFn_a, out_n, out_s, ini_a, iniL_n, iniL_0, iniL_e, sSeq_a, sSet_a, sPar_a, dNil_a, dCons_a, setAll_n, setAll_c, sIf_a, sRet_a, sExpr_a, sNext_a, sBreak_a, sCont_a, mC_a, mVar_a, mMove_a, fz_a, m1_a, m2_a, tst_a, tNot_a, tAnd_a, tOr_a, tYes_a, mAnd_a, mOr_a, mIf_a, mChain_a, mCall_a, mCallL_a, lNil_a, lCons_a, lLend_a, res_e, res_v, res_s, slot_0, slot_s, put_a, peek_a, lstAt_a, get_v, get_o, get_b, aNil_a, aCons_a, aStar_a, mTup_a, mLst_a, mB_a, mIxS_a, mLenS_a, mIsi_a, pNone_a, pSome_a, mSl_a, sFor_a, forL_n, forL_c, whN_s, gN_a, gT_a, gsC_a, gsN_a, sAsg_a, iSeq_a, sApp_a, sSetIx_a, mLc_a, lcL_n, lcL_c, wipe_n, wipe_c, rest_n, rest_c, allVal_n, allVal_c, mRev_a, mLRg_a, mLRg2_a, lt_int, le_int, gt_int, ge_int, sub_int, add_int, mod_int, fdiv_int, pow_int', mul_ok, eq_int, ne_int, neg_int, not_bl, abs_int, int_int, int_bl, max_2, min_2, max_3, min_3, len_l, len_t, len_s, lenB_l, lenB_t, lenB_s, ix_s, ixV_a, tuple_l, tuple_t, list_l, list_t, sum_l, all_l, any_l, isi_int, isi_bool, isi_tup, ix_fr0, ix_fr1, mul_l, cat_l, cat_t, sl_l, sl_t, sl_s, line, Nat.one_ne_zero, Nat.reduceEqDiff, reduceCtorEq, Bool.not_true, Bool.not_false, decide_true, decide_false, Bool.and_self, Bool.and_true, Bool.true_and, List.length_cons, List.length_nil, List.replicate, List.append_nil, List.cons_append, List.nil_append, Nat.reduceAdd, Nat.reduceSub, List.getElem?_cons_succ, List.getElem?_cons_zero, Nat.sub_self, List.set_cons_succ, List.set_cons_zero, ↓reduceIte, Nat.reduceLeDiff, Nat.reduceLT, e__law_take, e__law_rest, e__law_below, e1, k1, k2, k3, l1, l2, l3, l4, l5, l7, l9, l10, l11, l12, r1, r2, r3, r4, v1, v2, v3, v4, v5, fr_one, fr_zero, ne_fr, eq_fr, ne_eq, not_true_eq_false, ab3, ix2, ix3, c1, c2, c3, c1', c2', c3']
  · have hnf' : n = f := by omega
    have z := z2 hnf'
    rw [z, Nat.sub_zero, dl] at l2 v3
    rw [z, Nat.sub_zero, dl] at r2
    rw [z] at l4
    have c2' : decide (n = f) = true := by rw [decide_eq_true_iff]; omega
    have c3' : decide (n < f) = false := by rw [decide_eq_false_iff_not]; omega
    have c1' : decide (n = 0) = false := by rw [decide_eq_false_iff_not]; omega
    simp only [f__law_are_ends_right, b__law_are_ends_right, kSeq_1, kSeq_2, kSeq_3, kSeq_4, kSet_1, kNx_1, kPar_1, kd2_1, kd1_1, kIf_1, kIf_2, kRt_1, kEx_1, kVar_1, kVar_2, kMov_1, kMov_2, kfz_1, kfz_2, kc_1, k1_1, k2b_1, k2a_1, kt_1, kn_1, kAnd_1, kAnd_2, kOr_1, kOr_2, kmA_1, kmA_2, kmO_1, kmO_2, kmI_1, kmI_2, kh4_1, kh3_1, kh3_2, kh2_1, kh1_1, kcb_1, kca_1, kL5_1, kL4_1, kL3_1, kL2_1, kL1_1, kl2_1, kl1_1, kl3_1, kr_1, krs_1, krs_2, kput_1, kput_2, kpk_1, klst_1, klst_2, kbor_1, ka2_1, ka1_1, ktup_1, kls_1, kB_1, kx3_1, kx2_1, kx1_1, kx4_1, kis2_1, kis_1, kp_1, ks3_1, ks2_1, ks1_1, kF_1, kF2_1, kF2_2, kF2_3, kF2_4, kF1_1, kW2_1, kW2_2, kW2_3, kW2_4, kW_1, kW_2, kg_1, ksa_1, ki_1, ki_2, ki_3, kap2_1, kap_1, ksx4_1, ksx3_1, ksx2_1, ksx1_1, kat_1, ko_1, kfin_1, kfin_2, klc2_1, klc_1, kC4_1, kC3_1, kC2_1, kC2_2, kC1_1, ksum_1, kst2_1, kst_1, kst_2, kRev_1, kRev_2, krg_1, krg2_1, krg1_1, kav_1, kav_2, krc_1, runFn_a, out_n, out_s, ini_a, iniL_n, iniL_0, iniL_e, sSeq_a, sSet_a, sPar_a, dNil_a, dCons_a, setAll_n, setAll_c, sIf_a, sRet_a, sExpr_a, sNext_a, sBreak_a, sCont_a, mC_a, mVar_a, mMove_a, fz_a, m1_a, m2_a, tst_a, tNot_a, tAnd_a, tOr_a, tYes_a, mAnd_a, mOr_a, mIf_a, mChain_a, mCall_a, mCallL_a, lNil_a, lCons_a, lLend_a, res_e, res_v, res_s, slot_0, slot_s, put_a, peek_a, lstAt_a, get_v, get_o, get_b, aNil_a, aCons_a, aStar_a, mTup_a, mLst_a, mB_a, mIxS_a, mLenS_a, mIsi_a, pNone_a, pSome_a, mSl_a, sFor_a, forL_n, forL_c, whN_s, gN_a, gT_a, gsC_a, gsN_a, sAsg_a, iSeq_a, sApp_a, sSetIx_a, mLc_a, lcL_n, lcL_c, wipe_n, wipe_c, rest_n, rest_c, allVal_n, allVal_c, mRev_a, mLRg_a, mLRg2_a, lt_int, le_int, gt_int, ge_int, sub_int, add_int, mod_int, fdiv_int, pow_int', mul_ok, eq_int, ne_int, neg_int, not_bl, abs_int, int_int, int_bl, max_2, min_2, max_3, min_3, len_l, len_t, len_s, lenB_l, lenB_t, lenB_s, ix_s, ixV_a, tuple_l, tuple_t, list_l, list_t, sum_l, all_l, any_l, isi_int, isi_bool, isi_tup, ix_fr0, ix_fr1, mul_l, cat_l, cat_t, sl_l, sl_t, sl_s, line, Nat.one_ne_zero, Nat.reduceEqDiff, reduceCtorEq, Bool.not_true, Bool.not_false, decide_true, decide_false, Bool.and_self, Bool.and_true, Bool.true_and, List.length_cons, List.length_nil, List.replicate, List.append_nil, List.cons_append, List.nil_append, Nat.reduceAdd, Nat.reduceSub, List.getElem?_cons_succ, List.getElem?_cons_zero, Nat.sub_self, List.set_cons_succ, List.set_cons_zero, ↓reduceIte, Nat.reduceLeDiff, Nat.reduceLT, e__law_take, e__law_rest, e__law_below, e1, k1, k2, k3, l1, l2, l3, l4, l5, l7, l9, l10, r1, r2, r3, r4, v1, v2, v3, fr_one, fr_zero, ne_fr, eq_fr, ne_eq, not_true_eq_false, ab3, ix2, ix3, c1, c2, c3, c1', c2', c3']
end
end Wk61

set_option Elab.async false
set_option linter.all false
set_option maxRecDepth 100000
namespace Wk61
open PySem Cb Mk61
noncomputable section
def fc : Nat → Nat
  | 0 => 1
  | n + 1 => (n + 1) * fc n
theorem fc_pos : ∀ n, 0 < fc n
  | 0 => by decide
  | n + 1 => Nat.mul_pos (by omega) (fc_pos n)
theorem ch_fact : ∀ (s a b : Nat), a + b = s → ch (a + b) a * (fc a * fc b) = fc (a + b)
  | s, 0, b, h => by simp [ch_0, fc]
  | s, a + 1, 0, h => by simp [ch_self, fc]
  | 0, a + 1, b + 1, h => by omega
  | s + 1, a + 1, b + 1, h => by
    have h1 := ch_fact s a (b + 1) (by omega)
    have h2 := ch_fact s (a + 1) b (by omega)
    have e : ch (a + 1 + (b + 1)) (a + 1) = ch (a + 1 + b) a + ch (a + 1 + b) (a + 1) := rfl
    rw [show a + (b + 1) = a + 1 + b by omega] at h1
    rw [e, show fc (a + 1 + (b + 1)) = (a + 1 + b + 1) * fc (a + 1 + b) from rfl]
    have f1 : fc (a + 1) = (a + 1) * fc a := rfl
    have f2 : fc (b + 1) = (b + 1) * fc b := rfl
    have g1 : ch (a + 1 + b) a * (fc (a + 1) * fc (b + 1)) = (a + 1) * fc (a + 1 + b) := by rw [← h1, f1]; grind
    have g2 : ch (a + 1 + b) (a + 1) * (fc (a + 1) * fc (b + 1)) = (b + 1) * fc (a + 1 + b) := by rw [← h2, f2]; grind
    rw [Nat.add_mul, g1, g2]; grind
theorem both_id (w x y z : Nat) : ch (w + x) w * ch (y + z) y * ch (w + x + (y + z)) (w + x) = ch (w + y) w * ch (x + z) x * ch (w + y + (x + z)) (w + y) := by
  have a1 := ch_fact _ w x rfl
  have a2 := ch_fact _ y z rfl
  have a3 := ch_fact _ (w + x) (y + z) rfl
  have b1 := ch_fact _ w y rfl
  have b2 := ch_fact _ x z rfl
  have b3 := ch_fact _ (w + y) (x + z) rfl
  have hp : 0 < fc w * fc x * (fc y * fc z) := Nat.mul_pos (Nat.mul_pos (fc_pos _) (fc_pos _)) (Nat.mul_pos (fc_pos _) (fc_pos _))
  refine Nat.eq_of_mul_eq_mul_right hp ?_
  have e : w + x + (y + z) = w + y + (x + z) := by omega
  have c1 : ch (w + x) w * ch (y + z) y * ch (w + x + (y + z)) (w + x) * (fc w * fc x * (fc y * fc z)) = fc (w + x + (y + z)) := by
    rw [← a3, ← a1, ← a2]; grind
  have c2 : ch (w + y) w * ch (x + z) x * ch (w + y + (x + z)) (w + y) * (fc w * fc x * (fc y * fc z)) = fc (w + y + (x + z)) := by
    rw [← b3, ← b1, ← b2]; grind
  rw [c1, c2, e]
/-! ### rows -/
def cw (a b N i : Nat) : Rat := ((ch a i * ch (N - a) (b - i) : Nat) : Rat) / (ch N b : Rat)
def rw1 (a b N i : Nat) : D := .tup [.int i, fr (cw a b N i)]
def rows (a b N lo k : Nat) : List D := (List.range k).map fun i => rw1 a b N (lo + i)
theorem rows_s (a b N lo k : Nat) : rows a b N lo (k + 1) = rw1 a b N lo :: rows a b N (lo + 1) k := by
  unfold rows
  rw [List.range_succ_eq_map, List.map_cons, List.map_map]
  congr 1
  apply List.map_congr_left
  intro i _
  show rw1 a b N (lo + (i + 1)) = _
  rw [show lo + (i + 1) = lo + 1 + i by omega]
theorem cw_symm {a b N i : Nat} (ha : a ≤ N) (hb : b ≤ N) (h1 : i ≤ a) (h2 : i ≤ b) (h3 : a + b ≤ N + i) : cw a b N i = cw b a N i := by
  have h := both_id i (a - i) (b - i) (N + i - a - b)
  rw [show i + (a - i) = a by omega, show i + (b - i) = b by omega, show b - i + (N + i - a - b) = N - a by omega, show a - i + (N + i - a - b) = N - b by omega, show a + (N - a) = N by omega, show b + (N - b) = N by omega] at h
  have n1 : (ch N a : Rat) ≠ 0 := by have := Rat.natCast_pos.mpr (ch_pos ha); grind
  have n2 : (ch N b : Rat) ≠ 0 := by have := Rat.natCast_pos.mpr (ch_pos hb); grind
  have h' : ((ch a i * ch (N - a) (b - i) : Nat) : Rat) * (ch N a : Rat) = ((ch b i * ch (N - b) (a - i) : Nat) : Rat) * (ch N b : Rat) := by
    rw [← Rat.natCast_mul, ← Rat.natCast_mul, h]
  unfold cw
  generalize ((ch a i * ch (N - a) (b - i) : Nat) : Rat) = X at *
  generalize ((ch b i * ch (N - b) (a - i) : Nat) : Rat) = Y at *
  grind
theorem rows_symm {a b N : Nat} (ha : a ≤ N) (hb : b ≤ N) : ∀ (k lo : Nat), a + b ≤ N + lo → lo + k ≤ min a b + 1 → rows a b N lo k = rows b a N lo k
  | 0, lo, _, _ => rfl
  | k + 1, lo, h1, h2 => by
    rw [rows_s, rows_s, rows_symm ha hb k (lo + 1) (by omega) (by omega)]
    unfold rw1
    rw [cw_symm ha hb (by omega) (by omega) (by omega)]
theorem rows_ok (a b N lo k : Nat) : okD 8 (.tup (rows a b N lo k)) = true := by
  refine okD_tup fun d hd => ?_
  unfold rows at hd
  obtain ⟨i, _, rfl⟩ := List.mem_map.mp hd
  simp [rw1, okD, okDs, fr]
theorem rows_nob (a b N lo k : Nat) : nob (.tup (rows a b N lo k)) = true := by
  show nobs _ = true
  refine nobs_iff.mpr fun d hd => ?_
  unfold rows at hd
  obtain ⟨i, _, rfl⟩ := List.mem_map.mp hd
  simp [rw1, nob, nobs, fr]
theorem row_loop {a b N : Nat} (ha : a ≤ N) (hb : b ≤ N) (hN : N ≤ 1000) : ∀ (k lo : Nat) (ds : List D) (o o' : Option DV), lo + k ≤ min a b + 1 → ds.length + k < 10000 → ∃ o1 o2,
    forL (gN 5) (sSeq (sSet 6 (m2 dMul (mCall c_choose_of (aCons (mVar 0) (aCons (mVar 5) aNil))) (mCall c_choose_of (aCons (m2 dSub (mVar 2) (mVar 0)) (aCons (m2 dSub (mVar 1) (mVar 5)) aNil)))))
    (sApp 4 (mTup (aCons (mVar 5) (aCons (mCall c_ratio_of (aCons (mVar 6) (aCons (mVar 3) aNil))) aNil))))) (rangeD (lo : Int) k)
    [some (.val (.int a)), some (.val (.int b)), some (.val (.int N)), some (.val (.int (ch N b))), some (.own (.lst ds)), o, o'] =
    some (.nx [some (.val (.int a)), some (.val (.int b)), some (.val (.int N)), some (.val (.int (ch N b))), some (.own (.lst (ds ++ rows a b N lo k))), o1, o2])
  | 0, lo, ds, o, o', _, _ => ⟨o, o', by simp only [rangeD_0, forL_n, rows, List.range_zero, List.map_nil, List.append_nil]⟩
  | k + 1, lo, ds, o, o', h, hd => by
    obtain ⟨o1, o2, ih⟩ := row_loop ha hb hN k (lo + 1) (ds ++ [rw1 a b N lo]) (some (.val (.int lo))) (some (.val (.int (ch a lo * ch (N - a) (b - lo) : Nat)))) (by omega) (by simp only [List.length_append, List.length_cons, List.length_nil]; omega)
    refine ⟨o1, o2, ?_⟩
    have k1 : (N : Int) - (a : Int) = ((N - a : Nat) : Int) := by omega
    have k2 : (b : Int) - (lo : Int) = ((b - lo : Nat) : Int) := by omega
    have c1 := choose_of_ok (n := a) (k := lo) (by omega)
    have c2 := choose_of_ok (n := N - a) (k := b - lo) (by omega)
    have m0 : MulOk (ch a lo : Int) (ch (N - a) (b - lo) : Int) := (ch_sz _ _).mulOk (ch_sz _ _) (by omega)
    have hp := ch_pos hb
    have r := ratio_of_ok (a := ((ch a lo * ch (N - a) (b - lo) : Nat) : Int)) (b := (ch N b : Int)) (by omega) (ch_sz N b) (by omega)
    rw [Rat.intCast_natCast, Rat.intCast_natCast] at r
    have l1 : ds.length < 16777216 := by omega
    have m3 : (ch a lo : Int) * (ch (N - a) (b - lo) : Int) = ((ch a lo * ch (N - a) (b - lo) : Nat) : Int) := by simp
    rw [rangeD_s, rows_s, show (lo : Int) + 1 = ((lo + 1 : Nat) : Int) by omega]
    rw [List.append_assoc, List.singleton_append] at ih
    unfold rw1 cw at ih ⊢
    simp only [kSeq_1, kSeq_2, kSeq_3, kSeq_4, kSet_1, kNx_1, kPar_1, kd2_1, kd1_1, kIf_1, kIf_2, kRt_1, kEx_1, kVar_1, kVar_2, kMov_1, kMov_2, kfz_1, kfz_2, kc_1, k1_1, k2b_1, k2a_1, kt_1, kn_1, kAnd_1, kAnd_2, kOr_1, kOr_2, kmA_1, kmA_2, kmO_1, kmO_2, kmI_1, kmI_2, kh4_1, kh3_1, kh3_2, kh2_1, kh1_1, kcb_1, kca_1, kL5_1, kL4_1, kL3_1, kL2_1, kL1_1, kl2_1, kl1_1, kl3_1, kr_1, krs_1, krs_2, kput_1, kput_2, kpk_1, klst_1, klst_2, kbor_1, ka2_1, ka1_1, ktup_1, kls_1, kB_1, kx3_1, kx2_1, kx1_1, kx4_1, kis2_1, kis_1, kp_1, ks3_1, ks2_1, ks1_1, kF_1, kF2_1, kF2_2, kF2_3, kF2_4, kF1_1, kW2_1, kW2_2, kW2_3, kW2_4, kW_1, kW_2, kg_1, ksa_1, ki_1, ki_2, ki_3, kap2_1, kap_1, ksx4_1, ksx3_1, ksx2_1, ksx1_1, kat_1, ko_1, kfin_1, kfin_2, klc2_1, klc_1, kC4_1, kC3_1, kC2_1, kC2_2, kC1_1, ksum_1, kst2_1, kst_1, kst_2, kRev_1, kRev_2, krg_1, krg2_1, krg1_1, kav_1, kav_2, krc_1, runFn_a, out_n, out_s, ini_a, iniL_n, iniL_0, iniL_e, sSeq_a, sSet_a, sPar_a, dNil_a, dCons_a, setAll_n, setAll_c, sIf_a, sRet_a, sExpr_a, sNext_a, sBreak_a, sCont_a, mC_a, mVar_a, mMove_a, fz_a, m1_a, m2_a, tst_a, tNot_a, tAnd_a, tOr_a, tYes_a, mAnd_a, mOr_a, mIf_a, mChain_a, mCall_a, mCallL_a, lNil_a, lCons_a, lLend_a, res_e, res_v, res_s, slot_0, slot_s, put_a, peek_a, lstAt_a, get_v, get_o, get_b, aNil_a, aCons_a, aStar_a, mTup_a, mLst_a, mB_a, mIxS_a, mLenS_a, mIsi_a, pNone_a, pSome_a, mSl_a, sFor_a, forL_n, forL_c, whN_s, gN_a, gT_a, gsC_a, gsN_a, sAsg_a, iSeq_a, sApp_a, sSetIx_a, mLc_a, lcL_n, lcL_c, wipe_n, wipe_c, rest_n, rest_c, allVal_n, allVal_c, mRev_a, mLRg_a, mLRg2_a, lt_int, le_int, gt_int, ge_int, sub_int, add_int, mod_int, fdiv_int, pow_int', mul_ok, eq_int, ne_int, neg_int, not_bl, abs_int, int_int, int_bl, max_2, min_2, max_3, min_3, len_l, len_t, len_s, lenB_l, lenB_t, lenB_s, ix_s, ixV_a, tuple_l, tuple_t, list_l, list_t, sum_l, all_l, any_l, isi_int, isi_bool, isi_tup, ix_fr0, ix_fr1, mul_l, cat_l, cat_t, sl_l, sl_t, sl_s, line, Nat.one_ne_zero, Nat.reduceEqDiff, reduceCtorEq, Bool.not_true, Bool.not_false, decide_true, decide_false, Bool.and_self, Bool.and_true, Bool.true_and, List.length_cons, List.length_nil, List.replicate, List.append_nil, List.cons_append, List.nil_append, Nat.reduceAdd, Nat.reduceSub, List.getElem?_cons_succ, List.getElem?_cons_zero, Nat.sub_self, List.set_cons_succ, List.set_cons_zero, ↓reduceIte, Nat.reduceLeDiff, Nat.reduceLT, k1, k2, c1, c2, m0, m3, r, l1, ih, Nat.reduceLeDiff]
    trace_state
end
end Wk61

set_option Elab.async false
set_option linter.all false
set_option maxRecDepth 100000
namespace Wk61
open PySem Cb Mk61
noncomputable section
theorem check_two_ok {a b N : Nat} (ha : a ≤ 200) (hb : b ≤ 200) (h1 : a ≤ N) (h2 : b ≤ N) (h3 : 1 ≤ N) (h4 : N ≤ 1000) : f_check_two [.int a, .int b, .int N] = ok .non := by
  have e1 : decide ((0 : Int) ≤ (a : Int) ∧ (a : Int) ≤ 200) = true := by simp; omega
  have e2 : decide ((0 : Int) ≤ (b : Int) ∧ (b : Int) ≤ 200) = true := by simp; omega
  have e3 : decide (max (max (a : Int) (b : Int)) 1 ≤ (N : Int) ∧ (N : Int) ≤ 1000) = true := by simp; omega
  simp only [f_check_two, b_check_two, kSeq_1, kSeq_2, kSeq_3, kSeq_4, kSet_1, kNx_1, kPar_1, kd2_1, kd1_1, kIf_1, kIf_2, kRt_1, kEx_1, kVar_1, kVar_2, kMov_1, kMov_2, kfz_1, kfz_2, kc_1, k1_1, k2b_1, k2a_1, kt_1, kn_1, kAnd_1, kAnd_2, kOr_1, kOr_2, kmA_1, kmA_2, kmO_1, kmO_2, kmI_1, kmI_2, kh4_1, kh3_1, kh3_2, kh2_1, kh1_1, kcb_1, kca_1, kL5_1, kL4_1, kL3_1, kL2_1, kL1_1, kl2_1, kl1_1, kl3_1, kr_1, krs_1, krs_2, kput_1, kput_2, kpk_1, klst_1, klst_2, kbor_1, ka2_1, ka1_1, ktup_1, kls_1, kB_1, kx3_1, kx2_1, kx1_1, kx4_1, kis2_1, kis_1, kp_1, ks3_1, ks2_1, ks1_1, kF_1, kF2_1, kF2_2, kF2_3, kF2_4, kF1_1, kW2_1, kW2_2, kW2_3, kW2_4, kW_1, kW_2, kg_1, ksa_1, ki_1, ki_2, ki_3, kap2_1, kap_1, ksx4_1, ksx3_1, ksx2_1, ksx1_1, kat_1, ko_1, kfin_1, kfin_2, klc2_1, klc_1, kC4_1, kC3_1, kC2_1, kC2_2, kC1_1, ksum_1, kst2_1, kst_1, kst_2, kRev_1, kRev_2, krg_1, krg2_1, krg1_1, kav_1, kav_2, krc_1, runFn_a, out_n, out_s, ini_a, iniL_n, iniL_0, iniL_e, sSeq_a, sSet_a, sPar_a, dNil_a, dCons_a, setAll_n, setAll_c, sIf_a, sRet_a, sExpr_a, sNext_a, sBreak_a, sCont_a, mC_a, mVar_a, mMove_a, fz_a, m1_a, m2_a, tst_a, tNot_a, tAnd_a, tOr_a, tYes_a, mAnd_a, mOr_a, mIf_a, mChain_a, mCall_a, mCallL_a, lNil_a, lCons_a, lLend_a, res_e, res_v, res_s, slot_0, slot_s, put_a, peek_a, lstAt_a, get_v, get_o, get_b, aNil_a, aCons_a, aStar_a, mTup_a, mLst_a, mB_a, mIxS_a, mLenS_a, mIsi_a, pNone_a, pSome_a, mSl_a, sFor_a, forL_n, forL_c, whN_s, gN_a, gT_a, gsC_a, gsN_a, sAsg_a, iSeq_a, sApp_a, sSetIx_a, mLc_a, lcL_n, lcL_c, wipe_n, wipe_c, rest_n, rest_c, allVal_n, allVal_c, mRev_a, mLRg_a, mLRg2_a, lt_int, le_int, gt_int, ge_int, sub_int, add_int, mod_int, fdiv_int, pow_int', mul_ok, eq_int, ne_int, neg_int, not_bl, abs_int, int_int, int_bl, max_2, min_2, max_3, min_3, len_l, len_t, len_s, lenB_l, lenB_t, lenB_s, ix_s, ixV_a, tuple_l, tuple_t, list_l, list_t, sum_l, all_l, any_l, isi_int, isi_bool, isi_tup, ix_fr0, ix_fr1, mul_l, cat_l, cat_t, sl_l, sl_t, sl_s, line, Nat.one_ne_zero, Nat.reduceEqDiff, reduceCtorEq, Bool.not_true, Bool.not_false, decide_true, decide_false, Bool.and_self, Bool.and_true, Bool.true_and, List.length_cons, List.length_nil, List.replicate, List.append_nil, List.cons_append, List.nil_append, Nat.reduceAdd, Nat.reduceSub, List.getElem?_cons_succ, List.getElem?_cons_zero, Nat.sub_self, List.set_cons_succ, List.set_cons_zero, ↓reduceIte, Nat.reduceLeDiff, Nat.reduceLT, e_is_integer, is_integer_ok, e1, e2, e3, Nat.reduceLeDiff]
theorem both_row_ok {a b N : Nat} (ha : a ≤ 200) (hb : b ≤ 200) (h1 : a ≤ N) (h2 : b ≤ N) (h3 : 1 ≤ N) (h4 : N ≤ 1000) : f_both_row [.int a, .int b, .int N] = ok (.tup (rows a b N (a + b - N) (min a b + 1 - (a + b - N)))) := by
  obtain ⟨o1, o2, h⟩ := row_loop h1 h2 h4 (min a b + 1 - (a + b - N)) (a + b - N) [] none none (by omega) (by simp only [List.length_nil]; omega)
  have e1 : max (0 : Int) ((a : Int) + (b : Int) - (N : Int)) = ((a + b - N : Nat) : Int) := by omega
  have e2 : min (a : Int) (b : Int) + 1 = ((min a b + 1 : Nat) : Int) := by omega
  have e3 : (((min a b + 1 : Nat) : Int) - ((a + b - N : Nat) : Int)).toNat = min a b + 1 - (a + b - N) := by omega
  have hr := fun (ρ : En) e => range_D2 ((a + b - N : Nat) : Int) ((min a b + 1 : Nat) : Int) (by omega) (by omega) (by omega) (by omega) ρ ρ (aCons (mB dMax (aCons (mC (.int 0)) (aCons (m2 dSub (m2 dAdd (mVar 0) (mVar 1)) (mVar 2)) aNil))) (aCons (m2 dAdd (mB dMin (aCons (mVar 0) (aCons (mVar 1) aNil))) (mC (.int 1))) aNil)) e
  have c := choose_of_ok (n := N) (k := b) (by omega)
  rw [List.nil_append] at h
  simp only [f_both_row, b_both_row, kSeq_1, kSeq_2, kSeq_3, kSeq_4, kSet_1, kNx_1, kPar_1, kd2_1, kd1_1, kIf_1, kIf_2, kRt_1, kEx_1, kVar_1, kVar_2, kMov_1, kMov_2, kfz_1, kfz_2, kc_1, k1_1, k2b_1, k2a_1, kt_1, kn_1, kAnd_1, kAnd_2, kOr_1, kOr_2, kmA_1, kmA_2, kmO_1, kmO_2, kmI_1, kmI_2, kh4_1, kh3_1, kh3_2, kh2_1, kh1_1, kcb_1, kca_1, kL5_1, kL4_1, kL3_1, kL2_1, kL1_1, kl2_1, kl1_1, kl3_1, kr_1, krs_1, krs_2, kput_1, kput_2, kpk_1, klst_1, klst_2, kbor_1, ka2_1, ka1_1, ktup_1, kls_1, kB_1, kx3_1, kx2_1, kx1_1, kx4_1, kis2_1, kis_1, kp_1, ks3_1, ks2_1, ks1_1, kF_1, kF2_1, kF2_2, kF2_3, kF2_4, kF1_1, kW2_1, kW2_2, kW2_3, kW2_4, kW_1, kW_2, kg_1, ksa_1, ki_1, ki_2, ki_3, kap2_1, kap_1, ksx4_1, ksx3_1, ksx2_1, ksx1_1, kat_1, ko_1, kfin_1, kfin_2, klc2_1, klc_1, kC4_1, kC3_1, kC2_1, kC2_2, kC1_1, ksum_1, kst2_1, kst_1, kst_2, kRev_1, kRev_2, krg_1, krg2_1, krg1_1, kav_1, kav_2, krc_1, runFn_a, out_n, out_s, ini_a, iniL_n, iniL_0, iniL_e, sSeq_a, sSet_a, sPar_a, dNil_a, dCons_a, setAll_n, setAll_c, sIf_a, sRet_a, sExpr_a, sNext_a, sBreak_a, sCont_a, mC_a, mVar_a, mMove_a, fz_a, m1_a, m2_a, tst_a, tNot_a, tAnd_a, tOr_a, tYes_a, mAnd_a, mOr_a, mIf_a, mChain_a, mCall_a, mCallL_a, lNil_a, lCons_a, lLend_a, res_e, res_v, res_s, slot_0, slot_s, put_a, peek_a, lstAt_a, get_v, get_o, get_b, aNil_a, aCons_a, aStar_a, mTup_a, mLst_a, mB_a, mIxS_a, mLenS_a, mIsi_a, pNone_a, pSome_a, mSl_a, sFor_a, forL_n, forL_c, whN_s, gN_a, gT_a, gsC_a, gsN_a, sAsg_a, iSeq_a, sApp_a, sSetIx_a, mLc_a, lcL_n, lcL_c, wipe_n, wipe_c, rest_n, rest_c, allVal_n, allVal_c, mRev_a, mLRg_a, mLRg2_a, lt_int, le_int, gt_int, ge_int, sub_int, add_int, mod_int, fdiv_int, pow_int', mul_ok, eq_int, ne_int, neg_int, not_bl, abs_int, int_int, int_bl, max_2, min_2, max_3, min_3, len_l, len_t, len_s, lenB_l, lenB_t, lenB_s, ix_s, ixV_a, tuple_l, tuple_t, list_l, list_t, sum_l, all_l, any_l, isi_int, isi_bool, isi_tup, ix_fr0, ix_fr1, mul_l, cat_l, cat_t, sl_l, sl_t, sl_s, line, Nat.one_ne_zero, Nat.reduceEqDiff, reduceCtorEq, Bool.not_true, Bool.not_false, decide_true, decide_false, Bool.and_self, Bool.and_true, Bool.true_and, List.length_cons, List.length_nil, List.replicate, List.append_nil, List.cons_append, List.nil_append, Nat.reduceAdd, Nat.reduceSub, List.getElem?_cons_succ, List.getElem?_cons_zero, Nat.sub_self, List.set_cons_succ, List.set_cons_zero, ↓reduceIte, Nat.reduceLeDiff, Nat.reduceLT, check_two_ok ha hb h1 h2 h3 h4, e_choose_of, e_ratio_of, c, hr, e1, e2, e3, h, Nat.reduceLeDiff, Nat.zero_le]
def rv (b : Nat) : D → D
  | .tup [.int i, c] => .tup [.int (b - i), c]
  | d => d
theorem rv_loop (b : Nat) (x0 x1 x2 x4 : Option DV) : ∀ L : List D, (∀ d ∈ L, ∃ i c, d = .tup [.int i, c]) →
    lcL (gT (gsCons (gN 6) (gsCons (gN 7) gsNil))) tYesM (mTup (aCons (m2 dSub (mVar 3) (mVar 6)) (aCons (mVar 7) aNil))) [6, 7] L [x0, x1, x2, some (.val (.int b)), x4, none, none, none] =
    some (L.map (rv b), [x0, x1, x2, some (.val (.int b)), x4, none, none, none])
  | [], _ => by simp only [lcL_n, List.map_nil]
  | d :: L, h => by
    obtain ⟨i, c, rfl⟩ := h d (List.mem_cons_self ..)
    have ih := rv_loop b x0 x1 x2 x4 L fun d hd => h d (List.mem_cons_of_mem _ hd)
    simp only [kSeq_1, kSeq_2, kSeq_3, kSeq_4, kSet_1, kNx_1, kPar_1, kd2_1, kd1_1, kIf_1, kIf_2, kRt_1, kEx_1, kVar_1, kVar_2, kMov_1, kMov_2, kfz_1, kfz_2, kc_1, k1_1, k2b_1, k2a_1, kt_1, kn_1, kAnd_1, kAnd_2, kOr_1, kOr_2, kmA_1, kmA_2, kmO_1, kmO_2, kmI_1, kmI_2, kh4_1, kh3_1, kh3_2, kh2_1, kh1_1, kcb_1, kca_1, kL5_1, kL4_1, kL3_1, kL2_1, kL1_1, kl2_1, kl1_1, kl3_1, kr_1, krs_1, krs_2, kput_1, kput_2, kpk_1, klst_1, klst_2, kbor_1, ka2_1, ka1_1, ktup_1, kls_1, kB_1, kx3_1, kx2_1, kx1_1, kx4_1, kis2_1, kis_1, kp_1, ks3_1, ks2_1, ks1_1, kF_1, kF2_1, kF2_2, kF2_3, kF2_4, kF1_1, kW2_1, kW2_2, kW2_3, kW2_4, kW_1, kW_2, kg_1, ksa_1, ki_1, ki_2, ki_3, kap2_1, kap_1, ksx4_1, ksx3_1, ksx2_1, ksx1_1, kat_1, ko_1, kfin_1, kfin_2, klc2_1, klc_1, kC4_1, kC3_1, kC2_1, kC2_2, kC1_1, ksum_1, kst2_1, kst_1, kst_2, kRev_1, kRev_2, krg_1, krg2_1, krg1_1, kav_1, kav_2, krc_1, runFn_a, out_n, out_s, ini_a, iniL_n, iniL_0, iniL_e, sSeq_a, sSet_a, sPar_a, dNil_a, dCons_a, setAll_n, setAll_c, sIf_a, sRet_a, sExpr_a, sNext_a, sBreak_a, sCont_a, mC_a, mVar_a, mMove_a, fz_a, m1_a, m2_a, tst_a, tNot_a, tAnd_a, tOr_a, tYes_a, mAnd_a, mOr_a, mIf_a, mChain_a, mCall_a, mCallL_a, lNil_a, lCons_a, lLend_a, res_e, res_v, res_s, slot_0, slot_s, put_a, peek_a, lstAt_a, get_v, get_o, get_b, aNil_a, aCons_a, aStar_a, mTup_a, mLst_a, mB_a, mIxS_a, mLenS_a, mIsi_a, pNone_a, pSome_a, mSl_a, sFor_a, forL_n, forL_c, whN_s, gN_a, gT_a, gsC_a, gsN_a, sAsg_a, iSeq_a, sApp_a, sSetIx_a, mLc_a, lcL_n, lcL_c, wipe_n, wipe_c, rest_n, rest_c, allVal_n, allVal_c, mRev_a, mLRg_a, mLRg2_a, lt_int, le_int, gt_int, ge_int, sub_int, add_int, mod_int, fdiv_int, pow_int', mul_ok, eq_int, ne_int, neg_int, not_bl, abs_int, int_int, int_bl, max_2, min_2, max_3, min_3, len_l, len_t, len_s, lenB_l, lenB_t, lenB_s, ix_s, ixV_a, tuple_l, tuple_t, list_l, list_t, sum_l, all_l, any_l, isi_int, isi_bool, isi_tup, ix_fr0, ix_fr1, mul_l, cat_l, cat_t, sl_l, sl_t, sl_s, line, Nat.one_ne_zero, Nat.reduceEqDiff, reduceCtorEq, Bool.not_true, Bool.not_false, decide_true, decide_false, Bool.and_self, Bool.and_true, Bool.true_and, List.length_cons, List.length_nil, List.replicate, List.append_nil, List.cons_append, List.nil_append, Nat.reduceAdd, Nat.reduceSub, List.getElem?_cons_succ, List.getElem?_cons_zero, Nat.sub_self, List.set_cons_succ, List.set_cons_zero, ↓reduceIte, Nat.reduceLeDiff, Nat.reduceLT, ih, List.map_cons, rv, Nat.reduceLeDiff, Nat.zero_le]
theorem rows_len (a b N lo k : Nat) : (rows a b N lo k).length = k := by simp [rows]
theorem rows_rev {a b N : Nat} (ha : a < N) (hb : b ≤ N) : ((rows a b N (a + b - N) (min a b + 1 - (a + b - N))).reverse).map (rv b) = rows (N - a) b N (N - a + b - N) (min (N - a) b + 1 - (N - a + b - N)) := by
  refine List.ext_getElem (by rw [List.length_map, List.length_reverse, rows_len, rows_len]; omega) fun i h1 h2 => ?_
  rw [rows_len] at h2
  rw [List.getElem_map, List.getElem_reverse]
  simp only [rows, List.getElem_map, List.getElem_range, List.length_map, List.length_range]
  unfold rw1 rv
  simp only []
  have e1 : (b : Int) - ((a + b - N + (min a b + 1 - (a + b - N) - 1 - i) : Nat) : Int) = ((N - a + b - N + i : Nat) : Int) := by omega
  have e2 : cw a b N (a + b - N + (min a b + 1 - (a + b - N) - 1 - i)) = cw (N - a) b N (N - a + b - N + i) := by
    unfold cw
    rw [show N - (N - a) = a by omega, show b - (a + b - N + (min a b + 1 - (a + b - N) - 1 - i)) = N - a + b - N + i by omega, show b - (N - a + b - N + i) = a + b - N + (min a b + 1 - (a + b - N) - 1 - i) by omega, Nat.mul_comm]
  rw [e1, e2]
theorem tup_ne {d : D} (h1 : okD 8 d = true) (h2 : nob d = true) : dNe d d = some (.val (.bl false)) := by
  have : eqD d d = true := (eqD_iff d d h2 h2).mpr rfl
  simp only [dNe, h1, this, and_self, ↓reduceIte, Bool.not_true]
theorem tup_eq {d : D} (h1 : okD 8 d = true) (h2 : nob d = true) : dEq d d = some (.val (.bl true)) := by
  have : eqD d d = true := (eqD_iff d d h2 h2).mpr rfl
  simp only [dEq, h1, this, and_self, ↓reduceIte]
theorem lots_ok {p : D} {N : Nat} (hp : Pot N p) (hN : N < 1000) : ∃ p', f__law_are_lots_right [p] = some (.val (.bl true), p') ∧ Pot (N + 4) p' := by
  obtain ⟨u, p1, e1, hp1, hu⟩ := law_of_ok (F := 215285) (G := 7885) (H := 6845) (ds := [.int 8, .int 90]) hp (by decide) (by decide) (by omega)
  obtain ⟨uu, rfl, hu1, hu2⟩ : ∃ i : Nat, u = .int i ∧ 1 ≤ i ∧ i ≤ 90 := by
    simp at hu
    rcases hu with rfl | rfl
    · exact ⟨8, rfl, by decide, by decide⟩
    · exact ⟨90, rfl, by decide, by decide⟩
  obtain ⟨d1, p2, e2, hp2, a1, a2⟩ := law_take_ok (F := 215285) (G := 7885) (H := 6845) (u := (uu : Int)) (m := 10) hp1 (by omega) (by unfold Sz; omega) (by decide) (by omega)
  obtain ⟨n, rfl⟩ : ∃ n : Nat, d1 = n := ⟨d1.toNat, by omega⟩
  obtain ⟨d2, p3, e3, hp3, b1, b2⟩ := law_take_ok (F := 215285) (G := 7885) (H := 6845) (u := ((n + 1 : Nat) : Int)) (m := 10) hp2 (by omega) (by unfold Sz; omega) (by decide) (by omega)
  obtain ⟨d3, p4, e4, hp4, c1, c2⟩ := law_take_ok (F := 215285) (G := 7885) (H := 6845) (u := ((n + 1 : Nat) : Int)) (m := 10) hp3 (by omega) (by unfold Sz; omega) (by decide) (by omega)
  obtain ⟨a', rfl⟩ : ∃ n : Nat, d2 = n := ⟨d2.toNat, by omega⟩
  obtain ⟨b', rfl⟩ : ∃ n : Nat, d3 = n := ⟨d3.toNat, by omega⟩
  refine ⟨p4, ?_, hp4⟩
  have k1 : (2 : Int) + (n : Int) = ((n + 2 : Nat) : Int) := by omega
  have k2 : ((n + 2 : Nat) : Int) - 1 = ((n + 1 : Nat) : Int) := by omega
  have k3 : (1 : Int) + (a' : Int) = ((a' + 1 : Nat) : Int) := by omega
  have k4 : (1 : Int) + (b' : Int) = ((b' + 1 : Nat) : Int) := by omega
  generalize hM : n + 2 = M at *
  generalize hA : a' + 1 = a at *
  generalize hB : b' + 1 = b at *
  have r1 := both_row_ok (a := a) (b := b) (N := M) (by omega) (by omega) (by omega) (by omega) (by omega) (by omega)
  have r2 := both_row_ok (a := b) (b := a) (N := M) (by omega) (by omega) (by omega) (by omega) (by omega) (by omega)
  have r3 := both_row_ok (a := M - a) (b := b) (N := M) (by omega) (by omega) (by omega) (by omega) (by omega) (by omega)
  rw [← rows_rev (by omega) (by omega)] at r3
  rw [rows_symm (by omega) (by omega) _ _ (by omega) (by omega), show b + a - M = a + b - M by omega, show min b a = min a b by omega] at r2
  have r4 := rows_rev (a := a) (b := b) (N := M) (by omega) (by omega)
  have t1 := tup_ne (rows_ok a b M (a + b - M) (min a b + 1 - (a + b - M))) (rows_nob a b M (a + b - M) (min a b + 1 - (a + b - M)))
  have t2 := tup_eq (rows_ok (M - a) b M (M - a + b - M) (min (M - a) b + 1 - (M - a + b - M))) (rows_nob (M - a) b M (M - a + b - M) (min (M - a) b + 1 - (M - a + b - M)))
  rw [← r4] at t2
  have lp := fun x0 x1 x2 x4 => rv_loop b x0 x1 x2 x4 (rows a b M (a + b - M) (min a b + 1 - (a + b - M))).reverse fun d hd => by
    rw [List.mem_reverse] at hd
    unfold rows at hd
    obtain ⟨i, _, rfl⟩ := List.mem_map.mp hd
    exact ⟨_, _, rfl⟩
  have ll : (rows a b M (a + b - M) (min a b + 1 - (a + b - M))).reverse.length ≤ 16777216 := by rw [List.length_reverse, rows_len]; omega
  have k5 : (M : Int) - (a : Int) = ((M - a : Nat) : Int) := by omega
  have k6 : decide ((a : Int) < (M : Int)) = true := by simp; omega
  simp only [f__law_are_lots_right, b__law_are_lots_right, kSeq_1, kSeq_2, kSeq_3, kSeq_4, kSet_1, kNx_1, kPar_1, kd2_1, kd1_1, kIf_1, kIf_2, kRt_1, kEx_1, kVar_1, kVar_2, kMov_1, kMov_2, kfz_1, kfz_2, kc_1, k1_1, k2b_1, k2a_1, kt_1, kn_1, kAnd_1, kAnd_2, kOr_1, kOr_2, kmA_1, kmA_2, kmO_1, kmO_2, kmI_1, kmI_2, kh4_1, kh3_1, kh3_2, kh2_1, kh1_1, kcb_1, kca_1, kL5_1, kL4_1, kL3_1, kL2_1, kL1_1, kl2_1, kl1_1, kl3_1, kr_1, krs_1, krs_2, kput_1, kput_2, kpk_1, klst_1, klst_2, kbor_1, ka2_1, ka1_1, ktup_1, kls_1, kB_1, kx3_1, kx2_1, kx1_1, kx4_1, kis2_1, kis_1, kp_1, ks3_1, ks2_1, ks1_1, kF_1, kF2_1, kF2_2, kF2_3, kF2_4, kF1_1, kW2_1, kW2_2, kW2_3, kW2_4, kW_1, kW_2, kg_1, ksa_1, ki_1, ki_2, ki_3, kap2_1, kap_1, ksx4_1, ksx3_1, ksx2_1, ksx1_1, kat_1, ko_1, kfin_1, kfin_2, klc2_1, klc_1, kC4_1, kC3_1, kC2_1, kC2_2, kC1_1, ksum_1, kst2_1, kst_1, kst_2, kRev_1, kRev_2, krg_1, krg2_1, krg1_1, kav_1, kav_2, krc_1, runFn_a, out_n, out_s, ini_a, iniL_n, iniL_0, iniL_e, sSeq_a, sSet_a, sPar_a, dNil_a, dCons_a, setAll_n, setAll_c, sIf_a, sRet_a, sExpr_a, sNext_a, sBreak_a, sCont_a, mC_a, mVar_a, mMove_a, fz_a, m1_a, m2_a, tst_a, tNot_a, tAnd_a, tOr_a, tYes_a, mAnd_a, mOr_a, mIf_a, mChain_a, mCall_a, mCallL_a, lNil_a, lCons_a, lLend_a, res_e, res_v, res_s, slot_0, slot_s, put_a, peek_a, lstAt_a, get_v, get_o, get_b, aNil_a, aCons_a, aStar_a, mTup_a, mLst_a, mB_a, mIxS_a, mLenS_a, mIsi_a, pNone_a, pSome_a, mSl_a, sFor_a, forL_n, forL_c, whN_s, gN_a, gT_a, gsC_a, gsN_a, sAsg_a, iSeq_a, sApp_a, sSetIx_a, mLc_a, lcL_n, lcL_c, wipe_n, wipe_c, rest_n, rest_c, allVal_n, allVal_c, mRev_a, mLRg_a, mLRg2_a, lt_int, le_int, gt_int, ge_int, sub_int, add_int, mod_int, fdiv_int, pow_int', mul_ok, eq_int, ne_int, neg_int, not_bl, abs_int, int_int, int_bl, max_2, min_2, max_3, min_3, len_l, len_t, len_s, lenB_l, lenB_t, lenB_s, ix_s, ixV_a, tuple_l, tuple_t, list_l, list_t, sum_l, all_l, any_l, isi_int, isi_bool, isi_tup, ix_fr0, ix_fr1, mul_l, cat_l, cat_t, sl_l, sl_t, sl_s, line, Nat.one_ne_zero, Nat.reduceEqDiff, reduceCtorEq, Bool.not_true, Bool.not_false, decide_true, decide_false, Bool.and_self, Bool.and_true, Bool.true_and, List.length_cons, List.length_nil, List.replicate, List.append_nil, List.cons_append, List.nil_append, Nat.reduceAdd, Nat.reduceSub, List.getElem?_cons_succ, List.getElem?_cons_zero, Nat.sub_self, List.set_cons_succ, List.set_cons_zero, ↓reduceIte, Nat.reduceLeDiff, Nat.reduceLT, e__law_take, e__law_of, e1, e2, e3, e4, k1, k2, k3, k4, k5, k6, r1, r2, r3, t1, t2, lp, ll, and_self, Nat.reduceLeDiff, Nat.zero_le]
end
end Wk61

set_option Elab.async false
set_option linter.all false
set_option maxRecDepth 100000
namespace Wk61
open PySem Cb Mk61
noncomputable section
theorem part_0 : fr ((1 : Rat) / 20) = .tup [.int 1, .int 20] := by
  unfold fr; rw [(by decide +kernel : ((1 : Rat) / 20).num = 1), (by decide +kernel : ((1 : Rat) / 20).den = 20)]; rfl
theorem part_1 : fr ((1 : Rat) / 4) = .tup [.int 1, .int 4] := by
  unfold fr; rw [(by decide +kernel : ((1 : Rat) / 4).num = 1), (by decide +kernel : ((1 : Rat) / 4).den = 4)]; rfl
theorem part_2 : fr ((1 : Rat) / 2) = .tup [.int 1, .int 2] := by
  unfold fr; rw [(by decide +kernel : ((1 : Rat) / 2).num = 1), (by decide +kernel : ((1 : Rat) / 2).den = 2)]; rfl
theorem part_3 : fr ((0 : Rat) / 1) = .tup [.int 0, .int 1] := by
  unfold fr; rw [(by decide +kernel : ((0 : Rat) / 1).num = 0), (by decide +kernel : ((0 : Rat) / 1).den = 1)]; rfl
theorem part_4 : fr ((9 : Rat) / 10) = .tup [.int 9, .int 10] := by
  unfold fr; rw [(by decide +kernel : ((9 : Rat) / 10).num = 9), (by decide +kernel : ((9 : Rat) / 10).den = 10)]; rfl
theorem part_5 : fr ((1 : Rat) / 3) = .tup [.int 1, .int 3] := by
  unfold fr; rw [(by decide +kernel : ((1 : Rat) / 3).num = 1), (by decide +kernel : ((1 : Rat) / 3).den = 3)]; rfl
theorem part_6 : fr ((1 : Rat) / 100) = .tup [.int 1, .int 100] := by
  unfold fr; rw [(by decide +kernel : ((1 : Rat) / 100).num = 1), (by decide +kernel : ((1 : Rat) / 100).den = 100)]; rfl
theorem part_7 : fr ((2 : Rat) / 7) = .tup [.int 2, .int 7] := by
  unfold fr; rw [(by decide +kernel : ((2 : Rat) / 7).num = 2), (by decide +kernel : ((2 : Rat) / 7).den = 7)]; rfl
def parts : List Rat := [((1 : Rat) / 20), ((1 : Rat) / 4), ((1 : Rat) / 2), ((0 : Rat) / 1), ((9 : Rat) / 10), ((1 : Rat) / 3), ((1 : Rat) / 100), ((2 : Rat) / 7)]
theorem parts_eq : [.tup [.int 1, .int 20], .tup [.int 1, .int 4], .tup [.int 1, .int 2], .tup [.int 0, .int 1], .tup [.int 9, .int 10], .tup [.int 1, .int 3], .tup [.int 1, .int 100], .tup [.int 2, .int 7]] = parts.map fr := by
  simp only [parts, List.map_cons, List.map_nil, part_0, part_1, part_2, part_3, part_4, part_5, part_6, part_7]
theorem parts_ok : ∀ s ∈ parts, Fs 98 s ∧ 0 ≤ s ∧ s < 1 := by
  intro s hs
  simp only [parts, List.mem_cons, List.not_mem_nil, or_false] at hs
  rcases hs with rfl | rfl | rfl | rfl | rfl | rfl | rfl | rfl <;> exact ⟨⟨by decide +kernel, by decide +kernel⟩, by decide +kernel, by decide +kernel⟩
theorem part_ok {p : D} {N : Nat} (hp : Pot N p) (hN : N < 1000) : ∃ (s : Rat) (p' : D), f__law_part [p] = some (.val (fr s), p') ∧ Pot (N + 1) p' ∧ Fs 98 s ∧ 0 ≤ s ∧ s < 1 := by
  obtain ⟨u, p1, e1, hp1, hu⟩ := law_of_ok (F := 215285) (G := 7885) (H := 6845) (ds := [.tup [.int 1, .int 20], .tup [.int 1, .int 4], .tup [.int 1, .int 2], .tup [.int 0, .int 1], .tup [.int 9, .int 10], .tup [.int 1, .int 3], .tup [.int 1, .int 100], .tup [.int 2, .int 7]]) hp (by simp) (by simp) (by omega)
  have hu' := hu
  rw [parts_eq] at hu'
  obtain ⟨s, hs, rfl⟩ := List.mem_map.mp hu'
  obtain ⟨h1, h2, h3⟩ := parts_ok s hs
  refine ⟨s, p1, ?_, hp1, h1, h2, h3⟩
  simp only [f__law_part, b__law_part, kSeq_1, kSeq_2, kSeq_3, kSeq_4, kSet_1, kNx_1, kPar_1, kd2_1, kd1_1, kIf_1, kIf_2, kRt_1, kEx_1, kVar_1, kVar_2, kMov_1, kMov_2, kfz_1, kfz_2, kc_1, k1_1, k2b_1, k2a_1, kt_1, kn_1, kAnd_1, kAnd_2, kOr_1, kOr_2, kmA_1, kmA_2, kmO_1, kmO_2, kmI_1, kmI_2, kh4_1, kh3_1, kh3_2, kh2_1, kh1_1, kcb_1, kca_1, kL5_1, kL4_1, kL3_1, kL2_1, kL1_1, kl2_1, kl1_1, kl3_1, kr_1, krs_1, krs_2, kput_1, kput_2, kpk_1, klst_1, klst_2, kbor_1, ka2_1, ka1_1, ktup_1, kls_1, kB_1, kx3_1, kx2_1, kx1_1, kx4_1, kis2_1, kis_1, kp_1, ks3_1, ks2_1, ks1_1, kF_1, kF2_1, kF2_2, kF2_3, kF2_4, kF1_1, kW2_1, kW2_2, kW2_3, kW2_4, kW_1, kW_2, kg_1, ksa_1, ki_1, ki_2, ki_3, kap2_1, kap_1, ksx4_1, ksx3_1, ksx2_1, ksx1_1, kat_1, ko_1, kfin_1, kfin_2, klc2_1, klc_1, kC4_1, kC3_1, kC2_1, kC2_2, kC1_1, ksum_1, kst2_1, kst_1, kst_2, kRev_1, kRev_2, krg_1, krg2_1, krg1_1, kav_1, kav_2, krc_1, runFn_a, out_n, out_s, ini_a, iniL_n, iniL_0, iniL_e, sSeq_a, sSet_a, sPar_a, dNil_a, dCons_a, setAll_n, setAll_c, sIf_a, sRet_a, sExpr_a, sNext_a, sBreak_a, sCont_a, mC_a, mVar_a, mMove_a, fz_a, m1_a, m2_a, tst_a, tNot_a, tAnd_a, tOr_a, tYes_a, mAnd_a, mOr_a, mIf_a, mChain_a, mCall_a, mCallL_a, lNil_a, lCons_a, lLend_a, res_e, res_v, res_s, slot_0, slot_s, put_a, peek_a, lstAt_a, get_v, get_o, get_b, aNil_a, aCons_a, aStar_a, mTup_a, mLst_a, mB_a, mIxS_a, mLenS_a, mIsi_a, pNone_a, pSome_a, mSl_a, sFor_a, forL_n, forL_c, whN_s, gN_a, gT_a, gsC_a, gsN_a, sAsg_a, iSeq_a, sApp_a, sSetIx_a, mLc_a, lcL_n, lcL_c, wipe_n, wipe_c, rest_n, rest_c, allVal_n, allVal_c, mRev_a, mLRg_a, mLRg2_a, lt_int, le_int, gt_int, ge_int, sub_int, add_int, mod_int, fdiv_int, pow_int', mul_ok, eq_int, ne_int, neg_int, not_bl, abs_int, int_int, int_bl, max_2, min_2, max_3, min_3, len_l, len_t, len_s, lenB_l, lenB_t, lenB_s, ix_s, ixV_a, tuple_l, tuple_t, list_l, list_t, sum_l, all_l, any_l, isi_int, isi_bool, isi_tup, ix_fr0, ix_fr1, mul_l, cat_l, cat_t, sl_l, sl_t, sl_s, line, Nat.one_ne_zero, Nat.reduceEqDiff, reduceCtorEq, Bool.not_true, Bool.not_false, decide_true, decide_false, Bool.and_self, Bool.and_true, Bool.true_and, List.length_cons, List.length_nil, List.replicate, List.append_nil, List.cons_append, List.nil_append, Nat.reduceAdd, Nat.reduceSub, List.getElem?_cons_succ, List.getElem?_cons_zero, Nat.sub_self, List.set_cons_succ, List.set_cons_zero, ↓reduceIte, Nat.reduceLeDiff, Nat.reduceLT, e__law_of, e1, Nat.reduceLeDiff, Nat.zero_le]
def body : MS := (sSeq (sSet 2 (mCall f__law_pot (aCons (mVar 0) (aCons (mVar 1) aNil))))
    (sSeq (sPar [3, 4] (dCons (m2 dAdd (mC (.int 1)) (mB dInt (aCons (mCallL 0 f__law_take (lLend 2 (lCons (mCallL 0 f__law_of (lLend 2 (lCons (mLst (aCons (mC (.int 5)) (aCons (mC (.int 40)) aNil))) lNil))) lNil))) aNil))) (dCons (m2 dAdd (mC (.int 1)) (mB dInt (aCons (mCallL 0 f__law_take (lLend 2 (lCons (mCallL 0 f__law_of (lLend 2 (lCons (mLst (aCons (mC (.int 4)) (aCons (mC (.int 100)) (aCons (mC (.int 1000)) aNil)))) lNil))) lNil))) aNil))) dNil)))
    (sIf (tOrm (tNotm (tst (mCallL 0 f__law_are_chances_right (lLend 2 (lCons (mVar 3) (lCons (mVar 4) lNil)))))) (tOrm (tNotm (tst (mCallL 0 f__law_are_ends_right (lLend 2 (lCons (mVar 3) (lCons (mVar 4) (lCons (mCallL 0 f__law_part (lLend 2 lNil)) lNil))))))) (tNotm (tst (mCallL 0 f__law_are_lots_right (lLend 2 lNil)))))) (sRet (mC (.bl false))) sNext)))
theorem body_ok (ns : List Int) (pl : Nat) (h : pl < ns.length ∨ ns.length = 0 ∧ pl = 0) (hl : ns.length < 100) (o2 o3 o4 : Option DV) : ∃ q2 q3 q4, body [some (.val (.scr ns)), some (.val (.int pl)), o2, o3, o4] = some (.nx [some (.val (.scr ns)), some (.val (.int pl)), q2, q3, q4]) := by
  obtain ⟨p, e0, hp⟩ := law_pot_ok (A := 9331) (B := 20819) (C := 164305) (F := 23563) (G := 7287) ns pl h hl
  obtain ⟨u, p1, e1, hp1, hu⟩ := law_of_ok (F := 215285) (G := 7885) (H := 6845) (ds := [.int 5, .int 40]) hp (by decide) (by decide) (by omega)
  obtain ⟨uu, rfl, hu1, hu2⟩ : ∃ i : Nat, u = .int i ∧ 1 ≤ i ∧ i ≤ 40 := by
    simp at hu
    rcases hu with rfl | rfl
    · exact ⟨5, rfl, by decide, by decide⟩
    · exact ⟨40, rfl, by decide, by decide⟩
  obtain ⟨d1, p2, e2, hp2, a1, a2⟩ := law_take_ok (F := 215285) (G := 7885) (H := 6845) (u := (uu : Int)) (m := 10) hp1 (by omega) (by unfold Sz; omega) (by decide) (by omega)
  obtain ⟨v, p3, e3, hp3, hv⟩ := law_of_ok (F := 215285) (G := 7885) (H := 6845) (ds := [.int 4, .int 100, .int 1000]) hp2 (by decide) (by decide) (by omega)
  obtain ⟨vv, rfl, hv1, hv2⟩ : ∃ i : Nat, v = .int i ∧ 1 ≤ i ∧ i ≤ 1000 := by
    simp at hv
    rcases hv with rfl | rfl | rfl
    · exact ⟨4, rfl, by decide, by decide⟩
    · exact ⟨100, rfl, by decide, by decide⟩
    · exact ⟨1000, rfl, by decide, by decide⟩
  obtain ⟨d2, p4, e4, hp4, b1, b2⟩ := law_take_ok (F := 215285) (G := 7885) (H := 6845) (u := (vv : Int)) (m := 10) hp3 (by omega) (by unfold Sz; omega) (by decide) (by omega)
  obtain ⟨f', rfl⟩ : ∃ n : Nat, d1 = n := ⟨d1.toNat, by omega⟩
  obtain ⟨l', rfl⟩ : ∃ n : Nat, d2 = n := ⟨d2.toNat, by omega⟩
  have k1 : (1 : Int) + (f' : Int) = ((f' + 1 : Nat) : Int) := by omega
  have k2 : (1 : Int) + (l' : Int) = ((l' + 1 : Nat) : Int) := by omega
  obtain ⟨p5, e5, hp5⟩ := chances_ok (f := f' + 1) (l := l' + 1) hp4 (by omega) (by omega) (by omega) (by omega) (by omega)
  obtain ⟨s, p6, e6, hp6, s1, s2, s3⟩ := part_ok hp5 (by omega)
  obtain ⟨p7, e7, hp7⟩ := ends_ok (f := f' + 1) (l := l' + 1) hp6 (by omega) (by omega) (by omega) (by omega) (by omega) s1 s2 s3
  obtain ⟨p8, e8, hp8⟩ := lots_ok hp7 (by omega)
  refine ⟨some (.own p8), some (.val (.int (f' + 1 : Nat))), some (.val (.int (l' + 1 : Nat))), ?_⟩
  simp only [body, kSeq_1, kSeq_2, kSeq_3, kSeq_4, kSet_1, kNx_1, kPar_1, kd2_1, kd1_1, kIf_1, kIf_2, kRt_1, kEx_1, kVar_1, kVar_2, kMov_1, kMov_2, kfz_1, kfz_2, kc_1, k1_1, k2b_1, k2a_1, kt_1, kn_1, kAnd_1, kAnd_2, kOr_1, kOr_2, kmA_1, kmA_2, kmO_1, kmO_2, kmI_1, kmI_2, kh4_1, kh3_1, kh3_2, kh2_1, kh1_1, kcb_1, kca_1, kL5_1, kL4_1, kL3_1, kL2_1, kL1_1, kl2_1, kl1_1, kl3_1, kr_1, krs_1, krs_2, kput_1, kput_2, kpk_1, klst_1, klst_2, kbor_1, ka2_1, ka1_1, ktup_1, kls_1, kB_1, kx3_1, kx2_1, kx1_1, kx4_1, kis2_1, kis_1, kp_1, ks3_1, ks2_1, ks1_1, kF_1, kF2_1, kF2_2, kF2_3, kF2_4, kF1_1, kW2_1, kW2_2, kW2_3, kW2_4, kW_1, kW_2, kg_1, ksa_1, ki_1, ki_2, ki_3, kap2_1, kap_1, ksx4_1, ksx3_1, ksx2_1, ksx1_1, kat_1, ko_1, kfin_1, kfin_2, klc2_1, klc_1, kC4_1, kC3_1, kC2_1, kC2_2, kC1_1, ksum_1, kst2_1, kst_1, kst_2, kRev_1, kRev_2, krg_1, krg2_1, krg1_1, kav_1, kav_2, krc_1, runFn_a, out_n, out_s, ini_a, iniL_n, iniL_0, iniL_e, sSeq_a, sSet_a, sPar_a, dNil_a, dCons_a, setAll_n, setAll_c, sIf_a, sRet_a, sExpr_a, sNext_a, sBreak_a, sCont_a, mC_a, mVar_a, mMove_a, fz_a, m1_a, m2_a, tst_a, tNot_a, tAnd_a, tOr_a, tYes_a, mAnd_a, mOr_a, mIf_a, mChain_a, mCall_a, mCallL_a, lNil_a, lCons_a, lLend_a, res_e, res_v, res_s, slot_0, slot_s, put_a, peek_a, lstAt_a, get_v, get_o, get_b, aNil_a, aCons_a, aStar_a, mTup_a, mLst_a, mB_a, mIxS_a, mLenS_a, mIsi_a, pNone_a, pSome_a, mSl_a, sFor_a, forL_n, forL_c, whN_s, gN_a, gT_a, gsC_a, gsN_a, sAsg_a, iSeq_a, sApp_a, sSetIx_a, mLc_a, lcL_n, lcL_c, wipe_n, wipe_c, rest_n, rest_c, allVal_n, allVal_c, mRev_a, mLRg_a, mLRg2_a, lt_int, le_int, gt_int, ge_int, sub_int, add_int, mod_int, fdiv_int, pow_int', mul_ok, eq_int, ne_int, neg_int, not_bl, abs_int, int_int, int_bl, max_2, min_2, max_3, min_3, len_l, len_t, len_s, lenB_l, lenB_t, lenB_s, ix_s, ixV_a, tuple_l, tuple_t, list_l, list_t, sum_l, all_l, any_l, isi_int, isi_bool, isi_tup, ix_fr0, ix_fr1, mul_l, cat_l, cat_t, sl_l, sl_t, sl_s, line, Nat.one_ne_zero, Nat.reduceEqDiff, reduceCtorEq, Bool.not_true, Bool.not_false, decide_true, decide_false, Bool.and_self, Bool.and_true, Bool.true_and, List.length_cons, List.length_nil, List.replicate, List.append_nil, List.cons_append, List.nil_append, Nat.reduceAdd, Nat.reduceSub, List.getElem?_cons_succ, List.getElem?_cons_zero, Nat.sub_self, List.set_cons_succ, List.set_cons_zero, ↓reduceIte, Nat.reduceLeDiff, Nat.reduceLT, e__law_pot, e__law_take, e__law_of, e0, e1, e2, e3, e4, e5, e6, e7, e8, k1, k2, Nat.reduceLeDiff, Nat.zero_le]
theorem loop_ok (ns : List Int) (hl : ns.length < 100) : ∀ (k j : Nat) (o1 o2 o3 o4 : Option DV), j + k ≤ max 1 (min 2 ns.length) → ∃ q1 q2 q3 q4, forL (gN 1) body (rangeD (j : Int) k) [some (.val (.scr ns)), o1, o2, o3, o4] = some (.nx [some (.val (.scr ns)), q1, q2, q3, q4])
  | 0, j, o1, o2, o3, o4, _ => ⟨o1, o2, o3, o4, by simp only [rangeD_0, forL_n]⟩
  | k + 1, j, o1, o2, o3, o4, h => by
    obtain ⟨q2, q3, q4, hb⟩ := body_ok ns j (by omega) hl o2 o3 o4
    obtain ⟨r1, r2, r3, r4, ih⟩ := loop_ok ns hl k (j + 1) (some (.val (.int j))) q2 q3 q4 (by omega)
    refine ⟨r1, r2, r3, r4, ?_⟩
    rw [rangeD_s, show (j : Int) + 1 = ((j + 1 : Nat) : Int) by omega, ← ih]
    simp only [forL_c, gN_a, Nat.one_ne_zero, Nat.reduceEqDiff, reduceCtorEq, Bool.not_true, Bool.not_false, decide_true, decide_false, Bool.and_self, Bool.and_true, Bool.true_and, List.length_cons, List.length_nil, List.replicate, List.append_nil, List.cons_append, List.nil_append, Nat.reduceAdd, Nat.reduceSub, List.getElem?_cons_succ, List.getElem?_cons_zero, Nat.sub_self, List.set_cons_succ, List.set_cons_zero, ↓reduceIte, Nat.reduceLeDiff, Nat.reduceLT, kF1_1, hb, kF2_1]
theorem plain (ns : List Int) (h : ns.length ≤ 63) : f_law [.scr ns] = some (.val (.bl true), .non) := by
  obtain ⟨q1, q2, q3, q4, hb⟩ := loop_ok ns (by omega) (max 1 (min 2 ns.length)) 0 none none none none (by omega)
  have hc := law_cells_ok ns 2 (by decide) (by omega)
  have e : b_law = (sSeq (sFor (iSeq (mCall f__law_cells (aCons (mVar 0) (aCons (mC (.int 2)) aNil)))) (gN 1) body) (sRet (mC (.bl true)))) := rfl
  have k0 : ((0 : Nat) : Int) = 0 := rfl
  have k2 : ((2 : Nat) : Int) = 2 := rfl
  rw [k0] at hb
  rw [k2] at hc
  simp only [f_law, e, kSeq_1, kSeq_2, kSeq_3, kSeq_4, kSet_1, kNx_1, kPar_1, kd2_1, kd1_1, kIf_1, kIf_2, kRt_1, kEx_1, kVar_1, kVar_2, kMov_1, kMov_2, kfz_1, kfz_2, kc_1, k1_1, k2b_1, k2a_1, kt_1, kn_1, kAnd_1, kAnd_2, kOr_1, kOr_2, kmA_1, kmA_2, kmO_1, kmO_2, kmI_1, kmI_2, kh4_1, kh3_1, kh3_2, kh2_1, kh1_1, kcb_1, kca_1, kL5_1, kL4_1, kL3_1, kL2_1, kL1_1, kl2_1, kl1_1, kl3_1, kr_1, krs_1, krs_2, kput_1, kput_2, kpk_1, klst_1, klst_2, kbor_1, ka2_1, ka1_1, ktup_1, kls_1, kB_1, kx3_1, kx2_1, kx1_1, kx4_1, kis2_1, kis_1, kp_1, ks3_1, ks2_1, ks1_1, kF_1, kF2_1, kF2_2, kF2_3, kF2_4, kF1_1, kW2_1, kW2_2, kW2_3, kW2_4, kW_1, kW_2, kg_1, ksa_1, ki_1, ki_2, ki_3, kap2_1, kap_1, ksx4_1, ksx3_1, ksx2_1, ksx1_1, kat_1, ko_1, kfin_1, kfin_2, klc2_1, klc_1, kC4_1, kC3_1, kC2_1, kC2_2, kC1_1, ksum_1, kst2_1, kst_1, kst_2, kRev_1, kRev_2, krg_1, krg2_1, krg1_1, kav_1, kav_2, krc_1, runFn_a, out_n, out_s, ini_a, iniL_n, iniL_0, iniL_e, sSeq_a, sSet_a, sPar_a, dNil_a, dCons_a, setAll_n, setAll_c, sIf_a, sRet_a, sExpr_a, sNext_a, sBreak_a, sCont_a, mC_a, mVar_a, mMove_a, fz_a, m1_a, m2_a, tst_a, tNot_a, tAnd_a, tOr_a, tYes_a, mAnd_a, mOr_a, mIf_a, mChain_a, mCall_a, mCallL_a, lNil_a, lCons_a, lLend_a, res_e, res_v, res_s, slot_0, slot_s, put_a, peek_a, lstAt_a, get_v, get_o, get_b, aNil_a, aCons_a, aStar_a, mTup_a, mLst_a, mB_a, mIxS_a, mLenS_a, mIsi_a, pNone_a, pSome_a, mSl_a, sFor_a, forL_n, forL_c, whN_s, gN_a, gT_a, gsC_a, gsN_a, sAsg_a, iSeq_a, sApp_a, sSetIx_a, mLc_a, lcL_n, lcL_c, wipe_n, wipe_c, rest_n, rest_c, allVal_n, allVal_c, mRev_a, mLRg_a, mLRg2_a, lt_int, le_int, gt_int, ge_int, sub_int, add_int, mod_int, fdiv_int, pow_int', mul_ok, eq_int, ne_int, neg_int, not_bl, abs_int, int_int, int_bl, max_2, min_2, max_3, min_3, len_l, len_t, len_s, lenB_l, lenB_t, lenB_s, ix_s, ixV_a, tuple_l, tuple_t, list_l, list_t, sum_l, all_l, any_l, isi_int, isi_bool, isi_tup, ix_fr0, ix_fr1, mul_l, cat_l, cat_t, sl_l, sl_t, sl_s, line, Nat.one_ne_zero, Nat.reduceEqDiff, reduceCtorEq, Bool.not_true, Bool.not_false, decide_true, decide_false, Bool.and_self, Bool.and_true, Bool.true_and, List.length_cons, List.length_nil, List.replicate, List.append_nil, List.cons_append, List.nil_append, Nat.reduceAdd, Nat.reduceSub, List.getElem?_cons_succ, List.getElem?_cons_zero, Nat.sub_self, List.set_cons_succ, List.set_cons_zero, ↓reduceIte, Nat.reduceLeDiff, Nat.reduceLT, e__law_cells, hc, hb, Nat.reduceLeDiff, Nat.zero_le]
end
end Wk61

set_option Elab.async false
set_option linter.all false
set_option maxRecDepth 100000
set_option maxHeartbeats 0
namespace Wk61
open PySem PySem.Spec PyProof.Rows L2 He Cb
def names0 : List PySem.Str := ["is_tuple", "is_whole", "is_integer", "CatchError", "BadShare", "BadNumber", "common_of", "whole_power", "is_size", "is_fraction", "is_share", "ratio_of", "is_below", "choose_of", "check_part", "check_fresh", "check_low", "new_from", "least_top", "greatest_top"]
def names1 : List PySem.Str := ["least_unseen_share", "greatest_unseen_share", "unseen_stretch", "new_chance", "check_two", "both_row", "_law_pot", "_law_take", "_law_of", "_law_cells", "_law_gcd", "_law_ratio", "_law_plus", "_law_below", "_law_part", "_law_rest", "_law_are_chances_right", "_law_are_ends_right", "_law_are_lots_right", "__name__"]
def names2 : List PySem.Str := ["PAIR", "MOST_SIZE_fractions", "ONE_WHOLE", "MOST_SIZE_histories", "MOST_THERE", "MOST_FRESH", "MOST_LOW"]
def names : List PySem.Str := names0 ++ names1 ++ names2
abbrev R : PySem.W.OpenRow := PySem.W.OpenLaw.row PySem.Challenge.rw_caughtbefore_k61_whole_fresh_draws_mirro
abbrev hk : PySem.W.Hook := hookC 4 fa cs fn
def ob (s : PySem.W.SharedT) : AlC := obsCG 4 fa cs fn (HandSHeadRun.getT s)
theorem ob_eq (s : PySem.W.SharedT) : ob s = hk.obs s.abs := obsCG_eq (HandSHeadRun.getT_eq s)
theorem run (w : World) : HandSHeadRun.RunEq R (PySem.W.view R.prog [54]) hk ob 3000 names w := by
  intro os
  kernel_rfl
end Wk61
open PySem PySem.W PySem.Calls PyProof.Rows
theorem PySem.Challenge.cw_caughtbefore_k61_whole_fresh_draws_mirro_holds : PySem.Challenge.rw_caughtbefore_k61_whole_fresh_draws_mirro.Holds := by
  w_on; o_law
  refine HandSHeadRun.head_any (r := OpenLaw.row PySem.Challenge.rw_caughtbefore_k61_whole_fresh_draws_mirro) (q := view (OpenLaw.row PySem.Challenge.rw_caughtbefore_k61_whole_fresh_draws_mirro).prog [54]) (H := Wk61.hk) (ob := Wk61.ob) (M := 3000) (loose := Wk61.names) (d := HandSHeadRun.topDef (OpenLaw.row PySem.Challenge.rw_caughtbefore_k61_whole_fresh_draws_mirro).prog 54) (kwd := []) Wk61.ob_eq
    (by kernel_rfl) (fun s => by kernel_rfl) Wk61.run (by kernel_rfl) (by kernel_rfl) (by kernel_rfl) (by rfl) (by first | assumption | decide +kernel) (by decide +kernel) ⟨rfl, rfl, rfl, rfl, rfl, by decide +kernel⟩ ?hw ?hc
  case hw => w_witness2
  case hc =>
    refine L2.walk_ofE (l := PySem.Challenge.rw_caughtbefore_k61_whole_fresh_draws_mirro) (n := 63) (k := 8) (x := "script") (CX := L2.CX0) rfl (by decide) (by kernel_rfl) ⟨rfl, by decide, by decide⟩ ?F (fun _ _ _ _ z => z)
    intro w mg fa h Y G hmg0
    obtain ⟨K, KX, c⟩ := Y
    have hmg : mg ("law" : PySem.Str) = some (.ref fa) := by
      have e : (HandSHeadRun.topDef (OpenLaw.row PySem.Challenge.rw_caughtbefore_k61_whole_fresh_draws_mirro).prog 54).name = ("law" : PySem.Str) := by kernel_rfl
      rw [← e]
      exact hmg0
    obtain ⟨fd, hb, hF⟩ := Wk61.lawFn (w := w) KX G hmg c
    exact ⟨K, fd, Cb.spF K none 1 Wk61.f_law, KX, hb, fun H a ns hl _ hS => Cb.law_sp (P := PySem.Challenge.pw_caughtbefore_k61_whole_fresh_draws_mirro) (w := w) (mg := mg) (base := h) (Wk61.plain ns hl) hS, hF⟩
