import PyProof.Rows.All
import Wide.All
import OpenK.AllK
import Wide.FinOn
import HandS.ForMost
import HandS.Zip
import HandS.Conv
import HandS.Flow
import HandS.Star
import HandS.Deep
import HandS.TupAny
import HandS.Records
import HandS.IsInst
import HandS.New0
import KE.KDictZip
import KE.SortData
import HandS.SortOrd
import KE.DataEq
import KE.KEqNest
import HandS.Codes
import KE.KEqSeq
import KE.KEqDeep
import PySem.Challenge.RW_shadowplays_k21_trees_of_cases
set_option Elab.async false
set_option linter.all false
set_option maxRecDepth 100000
namespace DS
open PySem PySem.Spec L2

/-- a value as plain data -/
inductive D where
  | non | bl (b : Bool) | int (i : Int) | str (s : Str)
  | tup (xs : List D) | lst (xs : List D)
  | dk (kvs : List (Key × D)) | dt (kvs : List (List Key × D))
  | obj (C : Addr) | scr (ns : List Int)
instance : Inhabited D := ⟨.non⟩

mutual
/-- v stands for the data in the frozen heap G (a frozen dict is locked) -/
def Rep (K : PySem.W.Frag) (G : Hp) : D → V → Prop
  | .non, v => v = .non
  | .bl b, v => v = .bl b
  | .int i, v => v = .int i
  | .str s, v => v = .str s
  | .tup ds, v => ∃ a vs, v = .ref a ∧ SqT K G a vs ∧ Reps K G ds vs
  | .lst ds, v => ∃ a vs, v = .ref a ∧ G a = some (.lst vs) ∧ Reps K G ds vs
  | .dk ks, v => ∃ a o vs, v = .ref a ∧ G a = some (.frz o (.dK vs)) ∧ RepK K G ks vs
  | .dt ks, v => ∃ a o vs, v = .ref a ∧ G a = some (.frz o (.dT vs)) ∧ RepT K G ks vs
  | .obj C, v => ∃ a dx, v = .ref a ∧ G a = some (.ins C dx [])
  | .scr ns, v => ∃ a, v = .ref a ∧ SqL K G a (ns.map V.int)
def Reps (K : PySem.W.Frag) (G : Hp) : List D → List V → Prop
  | [], vs => vs = []
  | d :: ds, vs => ∃ v r, vs = v :: r ∧ Rep K G d v ∧ Reps K G ds r
def RepK (K : PySem.W.Frag) (G : Hp) : List (Key × D) → List (Key × V) → Prop
  | [], vs => vs = []
  | (k, d) :: ds, vs => ∃ v r, vs = (k, v) :: r ∧ Rep K G d v ∧ RepK K G ds r
def RepT (K : PySem.W.Frag) (G : Hp) : List (List Key × D) → List (List Key × V) → Prop
  | [], vs => vs = []
  | (k, d) :: ds, vs => ∃ v r, vs = (k, v) :: r ∧ Rep K G d v ∧ RepT K G ds r
end

/-- H holds what G holds -/
def Le (G H : Hp) : Prop := ∀ a u, G a = some u → H a = some u
theorem Le.refl (G : Hp) : Le G G := fun _ _ h => h
theorem Le.trans {G H J : Hp} (a : Le G H) (b : Le H J) : Le G J := fun x u h => b x u (a x u h)
theorem Le.rd {G H : Hp} (l : Le G H) {a : Addr} {u : HO} (h : Rd G a u) : Rd H a u := by
  rcases h with h | ⟨o, h⟩
  · exact .inl (l _ _ h)
  · exact .inr ⟨o, l _ _ h⟩
theorem Le.sqL {K : PySem.W.Frag} {G H : Hp} (l : Le G H) {a : Addr} {vs : List V} (h : SqL K G a vs) : SqL K H a vs := by
  rcases h with h | h
  · exact .inl (l.rd h)
  · exact .inr h
theorem Le.sqT {K : PySem.W.Frag} {G H : Hp} (l : Le G H) {a : Addr} {vs : List V} (h : SqT K G a vs) : SqT K H a vs := by
  rcases h with h | h
  · exact .inl (l.rd h)
  · exact .inr h
mutual
theorem Rep.le {K : PySem.W.Frag} {G H : Hp} (l : Le G H) : ∀ {d : D} {v : V}, Rep K G d v → Rep K H d v
  | .non, _, h => by simp only [Rep] at h ⊢; exact h
  | .bl _, _, h => by simp only [Rep] at h ⊢; exact h
  | .int _, _, h => by simp only [Rep] at h ⊢; exact h
  | .str _, _, h => by simp only [Rep] at h ⊢; exact h
  | .tup ds, _, h => by
    simp only [Rep] at h ⊢
    obtain ⟨a, vs, e, h1, h2⟩ := h
    exact ⟨a, vs, e, l.sqT h1, Reps.le l h2⟩
  | .lst ds, _, h => by
    simp only [Rep] at h ⊢
    obtain ⟨a, vs, e, h1, h2⟩ := h
    exact ⟨a, vs, e, l _ _ h1, Reps.le l h2⟩
  | .dk ds, _, h => by
    simp only [Rep] at h ⊢
    obtain ⟨a, o, vs, e, h1, h2⟩ := h
    exact ⟨a, o, vs, e, l _ _ h1, RepK.le l h2⟩
  | .dt ds, _, h => by
    simp only [Rep] at h ⊢
    obtain ⟨a, o, vs, e, h1, h2⟩ := h
    exact ⟨a, o, vs, e, l _ _ h1, RepT.le l h2⟩
  | .obj C, _, h => by
    simp only [Rep] at h ⊢
    obtain ⟨a, dx, e, h1⟩ := h
    exact ⟨a, dx, e, l _ _ h1⟩
  | .scr ns, _, h => by
    simp only [Rep] at h ⊢
    obtain ⟨a, e, h1⟩ := h
    exact ⟨a, e, l.sqL h1⟩
theorem Reps.le {K : PySem.W.Frag} {G H : Hp} (l : Le G H) : ∀ {ds : List D} {vs : List V}, Reps K G ds vs → Reps K H ds vs
  | [], _, h => by simp only [Reps] at h ⊢; exact h
  | d :: ds, _, h => by
    simp only [Reps] at h ⊢
    obtain ⟨v, r, e, h1, h2⟩ := h
    exact ⟨v, r, e, Rep.le l h1, Reps.le l h2⟩
theorem RepK.le {K : PySem.W.Frag} {G H : Hp} (l : Le G H) : ∀ {ds : List (Key × D)} {vs : List (Key × V)}, RepK K G ds vs → RepK K H ds vs
  | [], _, h => by simp only [RepK] at h ⊢; exact h
  | (k, d) :: ds, _, h => by
    simp only [RepK] at h ⊢
    obtain ⟨v, r, e, h1, h2⟩ := h
    exact ⟨v, r, e, Rep.le l h1, RepK.le l h2⟩
theorem RepT.le {K : PySem.W.Frag} {G H : Hp} (l : Le G H) : ∀ {ds : List (List Key × D)} {vs : List (List Key × V)}, RepT K G ds vs → RepT K H ds vs
  | [], _, h => by simp only [RepT] at h ⊢; exact h
  | (k, d) :: ds, _, h => by
    simp only [RepT] at h ⊢
    obtain ⟨v, r, e, h1, h2⟩ := h
    exact ⟨v, r, e, Rep.le l h1, RepT.le l h2⟩
end
end DS

set_option Elab.async false
set_option linter.all false
set_option maxRecDepth 100000
set_option maxHeartbeats 1000000
set_option autoImplicit false
namespace DS
open PySem PySem.Spec L2

/-! ### lists of representations -/
theorem Reps.nil {K : PySem.W.Frag} {G : Hp} : Reps K G [] [] := by simp only [Reps]
theorem Reps.cons {K : PySem.W.Frag} {G : Hp} {d : D} {ds : List D} {v : V} {vs : List V} (h : Rep K G d v) (r : Reps K G ds vs) : Reps K G (d :: ds) (v :: vs) := by
  simp only [Reps]; exact ⟨v, vs, rfl, h, r⟩
theorem Reps.nil_inv {K : PySem.W.Frag} {G : Hp} {vs : List V} (h : Reps K G [] vs) : vs = [] := by simpa only [Reps] using h
theorem Reps.cons_inv {K : PySem.W.Frag} {G : Hp} {d : D} {ds : List D} {vs : List V} (h : Reps K G (d :: ds) vs) : ∃ v r, vs = v :: r ∧ Rep K G d v ∧ Reps K G ds r := by
  simpa only [Reps] using h
theorem Reps.len {K : PySem.W.Frag} {G : Hp} : ∀ {ds : List D} {vs : List V}, Reps K G ds vs → vs.length = ds.length
  | [], _, h => by rw [h.nil_inv]; rfl
  | d :: ds, _, h => by
    obtain ⟨v, r, rfl, _, h2⟩ := h.cons_inv
    rw [List.length_cons, List.length_cons, h2.len]
theorem Reps.get {K : PySem.W.Frag} {G : Hp} : ∀ {ds : List D} {vs : List V} {i : Nat} {d : D}, Reps K G ds vs → ds[i]? = some d → ∃ v, vs[i]? = some v ∧ Rep K G d v
  | [], _, _, _, _, e => by cases e
  | d :: ds, _, 0, _, h, e => by
    obtain ⟨v, r, rfl, h1, _⟩ := h.cons_inv
    cases e
    exact ⟨v, rfl, h1⟩
  | d :: ds, _, i + 1, _, h, e => by
    obtain ⟨v, r, rfl, _, h2⟩ := h.cons_inv
    exact h2.get (i := i) e
theorem Reps.app {K : PySem.W.Frag} {G : Hp} : ∀ {ds es : List D} {vs us : List V}, Reps K G ds vs → Reps K G es us → Reps K G (ds ++ es) (vs ++ us)
  | [], _, _, _, h, h' => by rw [h.nil_inv]; exact h'
  | d :: ds, _, _, _, h, h' => by
    obtain ⟨v, r, rfl, h1, h2⟩ := h.cons_inv
    exact .cons h1 (h2.app h')
theorem Reps.one {K : PySem.W.Frag} {G : Hp} {d : D} {v : V} (h : Rep K G d v) : Reps K G [d] [v] := .cons h .nil
theorem Reps.drop {K : PySem.W.Frag} {G : Hp} : ∀ (n : Nat) {ds : List D} {vs : List V}, Reps K G ds vs → Reps K G (ds.drop n) (vs.drop n)
  | 0, _, _, h => h
  | n + 1, [], _, h => by rw [h.nil_inv]; exact .nil
  | n + 1, d :: ds, _, h => by
    obtain ⟨v, r, rfl, _, h2⟩ := h.cons_inv
    exact h2.drop n
theorem Reps.take {K : PySem.W.Frag} {G : Hp} : ∀ (n : Nat) {ds : List D} {vs : List V}, Reps K G ds vs → Reps K G (ds.take n) (vs.take n)
  | 0, _, _, h => .nil
  | n + 1, [], _, h => by rw [h.nil_inv]; exact .nil
  | n + 1, d :: ds, _, h => by
    obtain ⟨v, r, rfl, h1, h2⟩ := h.cons_inv
    exact .cons h1 (h2.take n)
theorem Reps.rev {K : PySem.W.Frag} {G : Hp} : ∀ {ds : List D} {vs : List V}, Reps K G ds vs → Reps K G ds.reverse vs.reverse
  | [], _, h => by rw [h.nil_inv]; exact .nil
  | d :: ds, _, h => by
    obtain ⟨v, r, rfl, h1, h2⟩ := h.cons_inv
    rw [List.reverse_cons, List.reverse_cons]
    exact h2.rev.app (.one h1)
theorem Reps.set {K : PySem.W.Frag} {G : Hp} : ∀ (n : Nat) {ds : List D} {vs : List V} {d : D} {v : V}, Reps K G ds vs → Rep K G d v → Reps K G (ds.set n d) (vs.set n v)
  | _, [], _, _, _, h, _ => by rw [h.nil_inv]; exact .nil
  | 0, _ :: ds, _, _, _, h, h' => by
    obtain ⟨v, r, rfl, _, h2⟩ := h.cons_inv
    exact .cons h' h2
  | n + 1, _ :: ds, _, _, _, h, h' => by
    obtain ⟨v, r, rfl, h1, h2⟩ := h.cons_inv
    exact .cons h1 (h2.set n h')
theorem Reps.erase {K : PySem.W.Frag} {G : Hp} : ∀ (n : Nat) {ds : List D} {vs : List V}, Reps K G ds vs → Reps K G (ds.eraseIdx n) (vs.eraseIdx n)
  | _, [], _, h => by rw [h.nil_inv]; exact .nil
  | 0, _ :: ds, _, h => by
    obtain ⟨v, r, rfl, _, h2⟩ := h.cons_inv
    exact h2
  | n + 1, _ :: ds, _, h => by
    obtain ⟨v, r, rfl, h1, h2⟩ := h.cons_inv
    exact .cons h1 (h2.erase n)

/-! ### owned objects -/
inductive O where
  | l (xs : List D) | k (kvs : List (Key × D)) | t (kvs : List (List Key × D))
def O.fz : O → D
  | .l xs => .lst xs
  | .k m => .dk m
  | .t m => .dt m
def RepO (K : PySem.W.Frag) (G : Hp) : O → HO → Prop
  | .l xs, ho => ∃ vs, ho = .lst vs ∧ Reps K G xs vs
  | .k m, ho => ∃ vs, ho = .dK vs ∧ RepK K G m vs
  | .t m, ho => ∃ vs, ho = .dT vs ∧ RepT K G m vs
theorem RepO.le {K : PySem.W.Frag} {G G' : Hp} (l : Le G G') : ∀ {c : O} {ho : HO}, RepO K G c ho → RepO K G' c ho
  | .l _, _, ⟨vs, e, h⟩ => ⟨vs, e, h.le l⟩
  | .k _, _, ⟨vs, e, h⟩ => ⟨vs, e, h.le l⟩
  | .t _, _, ⟨vs, e, h⟩ => ⟨vs, e, h.le l⟩
/-- how an owned object stands when it is frozen -/
def Fz : O → Obj → HO → HO
  | .l _, _, ho => ho
  | .k _, od, ho => .frz od ho
  | .t _, od, ho => .frz od ho
theorem RepO.fz {K : PySem.W.Frag} {G G' : Hp} (l : Le G G') {a : Addr} {od : Obj} : ∀ {c : O} {ho : HO}, RepO K G c ho → G' a = some (Fz c od ho) → Rep K G' c.fz (.ref a)
  | .l _, _, ⟨vs, e, h⟩, q => by
    subst e; simp only [O.fz, Rep]; exact ⟨a, vs, rfl, q, h.le l⟩
  | .k _, _, ⟨vs, e, h⟩, q => by
    subst e; simp only [O.fz, Rep]; exact ⟨a, od, vs, rfl, q, h.le l⟩
  | .t _, _, ⟨vs, e, h⟩, q => by
    subst e; simp only [O.fz, Rep]; exact ⟨a, od, vs, rfl, q, h.le l⟩

inductive Cell where
  | un | d (x : D) | o (io : Bool) (c : O)
abbrev Cs := List Cell
/-- where the code was entered: the frozen heap, the heap, the addresses that belong to the caller's slots -/
structure Pt where
  G0 : Hp
  H0 : Hp
  io : Nat → Option Addr
def CellOk (K : PySem.W.Frag) (p : Pt) (G H : Hp) (i : Nat) (v : Option V) : Cell → Prop
  | .un => True
  | .d x => ∃ u, v = some u ∧ Rep K G x u
  | .o io c => ∃ a ho, v = some (.ref a) ∧ H a = some ho ∧ RepO K G c ho ∧ G a = none ∧ (io = true → p.io i = some a) ∧ (io = false → p.H0 a = none)
structure Ok (K : PySem.W.Frag) (p : Pt) (G H : Hp) (σ : St) (cs : Cs) : Prop where
  len : σ.length = cs.length
  cells : ∀ (i : Nat) (c : Cell) (v : Option V), cs[i]? = some c → σ[i]? = some v → CellOk K p G H i v c
  sep : ∀ (i j : Nat) (io io' : Bool) (c c' : O) (a : Addr), cs[i]? = some (.o io c) → cs[j]? = some (.o io' c') → σ[i]? = some (some (.ref a)) → σ[j]? = some (some (.ref a)) → i = j
  le : Le G H
  sub : ∀ a, H a = none → G a = none
  fr : ∀ a o, p.H0 a = some o → (∀ i, p.io i ≠ some a) → H a = some o
  dom : ∀ a, H a = none → p.H0 a = none
  g0 : Le p.G0 G
  gn : ∀ a, G a ≠ none → p.G0 a ≠ none ∨ p.H0 a = none
  ios : ∀ i a, p.io i = some a → p.H0 a ≠ none

inductive Res where
  | d (x : D) | o (c : O) | s (i : Nat)
/-- a is owned by no slot -/
def Free (σ : St) (cs : Cs) (a : Addr) : Prop := ∀ (i : Nat) (io : Bool) (c : O), cs[i]? = some (.o io c) → σ[i]? ≠ some (some (.ref a))
def ResOk (K : PySem.W.Frag) (p : Pt) (G H : Hp) (σ : St) (cs : Cs) (v : V) : Res → Prop
  | .d x => Rep K G x v
  | .o c => ∃ a ho, v = .ref a ∧ H a = some ho ∧ RepO K G c ho ∧ G a = none ∧ p.H0 a = none ∧ Free σ cs a
  | .s i => σ[i]? = some (some v) ∧ ∃ io c, cs[i]? = some (.o io c)

section
variable {K : PySem.W.Frag} {p : Pt} {G H : Hp} {σ : St} {cs : Cs}
theorem Le.new {G : Hp} {b : Addr} {o : HO} (e : G b = none) : Le G (upd G b o) := fun a u h => by
  have ne : a ≠ b := fun q => by subst q; rw [e] at h; cases h
  rw [upd_ne ne]; exact h
theorem Le.both {G H : Hp} {b : Addr} {o : HO} (l : Le G H) : Le (upd G b o) (upd H b o) := by
  intro a u h
  by_cases q : a = b
  · subst q; rw [upd_same] at h ⊢; exact h
  · rw [upd_ne q] at h ⊢; exact l a u h
theorem Le.wr {G H : Hp} {b : Addr} {o : HO} (l : Le G H) (e : G b = none) : Le G (upd H b o) := fun a u h => by
  have ne : a ≠ b := fun q => by subst q; rw [e] at h; cases h
  rw [upd_ne ne]; exact l a u h

/-- a new object that is frozen at once -/
theorem Ok.newF (k : Ok K p G H σ cs) {q : Addr} {o : HO} (h : H q = none) : Ok K p (upd G q o) (upd H q o) σ cs where
  ios := k.ios
  len := k.len
  cells i c v e1 e2 := by
    have := k.cells i c v e1 e2
    cases c with
    | un => trivial
    | d x =>
      obtain ⟨u, e, r⟩ := this
      exact ⟨u, e, r.le (.new (k.sub q h))⟩
    | o io c =>
      obtain ⟨a, ho, e, h1, h2, h3, h4⟩ := this
      have ne : a ≠ q := fun z => by rw [z, h] at h1; cases h1
      exact ⟨a, ho, e, by rw [upd_ne ne]; exact h1, h2.le (.new (k.sub q h)), by rw [upd_ne ne]; exact h3, h4⟩
  sep := k.sep
  le := k.le.both
  sub a e := by
    by_cases z : a = q
    · subst z; rw [upd_same] at e; cases e
    · rw [upd_ne z] at e ⊢; exact k.sub a e
  fr a o' e ni := by
    have := k.fr a o' e ni
    have ne : a ≠ q := fun z => by rw [z, h] at this; cases this
    rw [upd_ne ne]; exact this
  dom a e := by
    by_cases z : a = q
    · subst z; rw [upd_same] at e; cases e
    · rw [upd_ne z] at e; exact k.dom a e
  g0 := k.g0.trans (.new (k.sub q h))
  gn a e := by
    by_cases z : a = q
    · subst z; exact .inr (k.dom a h)
    · rw [upd_ne z] at e; exact k.gn a e
/-- a new object, not frozen, of no slot -/
theorem Ok.new (k : Ok K p G H σ cs) {q : Addr} {o : HO} (h : H q = none) : Ok K p G (upd H q o) σ cs where
  ios := k.ios
  len := k.len
  cells i c v e1 e2 := by
    have := k.cells i c v e1 e2
    cases c with
    | un => trivial
    | d x => exact this
    | o io c =>
      obtain ⟨a, ho, e, h1, h2, h3, h4⟩ := this
      have ne : a ≠ q := fun z => by rw [z, h] at h1; cases h1
      exact ⟨a, ho, e, by rw [upd_ne ne]; exact h1, h2, h3, h4⟩
  sep := k.sep
  le := k.le.wr (k.sub q h)
  sub a e := by
    by_cases z : a = q
    · subst z; rw [upd_same] at e; cases e
    · rw [upd_ne z] at e; exact k.sub a e
  fr a o' e ni := by
    have := k.fr a o' e ni
    have ne : a ≠ q := fun z => by rw [z, h] at this; cases this
    rw [upd_ne ne]; exact this
  dom a e := by
    by_cases z : a = q
    · subst z; rw [upd_same] at e; cases e
    · rw [upd_ne z] at e; exact k.dom a e
  g0 := k.g0
  gn := k.gn
theorem Ok.free_new (k : Ok K p G H σ cs) {q : Addr} (h : H q = none) : Free σ cs q := by
  intro i io c e1 e2
  obtain ⟨a, ho, e, h1, _⟩ := k.cells i _ _ e1 e2
  cases e
  rw [h] at h1; cases h1
/-- what no slot owns is frozen (and may be locked) -/
theorem Ok.fz (k : Ok K p G H σ cs) {a : Addr} {ho ho' : HO} (h : H a = some ho) (hg : G a = none) (h0 : p.H0 a = none) (f : Free σ cs a) : Ok K p (upd G a ho') (upd H a ho') σ cs where
  ios := k.ios
  len := k.len
  cells i c v e1 e2 := by
    have := k.cells i c v e1 e2
    cases c with
    | un => trivial
    | d x =>
      obtain ⟨u, e, r⟩ := this
      exact ⟨u, e, r.le (.new hg)⟩
    | o io c =>
      obtain ⟨b, ho', e, h1, h2, h3, h4⟩ := this
      have ne : b ≠ a := fun z => by subst z; subst e; exact f i io c e1 e2
      exact ⟨b, ho', e, by rw [upd_ne ne]; exact h1, h2.le (.new hg), by rw [upd_ne ne]; exact h3, h4⟩
  sep := k.sep
  le := k.le.both
  sub b e := by
    by_cases z : b = a
    · subst z; rw [upd_same] at e; cases e
    · rw [upd_ne z] at e ⊢; exact k.sub b e
  fr b o' e ni := by
    have := k.fr b o' e ni
    have ne : b ≠ a := fun z => by subst z; rw [h0] at e; cases e
    rw [upd_ne ne]; exact this
  dom b e := by
    by_cases z : b = a
    · subst z; exact h0
    · rw [upd_ne z] at e; exact k.dom b e
  g0 := k.g0.trans (.new hg)
  gn b e := by
    by_cases z : b = a
    · subst z; exact .inr h0
    · rw [upd_ne z] at e; exact k.gn b e
theorem get_set {α : Type} {l : List α} {i j : Nat} {x y : α} (h : (l.set i x)[j]? = some y) : (i = j ∧ y = x) ∨ (i ≠ j ∧ l[j]? = some y) := by
  by_cases e : i = j
  · subst e
    rw [List.getElem?_set] at h
    simp at h
    exact .inl ⟨rfl, h.2.symm⟩
  · rw [List.getElem?_set_ne e] at h
    exact .inr ⟨e, h⟩
/-- slot i gets data -/
theorem Ok.setD (k : Ok K p G H σ cs) (i : Nat) {x : D} {v : V} (r : Rep K G x v) : Ok K p G H (σ.set i (some v)) (cs.set i (.d x)) where
  ios := k.ios
  len := by simp [k.len]
  cells j c w e1 e2 := by
    rcases get_set e1 with ⟨rfl, rfl⟩ | ⟨n, e1⟩
    · rcases get_set e2 with ⟨_, rfl⟩ | ⟨n, _⟩
      · exact ⟨v, rfl, r⟩
      · exact absurd rfl n
    · rcases get_set e2 with ⟨z, _⟩ | ⟨_, e2⟩
      · exact absurd z n
      · exact k.cells j c w e1 e2
  sep a b io io' c c' ad e1 e2 e3 e4 := by
    rcases get_set e1 with ⟨_, z⟩ | ⟨n1, e1⟩
    · cases z
    rcases get_set e2 with ⟨_, z⟩ | ⟨n2, e2⟩
    · cases z
    rw [List.getElem?_set_ne n1] at e3
    rw [List.getElem?_set_ne n2] at e4
    exact k.sep a b io io' c c' ad e1 e2 e3 e4
  le := k.le
  sub := k.sub
  fr := k.fr
  dom := k.dom
  g0 := k.g0
  gn := k.gn
/-- slot i gets a new object -/
theorem Ok.setO (k : Ok K p G H σ cs) (i : Nat) {c : O} {a : Addr} {ho : HO} (h : H a = some ho) (r : RepO K G c ho) (hg : G a = none) (h0 : p.H0 a = none) (f : Free σ cs a) :
    Ok K p G H (σ.set i (some (.ref a))) (cs.set i (.o false c)) where
  ios := k.ios
  len := by simp [k.len]
  cells j c' w e1 e2 := by
    rcases get_set e1 with ⟨rfl, rfl⟩ | ⟨n, e1⟩
    · rcases get_set e2 with ⟨_, rfl⟩ | ⟨n, _⟩
      · exact ⟨a, ho, rfl, h, r, hg, nofun, fun _ => h0⟩
      · exact absurd rfl n
    · rcases get_set e2 with ⟨z, _⟩ | ⟨_, e2⟩
      · exact absurd z n
      · exact k.cells j c' w e1 e2
  sep x y io io' c1 c2 ad e1 e2 e3 e4 := by
    rcases get_set e1 with ⟨z1, _⟩ | ⟨n1, e1⟩
    · rcases get_set e2 with ⟨z2, _⟩ | ⟨n2, e2⟩
      · exact z1.symm.trans z2
      · rw [List.getElem?_set_ne n2] at e4
        subst z1
        rcases get_set e3 with ⟨_, z⟩ | ⟨z, _⟩
        · cases z; exact absurd e4 (f y io' c2 e2)
        · exact absurd rfl z
    · rw [List.getElem?_set_ne n1] at e3
      rcases get_set e2 with ⟨z2, _⟩ | ⟨n2, e2⟩
      · subst z2
        rcases get_set e4 with ⟨_, z⟩ | ⟨z, _⟩
        · cases z; exact absurd e3 (f x io c1 e1)
        · exact absurd rfl z
      · rw [List.getElem?_set_ne n2] at e4
        exact k.sep x y io io' c1 c2 ad e1 e2 e3 e4
  le := k.le
  sub := k.sub
  fr := k.fr
  dom := k.dom
  g0 := k.g0
  gn := k.gn
theorem sig_at (k : Ok K p G H σ cs) {i : Nat} {c : Cell} (e : cs[i]? = some c) : ∃ v, σ[i]? = some v := by
  have h : i < σ.length := by
    rw [k.len]; exact (List.getElem?_eq_some_iff.mp e).1
  exact ⟨σ[i], List.getElem?_eq_getElem h⟩
theorem Ok.own (k : Ok K p G H σ cs) {i : Nat} {io : Bool} {c : O} (e : cs[i]? = some (.o io c)) : ∃ a ho, σ[i]? = some (some (.ref a)) ∧ H a = some ho ∧ RepO K G c ho ∧ G a = none := by
  obtain ⟨v, ev⟩ := sig_at k e
  obtain ⟨a, ho, e1, h1, h2, h3, _⟩ := k.cells i _ _ e ev
  exact ⟨a, ho, by rw [ev, e1], h1, h2, h3⟩
theorem Ok.dat (k : Ok K p G H σ cs) {i : Nat} {x : D} (e : cs[i]? = some (.d x)) : ∃ v, σ[i]? = some (some v) ∧ Rep K G x v := by
  obtain ⟨v, ev⟩ := sig_at k e
  obtain ⟨u, e1, h1⟩ := k.cells i _ _ e ev
  exact ⟨u, by rw [ev, e1], h1⟩
/-- the object of slot i is changed -/
theorem Ok.put (k : Ok K p G H σ cs) {i : Nat} {io : Bool} {c c' : O} {a : Addr} {ho : HO} (e : cs[i]? = some (.o io c)) (ev : σ[i]? = some (some (.ref a))) (r : RepO K G c' ho) :
    Ok K p G (upd H a ho) σ (cs.set i (.o io c')) := by
  obtain ⟨b, ho0, e1, h1, h2, h3, h4, h5⟩ := k.cells i _ _ e ev
  cases e1
  refine ⟨by simp [k.len], fun j cj w q1 q2 => ?_, fun x y io1 io2 c1 c2 ad q1 q2 q3 q4 => ?_, k.le.wr h3, fun b' q => ?_, fun b' o q ni => ?_, fun b' q => ?_, k.g0, k.gn, k.ios⟩
  · rcases get_set q1 with ⟨rfl, rfl⟩ | ⟨n, q1⟩
    · rw [ev] at q2; cases q2
      exact ⟨a, ho, rfl, upd_same, r, h3, h4, h5⟩
    · have := k.cells j cj w q1 q2
      cases cj with
      | un => trivial
      | d x => exact this
      | o io' c2 =>
        obtain ⟨b, ho', e2, g1, g2, g3, g4⟩ := this
        have ne : b ≠ a := fun z => by
          subst z; subst e2
          exact n (k.sep i j io io' c c2 b e q1 ev q2)
        exact ⟨b, ho', e2, by rw [upd_ne ne]; exact g1, g2, g3, g4⟩
  · rcases get_set q1 with ⟨z1, z1'⟩ | ⟨n1, q1⟩
    · rcases get_set q2 with ⟨z2, _⟩ | ⟨n2, q2⟩
      · exact z1.symm.trans z2
      · subst z1
        cases z1'
        exact k.sep i y io io2 c c2 ad e q2 q3 q4
    · rcases get_set q2 with ⟨z2, z2'⟩ | ⟨n2, q2⟩
      · subst z2
        cases z2'
        exact k.sep x i io1 io c1 c ad q1 e q3 q4
      · exact k.sep x y io1 io2 c1 c2 ad q1 q2 q3 q4
  · by_cases z : b' = a
    · subst z; rw [upd_same] at q; cases q
    · rw [upd_ne z] at q; exact k.sub b' q
  · by_cases z : b' = a
    · subst z
      cases io with
      | true => exact absurd (h4 rfl) (ni i)
      | false => rw [h5 rfl] at q; cases q
    · rw [upd_ne z]; exact k.fr b' o q ni
  · by_cases z : b' = a
    · subst z; rw [upd_same] at q; cases q
    · rw [upd_ne z] at q; exact k.dom b' q
/-- a slot is forgotten -/
theorem Ok.drop (k : Ok K p G H σ cs) (i : Nat) : Ok K p G H σ (cs.set i .un) := by
  refine ⟨by simp [k.len], fun j cj w q1 q2 => ?_, fun x y io1 io2 c1 c2 ad q1 q2 q3 q4 => ?_, k.le, k.sub, k.fr, k.dom, k.g0, k.gn, k.ios⟩
  · rcases get_set q1 with ⟨rfl, rfl⟩ | ⟨n, q1⟩
    · trivial
    · exact k.cells j cj w q1 q2
  · rcases get_set q1 with ⟨_, z⟩ | ⟨n1, q1⟩
    · cases z
    rcases get_set q2 with ⟨_, z⟩ | ⟨n2, q2⟩
    · cases z
    exact k.sep x y io1 io2 c1 c2 ad q1 q2 q3 q4
theorem set_at {α : Type} {l : List α} {i : Nat} {x : α} (h : l[i]? = some x) : l.set i x = l := by
  apply List.ext_getElem?
  intro j
  by_cases z : i = j
  · subst z
    rw [List.getElem?_set]
    have : i < l.length := (List.getElem?_eq_some_iff.mp h).1
    rw [if_pos rfl, if_pos this, h]
  · rw [List.getElem?_set_ne z]
/-- the object of slot i is frozen: the slot holds data from now on -/
theorem Ok.fzSlot (k : Ok K p G H σ cs) {i : Nat} {c : O} {a : Addr} {ho : HO} (od : Obj) (e : cs[i]? = some (.o false c)) (ev : σ[i]? = some (some (.ref a))) (eh : H a = some ho) :
    Ok K p (upd G a (Fz c od ho)) (upd H a (Fz c od ho)) σ (cs.set i (.d c.fz)) ∧ Le G (upd G a (Fz c od ho)) := by
  obtain ⟨b, ho', e1, h1, h2, h3, h4, h5⟩ := k.cells i _ _ e ev
  cases e1
  rw [eh] at h1; cases h1
  have f : Free σ (cs.set i .un) a := by
    intro j io' c' q1 q2
    rcases get_set q1 with ⟨_, z⟩ | ⟨n, q1⟩
    · cases z
    · exact n (k.sep i j false io' c c' a e q1 ev q2)
  have k2 := (k.drop i).fz (ho' := Fz c od ho) eh h3 (h5 rfl) f
  refine ⟨?_, .new h3⟩
  have rr : Rep K (upd G a (Fz c od ho)) c.fz (.ref a) := h2.fz (.new h3) upd_same
  have k3 := k2.setD i rr
  rw [List.set_set, set_at ev] at k3
  exact k3
end
end DS

set_option Elab.async false
set_option linter.all false
set_option maxRecDepth 100000
set_option maxHeartbeats 1000000
set_option autoImplicit false
namespace DS
open PySem PySem.Spec L2

/-! ### pure computations -/
abbrev M (α : Type) := Cs → Option (α × Cs)
def ret {α : Type} (a : α) : M α := fun cs => some (a, cs)
def bnd {α β : Type} (f : M α) (g : α → M β) : M β := fun cs => match f cs with
  | some (a, cs') => g a cs'
  | none => none
theorem bnd_some {α β : Type} {f : M α} {g : α → M β} {cs cs1 : Cs} {a : α} (h : f cs = some (a, cs1)) : bnd f g cs = g a cs1 := by
  unfold bnd; rw [h]
theorem bnd_inv {α β : Type} {f : M α} {g : α → M β} {cs cs' : Cs} {b : β} (h : bnd f g cs = some (b, cs')) : ∃ a cs1, f cs = some (a, cs1) ∧ g a cs1 = some (b, cs') := by
  unfold bnd at h
  cases e : f cs with
  | none => rw [e] at h; cases h
  | some q => obtain ⟨a, cs1⟩ := q; rw [e] at h; exact ⟨a, cs1, rfl, h⟩
def lft {α : Type} (o : Option α) : M α := fun cs => match o with
  | some a => some (a, cs)
  | none => none
theorem lft_inv {α : Type} {o : Option α} {cs cs' : Cs} {a : α} (h : lft o cs = some (a, cs')) : o = some a ∧ cs' = cs := by
  unfold lft at h
  cases o with
  | none => cases h
  | some b => cases h; exact ⟨rfl, rfl⟩

/-- the value that a result shows -/
def view (cs : Cs) : Res → Option D
  | .d x => some x
  | .o c => some c.fz
  | .s i => match cs[i]? with
    | some (.o _ c) => some c.fz
    | _ => none
def views (cs : Cs) : List Res → Option (List D)
  | [] => some []
  | r :: rs => match view cs r with
    | some x => (match views cs rs with
      | some xs => some (x :: xs)
      | none => none)
    | none => none
/-- v is to be read as x -/
def VRep (K : PySem.W.Frag) (G H : Hp) (x : D) (v : V) : Prop := Rep K G x v ∨ ∃ c a ho, x = O.fz c ∧ v = .ref a ∧ H a = some ho ∧ RepO K G c ho
def VReps (K : PySem.W.Frag) (G H : Hp) : List D → List V → Prop
  | [], vs => vs = []
  | d :: ds, vs => ∃ v r, vs = v :: r ∧ VRep K G H d v ∧ VReps K G H ds r
def ArgOk (K : PySem.W.Frag) (G : Hp) (σ : L2.St) (v : V) : Res → Prop
  | .d x => Rep K G x v
  | .s i => σ[i]? = some (some v)
  | .o _ => False
def ArgsOk (K : PySem.W.Frag) (G : Hp) (σ : L2.St) : List Res → List V → Prop
  | [], vs => vs = []
  | r :: rs, vs => ∃ v r', vs = v :: r' ∧ ArgOk K G σ v r ∧ ArgsOk K G σ rs r'
section
variable {K : PySem.W.Frag} {p : Pt} {G G' H : Hp} {σ : L2.St} {cs : Cs} {v : V} {x : D}
theorem ArgOk.le (l : Le G G') {r : Res} (h : ArgOk K G σ v r) : ArgOk K G' σ v r := by
  cases r with
  | d x => exact Rep.le l h
  | s i => exact h
  | o c => exact h
theorem ArgsOk.le (l : Le G G') : ∀ {rs : List Res} {vs : List V}, ArgsOk K G σ rs vs → ArgsOk K G' σ rs vs
  | [], _, h => h
  | r :: rs, _, ⟨v, r', e, h1, h2⟩ => ⟨v, r', e, h1.le l, h2.le l⟩
theorem ArgOk.view (k : Ok K p G H σ cs) {r : Res} (h : ArgOk K G σ v r) (e : view cs r = some x) : VRep K G H x v := by
  cases r with
  | d y => cases e; exact .inl h
  | o c => exact h.elim
  | s i =>
    unfold DS.view at e
    dsimp only at e
    split at e
    · rename_i io c q
      cases e
      obtain ⟨a, ho, e1, h1, h2, _⟩ := k.own q
      have : σ[i]? = some (some v) := h
      rw [e1] at this; cases this
      exact .inr ⟨c, a, ho, rfl, rfl, h1, h2⟩
    · cases e
theorem ArgsOk.views (k : Ok K p G H σ cs) : ∀ {rs : List Res} {vs : List V} {xs : List D}, ArgsOk K G σ rs vs → views cs rs = some xs → VReps K G H xs vs
  | [], _, _, h, e => by cases e; exact h
  | r :: rs, _, _, ⟨v, r', e1, h1, h2⟩, e => by
    unfold DS.views at e
    split at e
    · rename_i x ex
      split at e
      · rename_i xs exs
        cases e
        exact ⟨v, r', e1, h1.view k ex, ArgsOk.views k h2 exs⟩
      · cases e
    · cases e
theorem ResOk.view (k : Ok K p G H σ cs) {r : Res} (h : ResOk K p G H σ cs v r) (e : view cs r = some x) : VRep K G H x v := by
  cases r with
  | d y => cases e; exact .inl h
  | o c =>
    cases e
    obtain ⟨a, ho, e1, h1, h2, _⟩ := h
    exact .inr ⟨c, a, ho, rfl, e1, h1, h2⟩
  | s i =>
    obtain ⟨h, _⟩ := h
    exact ArgOk.view k (r := .s i) h e
theorem VRep.le (l : Le G G') (h : VRep K G H x v) : VRep K G' H x v := by
  rcases h with h | ⟨c, a, ho, e1, e2, h1, h2⟩
  · exact .inl (h.le l)
  · exact .inr ⟨c, a, ho, e1, e2, h1, h2.le l⟩
theorem VRep.lst {xs : List D} (l : Le G H) (h : VRep K G H (.lst xs) v) : ∃ a vs, v = .ref a ∧ H a = some (.lst vs) ∧ Reps K G xs vs := by
  rcases h with h | ⟨c, a, ho, e1, e2, h1, h2⟩
  · simp only [Rep] at h
    obtain ⟨a, vs, e, h1, h2⟩ := h
    exact ⟨a, vs, e, l _ _ h1, h2⟩
  · cases c with
    | l ys =>
      cases e1
      obtain ⟨vs, e, r⟩ := h2
      subst e
      exact ⟨a, vs, e2, h1, r⟩
    | k m => cases e1
    | t m => cases e1
theorem VRep.tup {xs : List D} (l : Le G H) (h : VRep K G H (.tup xs) v) : ∃ a vs, v = .ref a ∧ SqT K H a vs ∧ Reps K G xs vs := by
  rcases h with h | ⟨c, a, ho, e1, e2, h1, h2⟩
  · simp only [Rep] at h
    obtain ⟨a, vs, e, h1, h2⟩ := h
    exact ⟨a, vs, e, l.sqT h1, h2⟩
  · cases c <;> cases e1
theorem VRep.dk {xs : List (Key × D)} (l : Le G H) (h : VRep K G H (.dk xs) v) : ∃ a vs, v = .ref a ∧ Rd H a (.dK vs) ∧ RepK K G xs vs := by
  rcases h with h | ⟨c, a, ho, e1, e2, h1, h2⟩
  · simp only [Rep] at h
    obtain ⟨a, o, vs, e, h1, h2⟩ := h
    exact ⟨a, vs, e, .inr ⟨o, l _ _ h1⟩, h2⟩
  · cases c with
    | l ys => cases e1
    | k m =>
      cases e1
      obtain ⟨vs, e, r⟩ := h2
      subst e
      exact ⟨a, vs, e2, .inl h1, r⟩
    | t m => cases e1
theorem VRep.dt {xs : List (List Key × D)} (l : Le G H) (h : VRep K G H (.dt xs) v) : ∃ a vs, v = .ref a ∧ Rd H a (.dT vs) ∧ RepT K G xs vs := by
  rcases h with h | ⟨c, a, ho, e1, e2, h1, h2⟩
  · simp only [Rep] at h
    obtain ⟨a, o, vs, e, h1, h2⟩ := h
    exact ⟨a, vs, e, .inr ⟨o, l _ _ h1⟩, h2⟩
  · cases c with
    | l ys => cases e1
    | k m => cases e1
    | t m =>
      cases e1
      obtain ⟨vs, e, r⟩ := h2
      subst e
      exact ⟨a, vs, e2, .inl h1, r⟩
theorem VRep.int {i : Int} (h : VRep K G H (.int i) v) : v = .int i := by
  rcases h with h | ⟨c, a, ho, e1, e2, h1, h2⟩
  · simpa only [Rep] using h
  · cases c <;> cases e1
theorem VRep.bl {b : Bool} (h : VRep K G H (.bl b) v) : v = .bl b := by
  rcases h with h | ⟨c, a, ho, e1, e2, h1, h2⟩
  · simpa only [Rep] using h
  · cases c <;> cases e1
theorem VRep.str {s : Str} (h : VRep K G H (.str s) v) : v = .str s := by
  rcases h with h | ⟨c, a, ho, e1, e2, h1, h2⟩
  · simpa only [Rep] using h
  · cases c <;> cases e1
theorem VRep.non (h : VRep K G H .non v) : v = .non := by
  rcases h with h | ⟨c, a, ho, e1, e2, h1, h2⟩
  · simpa only [Rep] using h
  · cases c <;> cases e1
theorem VRep.scr {ns : List Int} (l : Le G H) (h : VRep K G H (.scr ns) v) : ∃ a, v = .ref a ∧ SqL K H a (ns.map V.int) := by
  rcases h with h | ⟨c, a, ho, e1, e2, h1, h2⟩
  · simp only [Rep] at h
    obtain ⟨a, e, h1⟩ := h
    exact ⟨a, e, l.sqL h1⟩
  · cases c <;> cases e1
theorem VReps.nil_inv {vs : List V} (h : VReps K G H [] vs) : vs = [] := h
theorem VReps.one_inv {vs : List V} (h : VReps K G H [x] vs) : ∃ v, vs = [v] ∧ VRep K G H x v := by
  obtain ⟨v, r, e, h1, h2⟩ := h
  cases h2
  exact ⟨v, e, h1⟩
theorem VReps.two_inv {y : D} {vs : List V} (h : VReps K G H [x, y] vs) : ∃ v w, vs = [v, w] ∧ VRep K G H x v ∧ VRep K G H y w := by
  obtain ⟨v, r, e, h1, h2⟩ := h
  obtain ⟨w, e2, h3⟩ := h2.one_inv
  exact ⟨v, w, by rw [e, e2], h1, h3⟩
/-- results that are new -/
theorem Ok.resNew (k : Ok K p G H σ cs) {q : Addr} {c : O} {ho : HO} (h : H q = none) (r : RepO K G c ho) : Ok K p G (upd H q ho) σ cs ∧ ResOk K p G (upd H q ho) σ cs (.ref q) (.o c) :=
  ⟨k.new h, q, ho, rfl, upd_same, r, k.sub q h, k.dom q h, k.free_new h⟩
theorem Ok.resTup (k : Ok K p G H σ cs) {q : Addr} {ds : List D} {vs : List V} (h : H q = none) (r : Reps K G ds vs) :
    Ok K p (upd G q (.tup vs)) (upd H q (.tup vs)) σ cs ∧ Le G (upd G q (.tup vs)) ∧ Rep K (upd G q (.tup vs)) (.tup ds) (.ref q) :=
  ⟨k.newF h, .new (k.sub q h), by
    simp only [Rep]
    exact ⟨q, vs, rfl, SqT.of upd_same, r.le (.new (k.sub q h))⟩⟩
end

/-! ### the judgements -/
def tAny (X : Cx) (e : Expr) : TE := fun σ H Q => ∃ t, PE X e t ∧ t σ H Q
theorem pe_any {X : Cx} {e : Expr} : PE X e (tAny X e) := ⟨fun pins s σ H Q I ⟨_, h, q⟩ => h.run pins s σ H Q I q⟩
def tAnyT (X : Cx) (e : Expr) : TT := fun σ H Q => ∃ t, PT X e t ∧ t σ H Q
theorem pt_any {X : Cx} {e : Expr} : PT X e (tAnyT X e) := ⟨fun pins s σ H Q I ⟨_, h, q⟩ => h.run pins s σ H Q I q⟩
def tAnyA (X : Cx) (es : List Expr) : TA := fun σ H Q => ∃ t, PA X es t ∧ t σ H Q
theorem pa_any {X : Cx} {es : List Expr} : PA X es (tAnyA X es) := ⟨fun pos pins s σ H Q I ⟨_, h, q⟩ => h.run pos pins s σ H Q I q⟩
def tAnyS (X : Cx) (st : Stmt) : TS := fun D σ H => ∃ t, PS X st t ∧ t D σ H
theorem ps_any {X : Cx} {st : Stmt} : PS X st (tAnyS X st) := ⟨fun pins s σ H D I ⟨_, h, q⟩ => h.run pins s σ H D I q⟩
def tAnySs (X : Cx) (st : List Stmt) : TS := fun D σ H => ∃ t, PSs X st t ∧ t D σ H
theorem pss_any {X : Cx} {st : List Stmt} : PSs X st (tAnySs X st) := ⟨fun pins s σ H D I ⟨_, h, q⟩ => h.run pins s σ H D I q⟩
def tAnyI (X : Cx) (tg e : Expr) : TI := fun σ H R => ∃ t, PI X tg e t ∧ t σ H R
theorem pi_any {X : Cx} {tg e : Expr} : PI X tg e (tAnyI X tg e) := ⟨fun pins s σ H R I ⟨_, h, q⟩ => h.run pins s σ H R I q⟩
def tAnyG (X : Cx) (tg : Expr) : TG := fun v σ H Q => ∃ t, PG X tg t ∧ t v σ H Q
theorem pg_any {X : Cx} {tg : Expr} : PG X tg (tAnyG X tg) := ⟨fun pins s σ H v u Q I r ⟨_, h, q⟩ => h.run pins s σ H v u Q I r q⟩

/-- a value that comes may be locked (a dict), by the reading's choice -/
theorem pe_fz {X : Cx} {e : Expr} {t : TE} (h : PE X e t) :
    PE X e (fun σ H Q => t σ H fun v H' => Q v H' ∨ ∃ d u, v = .ref d ∧ H' d = some u ∧ Mut (some u) ∧ ∀ od, Q v (upd H' d (.frz od u))) := by
  refine ⟨fun pins s σ H Q I q => ?_⟩
  refine thn (h.run pins s σ H _ I q) fun u s' ⟨v, H', I', r, q'⟩ => ?_
  rcases q' with q' | ⟨d, ho, e, hd, mu, q'⟩
  · exact ⟨v, H', I', r, q'⟩
  · obtain ⟨od, I2⟩ := I'.lock hd mu
    exact ⟨v, _, I2, r, q' od⟩

def EvE (X : Cx) (e : Expr) (f : M Res) : Prop := ∀ (p : Pt) (G H : Hp) (σ : L2.St) (cs : Cs) (r : Res) (cs' : Cs) (Q : VK), Ok X.K p G H σ cs → f cs = some (r, cs') →
  (∀ v G' H', Ok X.K p G' H' σ cs' → Le G G' → ResOk X.K p G' H' σ cs' v r → Q v H') → tAny X e σ H Q
def EvR (X : Cx) (e : Expr) (f : M Res) : Prop := ∀ (p : Pt) (G H : Hp) (σ : L2.St) (cs : Cs) (r : Res) (cs' : Cs) (Q : VK), Ok X.K p G H σ cs → f cs = some (r, cs') →
  (∀ v G' H', Ok X.K p G' H' σ cs' → Le G G' → ArgOk X.K G' σ v r → Q v H') → tAny X e σ H Q
def EvD (X : Cx) (e : Expr) (f : M D) : Prop := ∀ (p : Pt) (G H : Hp) (σ : L2.St) (cs : Cs) (r : D) (cs' : Cs) (Q : VK), Ok X.K p G H σ cs → f cs = some (r, cs') →
  (∀ v G' H', Ok X.K p G' H' σ cs' → Le G G' → Rep X.K G' r v → Q v H') → tAny X e σ H Q
def EvX (X : Cx) (es : List Expr) (f : M (List Res)) : Prop := ∀ (p : Pt) (G H : Hp) (σ : L2.St) (cs : Cs) (r : List Res) (cs' : Cs) (Q : List V → Hp → Prop), Ok X.K p G H σ cs → f cs = some (r, cs') →
  (∀ vs G' H', Ok X.K p G' H' σ cs' → Le G G' → ArgsOk X.K G' σ r vs → Q vs H') → tAnyA X es σ H Q
def EvT (X : Cx) (e : Expr) (f : M Bool) : Prop := ∀ (p : Pt) (G H : Hp) (σ : L2.St) (cs : Cs) (r : Bool) (cs' : Cs) (Q : Bool → Hp → Prop), Ok X.K p G H σ cs → f cs = some (r, cs') →
  (∀ G' H', Ok X.K p G' H' σ cs' → Le G G' → Q r H') → tAnyT X e σ H Q

/-- a new object is frozen -/
def frz : Res → Res
  | .o c => .d c.fz
  | r => r
def asR (f : M Res) : M Res := bnd f fun r => ret (frz r)
def asD (f : M Res) : M D := bnd (asR f) fun r => match r with
  | .d x => ret x
  | _ => fun _ => none
section
variable {X : Cx} {e : Expr} {f : M Res}
theorem mut_of {K : PySem.W.Frag} {G : Hp} {c : O} {ho : HO} (h : RepO K G c ho) : Mut (some ho) := by
  cases c <;> (obtain ⟨vs, e, _⟩ := h; subst e; trivial)
theorem EvE.r (h : EvE X e f) : EvR X e (asR f) := by
  intro p G H σ cs r cs' Q k hf hQ
  obtain ⟨r0, cs1, h0, h1⟩ := bnd_inv hf
  cases h1
  obtain ⟨t, ht, q⟩ := h p G H σ cs r0 cs' (fun v H' => Q v H' ∨ ∃ d u, v = .ref d ∧ H' d = some u ∧ Mut (some u) ∧ ∀ od, Q v (upd H' d (.frz od u))) k h0 (fun v G' H' k' l' rr => by
    cases r0 with
    | d x => exact .inl (hQ v G' H' k' l' rr)
    | s i => exact .inl (hQ v G' H' k' l' rr.1)
    | o c =>
      obtain ⟨a, ho, e1, h1, h2, h3, h4, h5⟩ := rr
      subst e1
      have key : ∀ od, Ok X.K p (upd G' a (Fz c od ho)) (upd H' a (Fz c od ho)) σ cs' ∧ Rep X.K (upd G' a (Fz c od ho)) c.fz (.ref a) := fun od =>
        ⟨k'.fz h1 h3 h4 h5, h2.fz (.new h3) upd_same⟩
      cases c with
      | l xs =>
        left
        obtain ⟨k2, r2⟩ := key default
        have e : upd H' a (Fz (.l xs) default ho) = H' := by
          funext b
          show upd H' a ho b = H' b
          by_cases z : b = a
          · subst z; rw [upd_same, h1]
          · rw [upd_ne z]
        rw [e] at k2
        exact hQ _ _ _ k2 (l'.trans (.new h3)) r2
      | k m => exact .inr ⟨a, ho, rfl, h1, mut_of h2, fun od => hQ _ _ _ (key od).1 (l'.trans (.new h3)) (key od).2⟩
      | t m => exact .inr ⟨a, ho, rfl, h1, mut_of h2, fun od => hQ _ _ _ (key od).1 (l'.trans (.new h3)) (key od).2⟩)
  exact ⟨_, pe_fz ht, q⟩
theorem EvE.d (h : EvE X e f) : EvD X e (asD f) := by
  intro p G H σ cs r cs' Q k hf hQ
  obtain ⟨r0, cs1, h0, h1⟩ := bnd_inv hf
  cases r0 with
  | d x => cases h1; exact h.r p G H σ cs _ cs' Q k h0 hQ
  | s i => cases h1
  | o c => cases h1
end
end DS

set_option Elab.async false
set_option linter.all false
set_option maxRecDepth 100000
set_option maxHeartbeats 1000000
set_option autoImplicit false
namespace DS
open PySem PySem.Spec L2

/-! ### names and constants -/
def getV (i : Nat) : M Res := fun cs => match cs[i]? with
  | some (.d x) => some (.d x, cs)
  | some (.o _ _) => some (.s i, cs)
  | _ => none
def kon (x : D) : M Res := ret (.d x)
section
variable {X : Cx} {pos : Pos}
theorem ev_var (i : Nat) {x : Str} (hN : X.N[i]? = some x := by rfl) (hv : Vis X.env.scope x := by first | exact Or.inl rfl | exact Or.inr (Or.inl rfl) | exact Or.inr (Or.inr rfl)) (hd : (x == ("__debug__" : Str)) = false := by decide)
    (hcd : (x == ("__classdict__" : Str)) = false := by decide) : EvE X (.Name x pos) (getV i) := by
  intro p G H σ cs r cs' Q k hf hQ
  refine ⟨_, pe_var hN hv hd hcd, ?_⟩
  unfold getV at hf
  split at hf
  · rename_i x e
    cases hf
    obtain ⟨v, ev, rp⟩ := k.dat e
    exact ⟨v, ev, hQ v G H k (.refl _) rp⟩
  · rename_i io c e
    cases hf
    obtain ⟨a, ho, ev, _⟩ := k.own e
    exact ⟨_, ev, hQ _ G H k (.refl _) ⟨ev, io, c, e⟩⟩
  · cases hf
/-- an expression that is a known flat value -/
theorem ev_kon {e : Expr} {v : V} {x : D} (h : PE X e (tC v)) (r : ∀ G, Rep X.K G x v) : EvE X e (kon x) := by
  intro p G H σ cs z cs' Q k hf hQ
  cases hf
  exact ⟨_, h, hQ v G H k (.refl _) (r G)⟩
theorem ev_int {i j} : EvE X (.Constant (.int i) j pos) (kon (.int i)) := ev_kon pe_int fun _ => by simp only [Rep]
theorem ev_bl {b j} : EvE X (.Constant (.bool b) j pos) (kon (.bl b)) := ev_kon pe_bl fun _ => by simp only [Rep]
theorem ev_non {j} : EvE X (.Constant .none j pos) (kon .non) := ev_kon pe_non fun _ => by simp only [Rep]
theorem ev_str {x j} : EvE X (.Constant (.str x) j pos) (kon (.str x)) := ev_kon pe_str fun _ => by simp only [Rep]
/-- a module's name -/
theorem ev_glob {x : Str} {v : V} {u : Value} {d : D} (hg : Gl X x) (hm : X.mg x = some u) (r : RelV v u) (rp : ∀ G, Rep X.K G d v) (hd : (x == ("__debug__" : Str)) = false := by decide) : EvE X (.Name x pos) (kon d) :=
  ev_kon (pe_glob hg hm r hd) rp

/-! ### arguments -/
def argNil : M (List Res) := ret []
def argCons (f : M Res) (g : M (List Res)) : M (List Res) := bnd (asR f) fun r => bnd g fun rs => ret (r :: rs)
theorem ex_nil : EvX X [] argNil := by
  intro p G H σ cs r cs' Q k hf hQ
  cases hf
  exact ⟨_, pa_nil, hQ [] G H k (.refl _) rfl⟩
theorem ex_cons {e : Expr} {es : List Expr} {f : M Res} {g : M (List Res)} (ha : EvE X e f) (hr : EvX X es g) (hs : starEach (e :: es) X.env = (false, eval e X.env) :: starEach es X.env := by rfl) : EvX X (e :: es) (argCons f g) := by
  intro p G H σ cs r cs' Q k hf hQ
  obtain ⟨r0, cs1, h0, h1⟩ := bnd_inv hf
  obtain ⟨rs, cs2, h2, h3⟩ := bnd_inv h1
  cases h3
  refine ⟨_, pa_cons pe_any pa_any hs, ?_⟩
  refine ha.r p G H σ cs _ _ _ k h0 fun v G1 H1 k1 l1 a1 => ?_
  refine hr p G1 H1 σ cs1 _ _ _ k1 h2 fun vs G2 H2 k2 l2 a2 => ?_
  exact hQ _ G2 H2 k2 (l1.trans l2) ⟨v, vs, rfl, a1.le l2, a2⟩

/-! ### operations by values -/
def vw (r : Res) : M D := fun cs => match view cs r with
  | some x => some (x, cs)
  | none => none
def vws (rs : List Res) : M (List D) := fun cs => match views cs rs with
  | some x => some (x, cs)
  | none => none
theorem vw_inv {r : Res} {cs cs' : Cs} {x : D} (h : vw r cs = some (x, cs')) : view cs r = some x ∧ cs' = cs := by
  unfold vw at h
  split at h
  · cases h; rename_i e; exact ⟨e, rfl⟩
  · cases h
theorem vws_inv {r : List Res} {cs cs' : Cs} {x : List D} (h : vws r cs = some (x, cs')) : views cs r = some x ∧ cs' = cs := by
  unfold vws at h
  split at h
  · cases h; rename_i e; exact ⟨e, rfl⟩
  · cases h
def un (f : M Res) (op : D → Option Res) : M Res := bnd (asR f) fun r => bnd (vw r) fun x => lft (op x)
def bi (f g : M Res) (op : D → D → Option Res) : M Res := bnd (asR f) fun r => bnd (asR g) fun q => bnd (vw r) fun x => bnd (vw q) fun y => lft (op x y)
def fn (f : M (List Res)) (op : List D → Option Res) : M Res := bnd f fun rs => bnd (vws rs) fun xs => lft (op xs)
/-- what is to be given behind an operation -/
def Nxt (X : Cx) (p : Pt) (G : Hp) (σ : L2.St) (cs : Cs) (z : Res) (Q : VK) : Prop := ∀ u G' H', Ok X.K p G' H' σ cs → Le G G' → ResOk X.K p G' H' σ cs u z → Q u H'
def Op1 (X : Cx) (r : V → Hp → VK → Prop) (op : D → Option Res) : Prop := ∀ (p : Pt) (G H : Hp) (σ : L2.St) (cs : Cs) (x : D) (v : V) (z : Res) (Q : VK), Ok X.K p G H σ cs → VRep X.K G H x v → op x = some z → Nxt X p G σ cs z Q → r v H Q
def Op2 (X : Cx) (r : R2) (op : D → D → Option Res) : Prop := ∀ (p : Pt) (G H : Hp) (σ : L2.St) (cs : Cs) (x y : D) (v w : V) (z : Res) (Q : VK), Ok X.K p G H σ cs → VRep X.K G H x v → VRep X.K G H y w → op x y = some z →
  Nxt X p G σ cs z Q → r v w H Q
def OpN (X : Cx) (r : List V → Hp → VK → Prop) (op : List D → Option Res) : Prop := ∀ (p : Pt) (G H : Hp) (σ : L2.St) (cs : Cs) (xs : List D) (vs : List V) (z : Res) (Q : VK), Ok X.K p G H σ cs → VReps X.K G H xs vs → op xs = some z →
  Nxt X p G σ cs z Q → r vs H Q
theorem Nxt.dat {p : Pt} {G H : Hp} {σ : L2.St} {cs : Cs} {x : D} {v : V} {Q : VK} (n : Nxt X p G σ cs (.d x) Q) (k : Ok X.K p G H σ cs) (r : ∀ G, Rep X.K G x v) : Q v H := n v G H k (.refl _) (r G)
theorem Nxt.int {p : Pt} {G H : Hp} {σ : L2.St} {cs : Cs} {i : Int} {Q : VK} (n : Nxt X p G σ cs (.d (.int i)) Q) (k : Ok X.K p G H σ cs) : Q (.int i) H := n.dat k fun _ => by simp only [Rep]
theorem Nxt.bl {p : Pt} {G H : Hp} {σ : L2.St} {cs : Cs} {i : Bool} {Q : VK} (n : Nxt X p G σ cs (.d (.bl i)) Q) (k : Ok X.K p G H σ cs) : Q (.bl i) H := n.dat k fun _ => by simp only [Rep]
theorem Nxt.str {p : Pt} {G H : Hp} {σ : L2.St} {cs : Cs} {i : Str} {Q : VK} (n : Nxt X p G σ cs (.d (.str i)) Q) (k : Ok X.K p G H σ cs) : Q (.str i) H := n.dat k fun _ => by simp only [Rep]
theorem Nxt.rep {p : Pt} {G H : Hp} {σ : L2.St} {cs : Cs} {x : D} {v : V} {Q : VK} (n : Nxt X p G σ cs (.d x) Q) (k : Ok X.K p G H σ cs) (r : Rep X.K G x v) : Q v H := n v G H k (.refl _) r
theorem Nxt.new {p : Pt} {G H : Hp} {σ : L2.St} {cs : Cs} {c : O} {ho : HO} {Q : VK} {q : Addr} (n : Nxt X p G σ cs (.o c) Q) (k : Ok X.K p G H σ cs) (h : H q = none) (r : RepO X.K G c ho) : Q (.ref q) (upd H q ho) :=
  n _ G _ (k.resNew h r).1 (.refl _) (k.resNew h r).2
theorem Nxt.tup {p : Pt} {G H : Hp} {σ : L2.St} {cs : Cs} {ds : List D} {vs : List V} {Q : VK} {q : Addr} (n : Nxt X p G σ cs (.d (.tup ds)) Q) (k : Ok X.K p G H σ cs) (h : H q = none) (r : Reps X.K G ds vs) : Q (.ref q) (upd H q (.tup vs)) :=
  n _ _ _ (k.resTup h r).1 (k.resTup h r).2.1 (k.resTup h r).2.2
section
variable {a b e : Expr} {f g : M Res} {es : List Expr} {fs : M (List Res)}
/-- two operands in a row -/
theorem bi_run {op : D → D → Option Res} {r : R2} (ho : Op2 X r op) (ha : EvE X a f) (hb : EvE X b g) {p : Pt} {G H : Hp} {σ : L2.St} {cs cs' : Cs} {z : Res} {Q : VK} (k : Ok X.K p G H σ cs) (hf : bi f g op cs = some (z, cs'))
    (hQ : ∀ v G' H', Ok X.K p G' H' σ cs' → Le G G' → ResOk X.K p G' H' σ cs' v z → Q v H') : tAny X a σ H fun x H1 => tAny X b σ H1 fun y H2 => r x y H2 Q := by
  obtain ⟨r1, cs1, h1, hf1⟩ := bnd_inv hf
  obtain ⟨r2, cs2, h2, hf2⟩ := bnd_inv hf1
  obtain ⟨x, cs3, h3', hf3⟩ := bnd_inv hf2
  obtain ⟨y, cs4, h4', hf4⟩ := bnd_inv hf3
  obtain ⟨h3, e3⟩ := vw_inv h3'
  subst e3
  obtain ⟨h4, e4⟩ := vw_inv h4'
  subst e4
  obtain ⟨h5, e5⟩ := lft_inv hf4
  subst e5
  refine ha.r p G H σ cs _ _ _ k h1 fun v G1 H1 k1 l1 a1 => ?_
  refine hb.r p G1 H1 σ cs1 _ _ _ k1 h2 fun w G2 H2 k2 l2 a2 => ?_
  exact ho p G2 H2 σ _ x y v w z Q k2 ((a1.le l2).view k2 h3) (a2.view k2 h4) h5 fun u G3 H3 k3 l3 r3 => hQ u G3 H3 k3 ((l1.trans l2).trans l3) r3
theorem ev_op {op : Operator} {r : R2} {o : D → D → Option Res} (hr : OpR X (binaryOp op) r) (ho : Op2 X r o) (ha : EvE X a f) (hb : EvE X b g) : EvE X (.BinOp a op b pos) (bi f g o) := by
  intro p G H σ cs z cs' Q k hf hQ
  exact ⟨_, pe_op hr pe_any pe_any, bi_run ho ha hb k hf hQ⟩
theorem ev_cmp {op : CmpOp} {r : R2} {o : D → D → Option Res} (hr : OpR X (compareOp op) r) (ho : Op2 X r o) (ha : EvE X a f) (hb : EvE X b g) (hm : behindInMarks op b = false) : EvE X (.Compare a [op] [b] pos) (bi f g o) := by
  intro p G H σ cs z cs' Q k hf hQ
  exact ⟨_, pe_cmpR hr pe_any pe_any hm, bi_run ho ha hb k hf hQ⟩
theorem ev_ix {r : R2} {o : D → D → Option Res} (hr : IxR X r) (ho : Op2 X r o) (ha : EvE X a f) (hb : EvE X b g) (hs : PlainIx b := by intro _ _; rfl) : EvE X (.Subscript a b pos) (bi f g o) := by
  intro p G H σ cs z cs' Q k hf hQ
  exact ⟨_, pe_ix hr pe_any pe_any hs, bi_run ho ha hb k hf hQ⟩
theorem ev_un {op : UnaryOp} {r : V → Hp → VK → Prop} {o : D → Option Res} (hr : UnR X (unaryOp op) r) (ho : Op1 X r o) (ha : EvE X a f) : EvE X (.UnaryOp op a pos) (un f o) := by
  intro p G H σ cs z cs' Q k hf hQ
  refine ⟨_, pe_un hr pe_any, ?_⟩
  obtain ⟨r1, cs1, h1, hf1⟩ := bnd_inv hf
  obtain ⟨x, cs3, h3', hf2⟩ := bnd_inv hf1
  obtain ⟨h3, e3⟩ := vw_inv h3'
  subst e3
  obtain ⟨h5, e5⟩ := lft_inv hf2
  subst e5
  refine ha.r p G H σ cs _ _ _ k h1 fun v G1 H1 k1 l1 a1 => ?_
  exact ho p G1 H1 σ _ x v z Q k1 (a1.view k1 h3) h5 fun u G3 H3 k3 l3 r3 => hQ u G3 H3 k3 (l1.trans l3) r3
theorem fn_run {op : List D → Option Res} {r : List V → Hp → VK → Prop} (ho : OpN X r op) (ha : EvX X es fs) {p : Pt} {G H : Hp} {σ : L2.St} {cs cs' : Cs} {z : Res} {Q : VK} (k : Ok X.K p G H σ cs) (hf : fn fs op cs = some (z, cs'))
    (hQ : ∀ v G' H', Ok X.K p G' H' σ cs' → Le G G' → ResOk X.K p G' H' σ cs' v z → Q v H') : tAnyA X es σ H fun xs H1 => r xs H1 Q := by
  obtain ⟨r1, cs1, h1, hf1⟩ := bnd_inv hf
  obtain ⟨x, cs3, h3', hf2⟩ := bnd_inv hf1
  obtain ⟨h3, e3⟩ := vws_inv h3'
  subst e3
  obtain ⟨h5, e5⟩ := lft_inv hf2
  subst e5
  refine ha p G H σ cs _ _ _ k h1 fun v G1 H1 k1 l1 a1 => ?_
  exact ho p G1 H1 σ _ x v z Q k1 (a1.views k1 h3) h5 fun u G3 H3 k3 l3 r3 => hQ u G3 H3 k3 (l1.trans l3) r3
/-- a built-in function, a built-in class, called -/
theorem ev_callB {x : Str} {q : Pos} {id : String} {r : List V → Hp → VK → Prop} {o : List D → Option Res} (hr : CallR X (.builtin id) r) (ho : OpN X r o) (hg : Gl X x) (hm : X.mg x = none) (hv : bootBuiltins x = some (.builtin id)) (ha : EvX X (e :: es) fs)
    (hn : x ≠ "__name__" := by decide) (hdb : (x == ("__debug__" : Str)) = false := by decide) (he : starEach (e :: es) X.env = (false, eval e X.env) :: starEach es X.env := by rfl) (hpl : (backTo pos (starEach es X.env)).any (·.1) = false := by rfl) :
    EvE X (.Call (.Name x q) (e :: es) [] pos) (fn fs o) := by
  intro p G H σ cs z cs' Q k hf hQ
  exact ⟨_, pe_callB hr hg hm hv pa_any hn hdb he hpl, fn_run ho ha k hf hQ⟩
theorem ev_callT {x : Str} {q : Pos} {T : String} {r : List V → Hp → VK → Prop} {o : List D → Option Res} (hr : CallR X (.type T) r) (ho : OpN X r o) (hg : Gl X x) (hm : X.mg x = none) (hv : bootBuiltins x = some (.type T)) (ha : EvX X (e :: es) fs)
    (hn : x ≠ "__name__" := by decide) (hdb : (x == ("__debug__" : Str)) = false := by decide) (he : starEach (e :: es) X.env = (false, eval e X.env) :: starEach es X.env := by rfl) (hpl : (backTo pos (starEach es X.env)).any (·.1) = false := by rfl) :
    EvE X (.Call (.Name x q) (e :: es) [] pos) (fn fs o) := by
  intro p G H σ cs z cs' Q k hf hQ
  exact ⟨_, pe_callTy hr hg hm hv pa_any hn hdb he hpl, fn_run ho ha k hf hQ⟩
end
end
end DS

set_option Elab.async false
set_option linter.all false
set_option maxRecDepth 100000
set_option maxHeartbeats 1000000
set_option autoImplicit false
namespace DS
open PySem PySem.Spec L2

/-! ### arithmetic -/
def iDec (P : Prop) [Decidable P] (x : Res) : Option Res := if P then some x else none
theorem iDec_inv {P : Prop} [Decidable P] {x z : Res} (h : iDec P x = some z) : P ∧ z = x := by
  unfold iDec at h
  split at h
  · cases h; rename_i q; exact ⟨q, rfl⟩
  · cases h
def oAdd : D → D → Option Res
  | .int i, .int j => some (.d (.int (i + j)))
  | .str x, .str y => iDec (x.length + y.length ≤ sizeLine) (.d (.str (x ++ y)))
  | .tup xs, .tup ys => iDec (xs.length + ys.length ≤ sizeLine) (.d (.tup (xs ++ ys)))
  | .lst xs, .lst ys => iDec (xs.length + ys.length ≤ sizeLine) (.o (.l (xs ++ ys)))
  | _, _ => none
def oSub : D → D → Option Res
  | .int i, .int j => some (.d (.int (i - j)))
  | _, _ => none
def oMul : D → D → Option Res
  | .int i, .int j => iDec ((-(2 ^ 64) < i ∧ i < 2 ^ 64) ∨ (-(2 ^ 64) < j ∧ j < 2 ^ 64)) (.d (.int (i * j)))
  | _, _ => none
def oDiv : D → D → Option Res
  | .int i, .int j => iDec (0 < j ∧ j < 1073741824) (.d (.int (i / j)))
  | _, _ => none
def oMod : D → D → Option Res
  | .int i, .int j => iDec (0 < j) (.d (.int (i % j)))
  | _, _ => none
def oPow : D → D → Option Res
  | .int i, .int j => iDec (0 ≤ j ∧ j ≤ 1000000 ∧ i.natAbs < 2 ^ 64) (.d (.int (i ^ j.toNat)))
  | _, _ => none
def oNeg : D → Option Res
  | .int i => some (.d (.int (-i)))
  | _ => none
section
variable {X : Cx}
def rAdd4 (K : PySem.W.Frag) : R2 := fun x y H Q => (∃ i j, x = .int i ∧ y = .int j ∧ Q (.int (i + j)) H) ∨ (∃ i j, x = .str i ∧ y = .str j ∧ i.length + j.length ≤ sizeLine ∧ Q (.str (i ++ j)) H) ∨ rCatA K x y H Q ∨ rCat x y H Q
theorem or_add : OpR X (binaryOp .Add) (rAdd4 X.K) := op_add.or (op_add_str.or (op_catA.or op_cat))
theorem rep_len {K : PySem.W.Frag} {G : Hp} {ds : List D} {vs : List V} (h : Reps K G ds vs) : vs.length = ds.length := h.len
theorem add_ok : Op2 X (rAdd4 X.K) oAdd := by
  intro p G H σ cs x y v w z Q k rx ry h n
  cases x <;> cases y <;> simp only [oAdd] at h <;> try (cases h; done)
  · cases h
    exact .inl ⟨_, _, rx.int, ry.int, n.int k⟩
  · obtain ⟨hl, rfl⟩ := iDec_inv h
    exact .inr (.inl ⟨_, _, rx.str, ry.str, hl, n.str k⟩)
  · obtain ⟨hl, rfl⟩ := iDec_inv h
    obtain ⟨a, vs, rfl, h1, r1⟩ := rx.tup k.le
    obtain ⟨b, ws, rfl, h2, r2⟩ := ry.tup k.le
    rename_i xs ys
    refine .inr (.inr (.inl ⟨a, b, vs, ws, rfl, rfl, h1, h2, by rw [r1.len, r2.len]; exact hl, fun e => ?_, fun e1 e2 => ?_, fun _ _ q hq => n.tup k hq (r1.app r2)⟩))
    · subst e
      have : xs = [] := by cases xs with | nil => rfl | cons a b => have := r1.len; simp at this
      subst this
      rcases ry with ry | ⟨c, _, _, e1, _⟩
      · exact n.rep k ry
      · cases c <;> cases e1
    · subst e2
      have : ys = [] := by cases ys with | nil => rfl | cons a b => have := r2.len; simp at this
      subst this
      rw [List.append_nil] at n
      rcases rx with rx | ⟨c, _, _, e1, _⟩
      · exact n.rep k rx
      · cases c <;> cases e1
  · obtain ⟨hl, rfl⟩ := iDec_inv h
    obtain ⟨a, vs, rfl, h1, r1⟩ := rx.lst k.le
    obtain ⟨b, ws, rfl, h2, r2⟩ := ry.lst k.le
    exact .inr (.inr (.inr ⟨a, b, vs, ws, rfl, rfl, h1, h2, by rw [r1.len, r2.len]; exact hl, fun q hq => n.new k hq ⟨_, rfl, r1.app r2⟩⟩))
theorem sub_ok : Op2 X (rI0 fun i j => .int (i - j)) oSub := by
  intro p G H σ cs x y v w z Q k rx ry h n
  cases x <;> cases y <;> simp only [oSub] at h <;> try (cases h; done)
  cases h
  exact ⟨_, _, rx.int, ry.int, n.int k⟩
theorem mul_ok : Op2 X (rI CMul fun i j => .int (i * j)) oMul := by
  intro p G H σ cs x y v w z Q k rx ry h n
  cases x <;> cases y <;> simp only [oMul] at h <;> try (cases h; done)
  obtain ⟨hl, rfl⟩ := iDec_inv h
  exact ⟨_, _, rx.int, ry.int, hl, n.int k⟩
theorem div_ok : Op2 X (rI CDiv fun i j => .int (i / j)) oDiv := by
  intro p G H σ cs x y v w z Q k rx ry h n
  cases x <;> cases y <;> simp only [oDiv] at h <;> try (cases h; done)
  obtain ⟨hl, rfl⟩ := iDec_inv h
  exact ⟨_, _, rx.int, ry.int, hl, n.int k⟩
theorem mod_ok : Op2 X (rI (fun _ j => 0 < j) fun i j => .int (i % j)) oMod := by
  intro p G H σ cs x y v w z Q k rx ry h n
  cases x <;> cases y <;> simp only [oMod] at h <;> try (cases h; done)
  obtain ⟨hl, rfl⟩ := iDec_inv h
  exact ⟨_, _, rx.int, ry.int, hl, n.int k⟩
theorem pow_ok : Op2 X (rI CPow fun i j => .int (i ^ j.toNat)) oPow := by
  intro p G H σ cs x y v w z Q k rx ry h n
  cases x <;> cases y <;> simp only [oPow] at h <;> try (cases h; done)
  obtain ⟨hl, rfl⟩ := iDec_inv h
  exact ⟨_, _, rx.int, ry.int, hl, n.int k⟩
theorem neg_ok : Op1 X (rU fun i => .int (-i)) oNeg := by
  intro p G H σ cs x v z Q k rx h n
  cases x <;> simp only [oNeg] at h <;> try (cases h; done)
  cases h
  exact ⟨_, rx.int, n.int k⟩
end

/-! ### comparisons of order -/
def sLt (x y : Str) : Bool := decide (x.cps.toList < y.cps.toList)
def oLt : D → D → Option Res
  | .int i, .int j => some (.d (.bl (decide (i < j))))
  | .str i, .str j => some (.d (.bl (sLt i j)))
  | _, _ => none
def oGt : D → D → Option Res
  | .int i, .int j => some (.d (.bl (decide (j < i))))
  | .str i, .str j => some (.d (.bl (sLt j i)))
  | _, _ => none
def oLe : D → D → Option Res
  | .int i, .int j => some (.d (.bl (decide (i ≤ j))))
  | .str i, .str j => some (.d (.bl (!sLt j i)))
  | _, _ => none
def oGe : D → D → Option Res
  | .int i, .int j => some (.d (.bl (decide (j ≤ i))))
  | .str i, .str j => some (.d (.bl (!sLt i j)))
  | _, _ => none
section
variable {X : Cx}
def rSS (f : Str → Str → Bool) : R2 := fun x y H Q => ∃ i j, x = .str i ∧ y = .str j ∧ Q (.bl (f i j)) H
def rOrd (f : Int → Int → Bool) (g : Str → Str → Bool) : R2 := fun x y H Q => rI0 (fun i j => .bl (f i j)) x y H Q ∨ rSS g x y H Q
theorem or_lt : OpR X (compareOp .Lt) (rOrd (fun i j => decide (i < j)) sLt) := op_lt.or op_lt_str
theorem or_le : OpR X (compareOp .LtE) (rOrd (fun i j => decide (i ≤ j)) fun i j => !sLt j i) := op_le.or op_le_str
theorem or_gt : OpR X (compareOp .Gt) (rOrd (fun i j => decide (j < i)) fun i j => sLt j i) := op_gt.or op_gt_str
theorem or_ge : OpR X (compareOp .GtE) (rOrd (fun i j => decide (j ≤ i)) fun i j => !sLt i j) := op_ge.or op_ge_str
theorem ord_ok {f : Int → Int → Bool} {g : Str → Str → Bool} {o : D → D → Option Res} (h1 : ∀ i j, o (.int i) (.int j) = some (.d (.bl (f i j)))) (h2 : ∀ i j, o (.str i) (.str j) = some (.d (.bl (g i j))))
    (h3 : ∀ x y z, o x y = some z → (∃ i j, x = .int i ∧ y = .int j) ∨ ∃ i j, x = .str i ∧ y = .str j) : Op2 X (rOrd f g) o := by
  intro p G H σ cs x y v w z Q k rx ry h n
  rcases h3 x y z h with ⟨i, j, rfl, rfl⟩ | ⟨i, j, rfl, rfl⟩
  · rw [h1] at h; cases h
    exact .inl ⟨_, _, rx.int, ry.int, n.bl k⟩
  · rw [h2] at h; cases h
    exact .inr ⟨_, _, rx.str, ry.str, n.bl k⟩
theorem lt_ok : Op2 X (rOrd (fun i j => decide (i < j)) sLt) oLt := ord_ok (fun _ _ => rfl) (fun _ _ => rfl) fun x y z h => by
  cases x <;> cases y <;> simp only [oLt] at h <;> first | (cases h; done) | exact .inl ⟨_, _, rfl, rfl⟩ | exact .inr ⟨_, _, rfl, rfl⟩
theorem le_ok : Op2 X (rOrd (fun i j => decide (i ≤ j)) fun i j => !sLt j i) oLe := ord_ok (fun _ _ => rfl) (fun _ _ => rfl) fun x y z h => by
  cases x <;> cases y <;> simp only [oLe] at h <;> first | (cases h; done) | exact .inl ⟨_, _, rfl, rfl⟩ | exact .inr ⟨_, _, rfl, rfl⟩
theorem gt_ok : Op2 X (rOrd (fun i j => decide (j < i)) fun i j => sLt j i) oGt := ord_ok (fun _ _ => rfl) (fun _ _ => rfl) fun x y z h => by
  cases x <;> cases y <;> simp only [oGt] at h <;> first | (cases h; done) | exact .inl ⟨_, _, rfl, rfl⟩ | exact .inr ⟨_, _, rfl, rfl⟩
theorem ge_ok : Op2 X (rOrd (fun i j => decide (j ≤ i)) fun i j => !sLt i j) oGe := ord_ok (fun _ _ => rfl) (fun _ _ => rfl) fun x y z h => by
  cases x <;> cases y <;> simp only [oGe] at h <;> first | (cases h; done) | exact .inl ⟨_, _, rfl, rfl⟩ | exact .inr ⟨_, _, rfl, rfl⟩
end

/-! ### equality and membership of data without dicts -/
mutual
def pyD : D → Option PyData
  | .non => some .none
  | .bl b => some (.bool b)
  | .int i => some (.int i)
  | .str s => some (.str s)
  | .tup xs => (pyDs xs).map .tuple
  | .lst xs => (pyDs xs).map .list
  | .dk _ => none
  | .dt _ => none
  | .obj _ => none
  | .scr _ => none
def pyDs : List D → Option (List PyData)
  | [] => some []
  | x :: xs => match pyD x, pyDs xs with
    | some y, some ys => some (y :: ys)
    | _, _ => none
end
section
variable {K : PySem.W.Frag} {G H : Hp}
mutual
theorem Rep.dp (l : Le G H) : ∀ {d : D} {v : V} {e : PyData}, Rep K G d v → pyD d = some e → Dp K H v e
  | .non, _, _, h, q => by simp only [Rep] at h; simp only [pyD] at q; cases q; subst h; exact .non
  | .bl _, _, _, h, q => by simp only [Rep] at h; simp only [pyD] at q; cases q; subst h; exact .bl _
  | .int _, _, _, h, q => by simp only [Rep] at h; simp only [pyD] at q; cases q; subst h; exact .int _
  | .str _, _, _, h, q => by simp only [Rep] at h; simp only [pyD] at q; cases q; subst h; exact .str _
  | .tup xs, _, _, h, q => by
    simp only [Rep] at h; simp only [pyD] at q
    obtain ⟨a, vs, rfl, h1, h2⟩ := h
    cases e : pyDs xs with
    | none => rw [e] at q; cases q
    | some es => rw [e] at q; cases q; exact .tup (l.sqT h1) (Reps.dp l h2 e)
  | .lst xs, _, _, h, q => by
    simp only [Rep] at h; simp only [pyD] at q
    obtain ⟨a, vs, rfl, h1, h2⟩ := h
    cases e : pyDs xs with
    | none => rw [e] at q; cases q
    | some es => rw [e] at q; cases q; exact .lst (SqL.of (l _ _ h1)) (Reps.dp l h2 e)
  | .dk _, _, _, _, q => by simp only [pyD] at q; cases q
  | .dt _, _, _, _, q => by simp only [pyD] at q; cases q
  | .obj _, _, _, _, q => by simp only [pyD] at q; cases q
  | .scr _, _, _, _, q => by simp only [pyD] at q; cases q
theorem Reps.dp (l : Le G H) : ∀ {ds : List D} {vs : List V} {es : List PyData}, Reps K G ds vs → pyDs ds = some es → DpAll K H vs es
  | [], _, _, h, q => by rw [h.nil_inv]; simp only [pyDs] at q; cases q; exact .nil
  | d :: ds, _, _, h, q => by
    obtain ⟨v, r, rfl, h1, h2⟩ := h.cons_inv
    simp only [pyDs] at q
    cases e1 : pyD d with
    | none => rw [e1] at q; cases q
    | some y =>
      cases e2 : pyDs ds with
      | none => rw [e1, e2] at q; cases q
      | some ys => rw [e1, e2] at q; cases q; exact .cons (Rep.dp l h1 e1) (Reps.dp l h2 e2)
end
theorem VRep.dp (l : Le G H) {d : D} {v : V} {e : PyData} (h : VRep K G H d v) (q : pyD d = some e) : Dp K H v e := by
  rcases h with h | ⟨c, a, ho, rfl, rfl, h1, h2⟩
  · exact h.dp l q
  · cases c with
    | l xs =>
      obtain ⟨vs, rfl, r⟩ := h2
      simp only [O.fz, pyD] at q
      cases e : pyDs xs with
      | none => rw [e] at q; cases q
      | some es => rw [e] at q; cases q; exact .lst (SqL.of h1) (r.dp l e)
    | k m => simp only [O.fz, pyD] at q; cases q
    | t m => simp only [O.fz, pyD] at q; cases q
end
def shp (x : D) : Option PyData := match pyD x with
  | some e => if SeqAt.shaped e = true then some e else none
  | none => none
theorem shp_inv {x : D} {e : PyData} (h : shp x = some e) : pyD x = some e ∧ SeqAt.shaped e = true := by
  unfold shp at h
  split at h
  · rename_i e' q
    split at h
    · cases h; rename_i s; exact ⟨q, s⟩
    · cases h
  · cases h
def eqD (x y : D) : Option Bool := match shp x, shp y with
  | some a, some b => some (PyData.eqv a b)
  | _, _ => none
def oEq (x y : D) : Option Res := match eqD x y with
  | some b => some (.d (.bl b))
  | none => none
def oNe (x y : D) : Option Res := match eqD x y with
  | some b => some (.d (.bl (!b)))
  | none => none
theorem eqD_inv {x y : D} {b : Bool} (h : eqD x y = some b) : ∃ d e, pyD x = some d ∧ pyD y = some e ∧ SeqAt.shaped d = true ∧ SeqAt.shaped e = true ∧ b = PyData.eqv d e := by
  unfold eqD at h
  split at h
  · rename_i a b' e1 e2
    cases h
    exact ⟨a, b', (shp_inv e1).1, (shp_inv e2).1, (shp_inv e1).2, (shp_inv e2).2, rfl⟩
  · cases h
section
variable {X : Cx}
theorem eq_ok : Op2 X (rEqD X.K) oEq := by
  intro p G H σ cs x y v w z Q k rx ry h n
  unfold oEq at h
  split at h
  · rename_i b e
    cases h
    obtain ⟨d, e', h1, h2, h3, h4, rfl⟩ := eqD_inv e
    exact ⟨d, e', rx.dp k.le h1, ry.dp k.le h2, h3, h4, n.bl k⟩
  · cases h
theorem ne_ok : Op2 X (rNeD X.K) oNe := by
  intro p G H σ cs x y v w z Q k rx ry h n
  unfold oNe at h
  split at h
  · rename_i b e
    cases h
    obtain ⟨d, e', h1, h2, h3, h4, rfl⟩ := eqD_inv e
    exact ⟨d, e', rx.dp k.le h1, ry.dp k.le h2, h3, h4, n.bl k⟩
  · cases h
end
end DS

set_option Elab.async false
set_option linter.all false
set_option maxRecDepth 100000
set_option maxHeartbeats 1000000
set_option autoImplicit false
namespace DS
open PySem PySem.Spec L2

/-! ### dicts with keys that are ints and texts -/
def keyD : Key → D
  | .inl i => .int i
  | .inr s => .str s
def dKey : D → Option Key
  | .int i => some (.inl i)
  | .str s => some (.inr s)
  | _ => none
def dGet (m : List (Key × D)) (k : Key) : Option D := (m.find? fun kv => decide (kv.1 = k)).map (·.2)
def dPut (m : List (Key × D)) (k : Key) (v : D) : List (Key × D) := if (m.any fun kv => decide (kv.1 = k)) = true then m.map (fun kv => if kv.1 = k then (kv.1, v) else kv) else m ++ [(k, v)]
def dDel (m : List (Key × D)) (k : Key) : List (Key × D) := m.filter fun kv => decide (kv.1 ≠ k)
section
variable {K : PySem.W.Frag} {G H : Hp}
theorem dKey_rep {x : D} {k : Key} {v : V} (e : dKey x = some k) (h : VRep K G H x v) : v = kV k := by
  cases x <;> simp only [dKey] at e <;> cases e
  · exact h.int
  · exact h.str
theorem rep_key {k : Key} : Rep K G (keyD k) (kV k) := by
  cases k <;> simp only [keyD, kV, Rep]
theorem RepK.len : ∀ {m : List (Key × D)} {vs : List (Key × V)}, RepK K G m vs → vs.length = m.length
  | [], _, h => by simp only [RepK] at h; subst h; rfl
  | (k, d) :: m, _, h => by
    simp only [RepK] at h
    obtain ⟨v, r, rfl, _, h2⟩ := h
    rw [List.length_cons, List.length_cons, h2.len]
theorem RepK.get : ∀ {m : List (Key × D)} {vs : List (Key × V)} (k : Key), RepK K G m vs → (∃ d v, dGet m k = some d ∧ valV vs k = some v ∧ Rep K G d v) ∨ (dGet m k = none ∧ valV vs k = none)
  | [], _, k, h => by simp only [RepK] at h; subst h; exact .inr ⟨rfl, rfl⟩
  | (j, d) :: m, _, k, h => by
    simp only [RepK] at h
    obtain ⟨v, r, rfl, h1, h2⟩ := h
    by_cases e : j = k
    · left
      refine ⟨d, v, ?_, valV_pos e, h1⟩
      simp [dGet, e]
    · rcases RepK.get k h2 with ⟨d', v', q1, q2, q3⟩ | ⟨q1, q2⟩
      · left
        refine ⟨d', v', ?_, by rw [valV_neg e]; exact q2, q3⟩
        simpa [dGet, e] using q1
      · right
        refine ⟨?_, by rw [valV_neg e]; exact q2⟩
        simpa [dGet, e] using q1
theorem RepK.any : ∀ {m : List (Key × D)} {vs : List (Key × V)} (k : Key), RepK K G m vs → (m.any fun kv => decide (kv.1 = k)) = (vs.any fun kv => decide (kv.1 = k))
  | [], _, k, h => by simp only [RepK] at h; subst h; rfl
  | (j, d) :: m, _, k, h => by
    simp only [RepK] at h
    obtain ⟨v, r, rfl, h1, h2⟩ := h
    rw [List.any_cons, List.any_cons, h2.any k]
theorem RepK.app : ∀ {m m' : List (Key × D)} {vs us : List (Key × V)}, RepK K G m vs → RepK K G m' us → RepK K G (m ++ m') (vs ++ us)
  | [], _, _, _, h, h' => by simp only [RepK] at h; subst h; exact h'
  | (j, d) :: m, _, _, _, h, h' => by
    simp only [RepK] at h
    obtain ⟨v, r, rfl, h1, h2⟩ := h
    have := h2.app h'
    simp only [List.cons_append, RepK]
    exact ⟨v, _, rfl, h1, this⟩
theorem RepK.map {k : Key} {d : D} {v : V} (hd : Rep K G d v) : ∀ {m : List (Key × D)} {vs : List (Key × V)}, RepK K G m vs →
    RepK K G (m.map fun kv => if kv.1 = k then (kv.1, d) else kv) (vs.map fun kv => if kv.1 = k then (kv.1, v) else kv)
  | [], _, h => by simp only [RepK] at h; subst h; simp only [List.map_nil, RepK]
  | (j, x) :: m, _, h => by
    simp only [RepK] at h
    obtain ⟨y, r, rfl, h1, h2⟩ := h
    have := RepK.map (k := k) hd h2
    by_cases e : j = k
    · simp only [List.map_cons, e, if_true, RepK]
      exact ⟨v, _, rfl, hd, this⟩
    · simp only [List.map_cons, e, if_false, RepK]
      exact ⟨y, _, rfl, h1, this⟩
theorem RepK.put {m : List (Key × D)} {vs : List (Key × V)} {k : Key} {d : D} {v : V} (h : RepK K G m vs) (hd : Rep K G d v) : RepK K G (dPut m k d) (putK vs k v) := by
  unfold dPut putK
  rw [h.any k]
  split
  · exact RepK.map hd h
  · refine h.app ?_
    simp only [RepK]
    exact ⟨v, [], rfl, hd, rfl⟩
theorem RepK.del {k : Key} : ∀ {m : List (Key × D)} {vs : List (Key × V)}, RepK K G m vs → RepK K G (dDel m k) (dropK vs k)
  | [], _, h => by simp only [RepK] at h; subst h; simp only [dDel, dropK, List.filter_nil, RepK]
  | (j, x) :: m, _, h => by
    simp only [RepK] at h
    obtain ⟨y, r, rfl, h1, h2⟩ := h
    have := RepK.del (k := k) h2
    unfold dDel dropK at this ⊢
    by_cases e : j = k
    · subst e; simpa using this
    · simp only [List.filter_cons, ne_eq, e, not_false_eq_true, decide_true, if_true, RepK]
      exact ⟨y, _, rfl, h1, this⟩
theorem RepK.keys : ∀ {m : List (Key × D)} {vs : List (Key × V)}, RepK K G m vs → Reps K G (m.map fun kv => keyD kv.1) (vs.map fun kv => kV kv.1)
  | [], _, h => by simp only [RepK] at h; subst h; exact .nil
  | (j, x) :: m, _, h => by
    simp only [RepK] at h
    obtain ⟨y, r, rfl, h1, h2⟩ := h
    exact .cons rep_key h2.keys
theorem RepK.at : ∀ {m : List (Key × D)} {vs : List (Key × V)} {i : Nat} {k : Key} {d : D}, RepK K G m vs → m[i]? = some (k, d) → ∃ v, vs[i]? = some (k, v) ∧ Rep K G d v
  | [], _, _, _, _, _, e => by cases e
  | (j, x) :: m, _, 0, _, _, h, e => by
    simp only [RepK] at h
    obtain ⟨y, r, rfl, h1, h2⟩ := h
    cases e
    exact ⟨y, rfl, h1⟩
  | (j, x) :: m, _, i + 1, _, _, h, e => by
    simp only [RepK] at h
    obtain ⟨y, r, rfl, h1, h2⟩ := h
    exact h2.at (i := i) e
end

/-! ### membership -/
def oInB (x y : D) : Option Bool := match y with
  | .lst ys => match shp x, shp (.lst ys), pyDs ys with
    | some d, some _, some ds => some (ds.any fun z => PyData.eqv z d)
    | _, _, _ => none
  | .tup ys => match shp x, shp (.tup ys), pyDs ys with
    | some d, some _, some ds => some (ds.any fun z => PyData.eqv z d)
    | _, _, _ => none
  | .dk m => match dKey x with
    | some k => some (dGet m k).isSome
    | none => none
  | .str z => match x with
    | .str c => if c.cps.size = 1 then some (decide (c.cps.getD 0 0 ∈ z.cps.toList)) else none
    | _ => none
  | _ => none
def oIn (x y : D) : Option Res := match oInB x y with
  | some b => some (.d (.bl b))
  | none => none
def oNotIn (x y : D) : Option Res := match oInB x y with
  | some b => some (.d (.bl (!b)))
  | none => none
section
variable {X : Cx}
def rInTD (K : PySem.W.Frag) (g : Bool → Bool) : R2 := fun x y H Q => ∃ d ds, Dp K H x d ∧ Dp K H y (.tuple ds) ∧ SeqAt.shaped d = true ∧ SeqAt.shaped (.tuple ds) = true ∧ Q (.bl (g (ds.any fun z => PyData.eqv z d))) H
theorem room_sh {A : Around} {ds : List PyData} {d : PyData} (h : SeqAt.shaped d = true) (hu : A.units + 65 < cLine) : A.units + 1 + min (PyData.depthAll ds) d.depth < cLine := by
  have h1 := SeqAt.depth_of_shaped h
  have h2 : min (PyData.depthAll ds) d.depth ≤ d.depth := Nat.min_le_right _ _
  omega
theorem or_inT (hu : X.A.units + 65 < cLine) : OpR X (compareOp .In) (rInTD X.K id) := by
  intro pins s σ H x y v u Q I rx ry h
  obtain ⟨d, ds, hd, he, sd, se, q⟩ := h
  obtain ⟨as, r1⟩ := Dp.reads I d x v hd rx
  obtain ⟨bs, r2⟩ := Dp.reads I (.tuple ds) y u he ry
  exact SeqAt.in_tuple_reads r2 r1 (SeqAt.canLay_of_shaped se) (SeqAt.canLay_of_shaped sd) (room_sh sd hu) ⟨.bl _, H, I, rfl, q⟩
theorem or_notInT (hu : X.A.units + 65 < cLine) : OpR X (compareOp .NotIn) (rInTD X.K (!·)) := by
  intro pins s σ H x y v u Q I rx ry h
  obtain ⟨d, ds, hd, he, sd, se, q⟩ := h
  obtain ⟨as, r1⟩ := Dp.reads I d x v hd rx
  obtain ⟨bs, r2⟩ := Dp.reads I (.tuple ds) y u he ry
  exact SeqAt.notIn_tuple_reads r2 r1 (SeqAt.canLay_of_shaped se) (SeqAt.canLay_of_shaped sd) (room_sh sd hu) ⟨.bl _, H, I, rfl, q⟩
def rInDK (g : Bool → Bool) : R2 := fun y x H Q => ∃ a o, x = .ref a ∧ DGet H a y o ∧ Q (.bl (g o.isSome)) H
theorem or_inDK (hu : X.A.units + 65 < cLine) : OpR X (compareOp .In) (rInDK id) := by
  intro pins s σ H x y v u Q I rx ry h
  obtain ⟨a, o, rfl, g, q⟩ := h
  cases ry
  exact d_in (by omega) I g rx fun s' I' => ⟨.bl _, H, I', rfl, q⟩
theorem or_notInDK (hu : X.A.units + 65 < cLine) : OpR X (compareOp .NotIn) (rInDK (!·)) := by
  intro pins s σ H x y v u Q I rx ry h
  obtain ⟨a, o, rfl, g, q⟩ := h
  cases ry
  exact d_notIn (by omega) I g rx fun s' I' => ⟨.bl _, H, I', rfl, q⟩
def rInS (g : Bool → Bool) : R2 := fun x y H Q => ∃ (c : Nat) (z : Str), x = .str ⟨#[c]⟩ ∧ y = .str z ∧ Q (.bl (g (decide (c ∈ z.cps.toList)))) H
def rInAll (K : PySem.W.Frag) (g : Bool → Bool) : R2 := fun x y H Q => (∃ d ds, Dp K H x d ∧ Dp K H y (.list ds) ∧ SeqAt.shaped d = true ∧ SeqAt.shaped (.list ds) = true ∧ Q (.bl (g (ds.any fun z => PyData.eqv z d))) H) ∨ rInTD K g x y H Q ∨ rInDK g x y H Q ∨ rInS g x y H Q
theorem or_in (hu : X.A.units + 65 < cLine) : OpR X (compareOp .In) (rInAll X.K id) := (op_inD hu).or ((or_inT hu).or ((or_inDK hu).or op_in_sign))
theorem or_notIn (hu : X.A.units + 65 < cLine) : OpR X (compareOp .NotIn) (rInAll X.K (!·)) := (op_notInD hu).or ((or_notInT hu).or ((or_notInDK hu).or op_notIn_sign))
theorem one_sign {c : Str} (h : c.cps.size = 1) : c = ⟨#[c.cps.getD 0 0]⟩ := by
  obtain ⟨cps⟩ := c
  have h' : cps.size = 1 := h
  have : cps = #[cps.getD 0 0] := by
    apply Array.ext
    · rw [h']; rfl
    · intro i h1 h2
      have : i = 0 := by omega
      subst this
      simp [Array.getD, h']
  show (⟨cps⟩ : Str) = ⟨#[cps.getD 0 0]⟩
  rw [← this]
theorem in_run {g : Bool → Bool} {p : Pt} {G H : Hp} {σ : L2.St} {cs : Cs} {x y : D} {v w : V} {b : Bool} {Q : VK} (k : Ok X.K p G H σ cs) (rx : VRep X.K G H x v) (ry : VRep X.K G H y w) (h : oInB x y = some b) (q : Q (.bl (g b)) H) :
    rInAll X.K g v w H Q := by
  unfold oInB at h
  split at h
  · rename_i ys
    split at h
    · rename_i d e' ds e1 e2 e3
      cases h
      obtain ⟨p1, s1⟩ := shp_inv e1
      obtain ⟨p2, s2⟩ := shp_inv e2
      simp only [pyD, e3] at p2; cases p2
      exact .inl ⟨d, ds, rx.dp k.le p1, ry.dp k.le (by simp only [pyD, e3]; rfl), s1, s2, q⟩
    · cases h
  · rename_i ys
    split at h
    · rename_i d e' ds e1 e2 e3
      cases h
      obtain ⟨p1, s1⟩ := shp_inv e1
      obtain ⟨p2, s2⟩ := shp_inv e2
      simp only [pyD, e3] at p2; cases p2
      exact .inr (.inl ⟨d, ds, rx.dp k.le p1, ry.dp k.le (by simp only [pyD, e3]; rfl), s1, s2, q⟩)
    · cases h
  · rename_i m
    split at h
    · rename_i ky e1
      cases h
      obtain ⟨a, vs, rfl, h1, h2⟩ := ry.dk k.le
      refine .inr (.inr (.inl ⟨a, valV vs ky, rfl, .inl ⟨vs, ky, h1, dKey_rep e1 rx, rfl⟩, ?_⟩))
      rcases h2.get ky with ⟨d, v', q1, q2, _⟩ | ⟨q1, q2⟩
      · rw [q2]; rw [q1] at q; exact q
      · rw [q2]; rw [q1] at q; exact q
    · cases h
  · rename_i z
    split at h
    · rename_i c
      split at h
      · rename_i hs
        cases h
        refine .inr (.inr (.inr ⟨c.cps.getD 0 0, z, ?_, ry.str, q⟩))
        rw [rx.str]
        exact congrArg V.str (one_sign hs)
      · cases h
    · cases h
  · cases h
theorem in_ok : Op2 X (rInAll X.K id) oIn := by
  intro p G H σ cs x y v w z Q k rx ry h n
  unfold oIn at h
  split at h
  · rename_i b e
    cases h
    exact in_run k rx ry e (n.bl k)
  · cases h
theorem notIn_ok : Op2 X (rInAll X.K (!·)) oNotIn := by
  intro p G H σ cs x y v w z Q k rx ry h n
  unfold oNotIn at h
  split at h
  · rename_i b e
    cases h
    exact in_run k rx ry e (n.bl k)
  · cases h
/-! ### is None -/
def oIsN : D → D → Option Res
  | x, .non => match x with
    | .non => some (.d (.bl true))
    | _ => some (.d (.bl false))
  | _, _ => none
def oNotN : D → D → Option Res
  | x, .non => match x with
    | .non => some (.d (.bl false))
    | _ => some (.d (.bl true))
  | _, _ => none
theorem VRep.nonV {K : PySem.W.Frag} {G H : Hp} {x : D} {v : V} (h : VRep K G H x v) (n : x ≠ .non) : v ≠ .non := by
  rcases h with h | ⟨c, a, ho, _, rfl, _⟩
  · cases x <;> simp only [Rep] at h
    · exact absurd rfl n
    · subst h; simp
    · subst h; simp
    · subst h; simp
    · obtain ⟨a, vs, rfl, _⟩ := h; simp
    · obtain ⟨a, vs, rfl, _⟩ := h; simp
    · obtain ⟨a, o, vs, rfl, _⟩ := h; simp
    · obtain ⟨a, o, vs, rfl, _⟩ := h; simp
    · obtain ⟨a, dx, rfl, _⟩ := h; simp
    · obtain ⟨a, rfl, _⟩ := h; simp
  · simp
theorem isN_ok : Op2 X (fun x y H Q => y = .non ∧ Q (.bl (decide (x = .non))) H) oIsN := by
  intro p G H σ cs x y v w z Q k rx ry h n
  unfold oIsN at h
  split at h
  · split at h
    · cases h
      refine ⟨ry.non, ?_⟩
      rw [rx.non]; exact n.bl k
    · cases h
      rename_i hx
      refine ⟨ry.non, ?_⟩
      rw [decide_eq_false (rx.nonV fun e => hx e)]
      exact n.bl k
  · cases h
theorem notN_ok : Op2 X (fun x y H Q => y = .non ∧ Q (.bl (!decide (x = .non))) H) oNotN := by
  intro p G H σ cs x y v w z Q k rx ry h n
  unfold oNotN at h
  split at h
  · split at h
    · cases h
      refine ⟨ry.non, ?_⟩
      rw [rx.non]; exact n.bl k
    · cases h
      rename_i hx
      refine ⟨ry.non, ?_⟩
      rw [decide_eq_false (rx.nonV fun e => hx e)]
      exact n.bl k
  · cases h

/-! ### subscripts -/
def chr1 (c : Nat) : Str := ⟨#[c]⟩
def oIx : D → D → Option Res
  | .tup xs, .int i => (atI xs i).map .d
  | .lst xs, .int i => (atI xs i).map .d
  | .str s, .int i => if s.length ≤ sizeLine then (atI s.cps.toList i).map fun c => .d (.str (chr1 c)) else none
  | .dk m, x => match dKey x with
    | some k => (dGet m k).map .d
    | none => none
  | .scr ns, .int i => (atI ns i).map fun n => .d (.int n)
  | _, _ => none
def rIxDK : R2 := fun x y H Q => ∃ a v, x = .ref a ∧ DGet H a y (some v) ∧ Q v H
theorem ix_dk (hu : X.A.units + 65 < cLine) : IxR X rIxDK := by
  intro value slice pins s σ H x y v u Q I rx ry h hs
  obtain ⟨a, z, rfl, g, q⟩ := h
  cases rx
  exact PyProof.Rows.tail_any (dict_typeIs I g) PySem.F.slot_dict_getitem.lookup (d_getItem (by omega) I g ry fun w' s' I' r' => ⟨z, H, I', r', q⟩) hs
def rIxAll (K : PySem.W.Frag) : R2 := fun x y H Q => rIx K x y H Q ∨ rIxDK x y H Q
theorem or_ix (hu : X.A.units + 65 < cLine) : IxR X (rIxAll X.K) := ix_seq.or (ix_dk hu)
theorem reps_at {K : PySem.W.Frag} {G : Hp} {ds : List D} {vs : List V} {i : Int} {d : D} (h : Reps K G ds vs) (e : atI ds i = some d) : ∃ v, atI vs i = some v ∧ Rep K G d v := by
  unfold atI at e ⊢
  rw [h.len]
  cases q : ixN ds.length i with
  | none => rw [q] at e; cases e
  | some j => rw [q] at e; exact h.get e
theorem ix_ok : Op2 X (rIxAll X.K) oIx := by
  intro p G H σ cs x y v w z Q k rx ry h n
  unfold oIx at h
  split at h
  · rename_i xs i
    cases e : atI xs i with
    | none => rw [e] at h; cases h
    | some d =>
      rw [e] at h; cases h
      obtain ⟨a, vs, rfl, h1, r1⟩ := rx.tup k.le
      obtain ⟨u, e1, r2⟩ := reps_at r1 e
      exact .inl (.inr (.inl ⟨a, vs, i, u, rfl, ry.int, h1, e1, n.rep k r2⟩))
  · rename_i xs i
    cases e : atI xs i with
    | none => rw [e] at h; cases h
    | some d =>
      rw [e] at h; cases h
      obtain ⟨a, vs, rfl, h1, r1⟩ := rx.lst k.le
      obtain ⟨u, e1, r2⟩ := reps_at r1 e
      exact .inl (.inl ⟨a, vs, i, u, rfl, ry.int, SqL.of h1, e1, n.rep k r2⟩)
  · rename_i s i
    split at h
    · rename_i hl
      cases e : atI s.cps.toList i with
      | none => rw [e] at h; cases h
      | some c =>
        rw [e] at h; cases h
        exact .inl (.inr (.inr ⟨s, i, c, rx.str, ry.int, hl, e, n.str k⟩))
    · cases h
  · rename_i m
    split at h
    · rename_i ky e1
      cases e : dGet m ky with
      | none => rw [e] at h; cases h
      | some d =>
        rw [e] at h; cases h
        obtain ⟨a, vs, rfl, h1, h2⟩ := rx.dk k.le
        rcases h2.get ky with ⟨d', v', q1, q2, q3⟩ | ⟨q1, q2⟩
        · rw [e] at q1; cases q1
          exact .inr ⟨a, v', rfl, .inl ⟨vs, ky, h1, dKey_rep e1 ry, q2.symm⟩, n.rep k q3⟩
        · rw [e] at q1; cases q1
    · cases h
  · rename_i ns i
    cases e : atI ns i with
    | none => rw [e] at h; cases h
    | some d =>
      rw [e] at h; cases h
      obtain ⟨a, rfl, h1⟩ := rx.scr k.le
      refine .inl (.inl ⟨a, _, i, .int d, rfl, ry.int, h1, ?_, n.int k⟩)
      unfold atI at e ⊢
      rw [List.length_map]
      cases q : ixN ns.length i with
      | none => rw [q] at e; cases e
      | some j =>
        rw [q] at e
        have e' : ns[j]? = some d := e
        show (ns.map V.int)[j]? = _
        rw [List.getElem?_map, e']
        rfl
  · cases h
end
end DS

set_option Elab.async false
set_option linter.all false
set_option maxRecDepth 100000
set_option maxHeartbeats 1000000
set_option autoImplicit false
namespace DS
open PySem PySem.Spec L2

/-! ### displays -/
def datas : List Res → Option (List D)
  | [] => some []
  | .d x :: rs => match datas rs with
    | some xs => some (x :: xs)
    | none => none
  | _ :: _ => none
theorem datas_ok {K : PySem.W.Frag} {G : Hp} {σ : L2.St} : ∀ {rs : List Res} {vs : List V} {ds : List D}, ArgsOk K G σ rs vs → datas rs = some ds → Reps K G ds vs
  | [], _, _, h, e => by cases e; cases h; exact .nil
  | .d x :: rs, _, _, ⟨v, r', e1, h1, h2⟩, e => by
    simp only [datas] at e
    split at e
    · rename_i xs q
      cases e; subst e1
      exact .cons h1 (datas_ok h2 q)
    · cases e
  | .o _ :: _, _, _, _, e => by cases e
  | .s _ :: _, _, _, _, e => by cases e
def mkT (f : M (List Res)) : M Res := bnd f fun rs => lft (match datas rs with
  | some ds => iDec (ds.length ≤ sizeLine) (.d (.tup ds))
  | none => none)
def mkL (f : M (List Res)) : M Res := bnd f fun rs => lft (match datas rs with
  | some ds => iDec (ds.length ≤ sizeLine) (.o (.l ds))
  | none => none)
section
variable {X : Cx} {pos : Pos} {es : List Expr} {fs : M (List Res)}
theorem ev_tup {k0} (h : EvX X es fs) : EvE X (.Tuple es k0 pos) (mkT fs) := by
  intro p G H σ cs z cs' Q k hf hQ
  obtain ⟨rs, cs1, h1, h2⟩ := bnd_inv hf
  obtain ⟨h3, e⟩ := lft_inv h2
  subst e
  refine ⟨_, pe_tup pa_any, ?_⟩
  refine h p G H σ cs _ _ _ k h1 fun vs G1 H1 k1 l1 a1 => ?_
  split at h3
  · rename_i ds q
    obtain ⟨hl, rfl⟩ := iDec_inv h3
    have r := datas_ok a1 q
    refine ⟨by rw [r.len]; exact hl, fun t ht => ?_⟩
    exact Nxt.tup (fun u G' H' k' l' rr => hQ u G' H' k' (l1.trans l') rr) k1 ht r
  · cases h3
theorem ev_lst (h : EvX X es fs) : EvE X (.List es pos) (mkL fs) := by
  intro p G H σ cs z cs' Q k hf hQ
  obtain ⟨rs, cs1, h1, h2⟩ := bnd_inv hf
  obtain ⟨h3, e⟩ := lft_inv h2
  subst e
  refine ⟨_, pe_lst pa_any, ?_⟩
  refine h p G H σ cs _ _ _ k h1 fun vs G1 H1 k1 l1 a1 => ?_
  split at h3
  · rename_i ds q
    obtain ⟨hl, rfl⟩ := iDec_inv h3
    have r := datas_ok a1 q
    refine ⟨by rw [r.len]; exact hl, fun t ht => ?_⟩
    exact Nxt.new (fun u G' H' k' l' rr => hQ u G' H' k' (l1.trans l') rr) k1 ht ⟨_, rfl, r⟩
  · cases h3
def newK : M Res := ret (.o (.k []))
def newT : M Res := ret (.o (.t []))
theorem ev_dk0 : EvE X (.Dict [] [] pos) newK := by
  intro p G H σ cs z cs' Q k hf hQ
  cases hf
  refine ⟨_, pe_dnewK, fun q hq => ?_⟩
  exact Nxt.new (fun u G' H' k' l' rr => hQ u G' H' k' l' rr) k hq ⟨[], rfl, by simp only [RepK]⟩
theorem ev_dt0 : EvE X (.Dict [] [] pos) newT := by
  intro p G H σ cs z cs' Q k hf hQ
  cases hf
  refine ⟨_, pe_dnewT, fun q hq => ?_⟩
  exact Nxt.new (fun u G' H' k' l' rr => hQ u G' H' k' l' rr) k hq ⟨[], rfl, by simp only [RepT]⟩
end

/-! ### truth -/
def truD : D → Option Bool
  | .non => some false
  | .bl b => some b
  | .int i => some (i != 0)
  | .str s => if s.length ≤ sizeLine then some ((s.length : Int) != 0) else none
  | .tup xs => some (!xs.isEmpty)
  | .lst xs => some (!xs.isEmpty)
  | .dk m => some (!m.isEmpty)
  | _ => none
def tst (f : M Res) : M Bool := bnd (asR f) fun r => bnd (vw r) fun x => lft (truD x)
/-- the truth of a comparison, which is a bool -/
def tsb (f : M Res) : M Bool := bnd f fun r => match r with
  | .d (.bl b) => ret b
  | _ => fun _ => none
theorem tsb_inv {f : M Res} {cs cs' : Cs} {b : Bool} (h : tsb f cs = some (b, cs')) : f cs = some (.d (.bl b), cs') := by
  obtain ⟨r, cs1, h1, h2⟩ := bnd_inv h
  split at h2
  · cases h2; exact h1
  · cases h2
section
variable {X : Cx} {pos : Pos} {a b c e : Expr} {f g : M Res}
def rTru (K : PySem.W.Frag) : V → Hp → (Bool → Hp → Prop) → Prop := fun x H Q => (∃ k, TruV K x H k ∧ Q k H) ∨ ∃ a kvs, x = .ref a ∧ Rd H a (.dK kvs) ∧ Q (!kvs.isEmpty) H
theorem tru_all : TruR X (rTru X.K) := by
  intro pins s σ H x v Q I rx h
  rcases h with h | ⟨a, kvs, rfl, hk, q⟩
  · exact tru_ok pins s σ H x v Q I rx h
  · cases rx
    exact d_truth I hk fun s' I' => ⟨H, I', q⟩
theorem empty_reps {K : PySem.W.Frag} {G : Hp} {ds : List D} {vs : List V} (h : Reps K G ds vs) : vs.isEmpty = ds.isEmpty := by
  cases ds with
  | nil => rw [h.nil_inv]; rfl
  | cons d ds => obtain ⟨v, r, rfl, _⟩ := h.cons_inv; rfl
theorem empty_repk {K : PySem.W.Frag} {G : Hp} {ds : List (Key × D)} {vs : List (Key × V)} (h : RepK K G ds vs) : vs.isEmpty = ds.isEmpty := by
  have := h.len
  cases ds <;> cases vs <;> simp at this <;> rfl
theorem tru_run {p : Pt} {G H : Hp} {σ : L2.St} {cs : Cs} {x : D} {v : V} {t : Bool} {Q : Bool → Hp → Prop} (k : Ok X.K p G H σ cs) (r : VRep X.K G H x v) (h : truD x = some t) (q : Q t H) : rTru X.K v H Q := by
  cases x <;> simp only [truD] at h <;> try (cases h; done)
  · cases h; exact .inl ⟨false, by rw [r.non]; rfl, q⟩
  · cases h; exact .inl ⟨_, by rw [r.bl]; rfl, q⟩
  · cases h; exact .inl ⟨_, by rw [r.int]; rfl, q⟩
  · split at h
    · cases h; rename_i hl; exact .inl ⟨_, by rw [r.str]; exact ⟨hl, rfl⟩, q⟩
    · cases h
  · cases h
    obtain ⟨a, vs, rfl, h1, h2⟩ := r.tup k.le
    exact .inl ⟨_, .inr (.inl ⟨vs, h1, by rw [empty_reps h2]⟩), q⟩
  · cases h
    obtain ⟨a, vs, rfl, h1, h2⟩ := r.lst k.le
    exact .inl ⟨_, .inl ⟨vs, SqL.of h1, by rw [empty_reps h2]⟩, q⟩
  · cases h
    obtain ⟨a, vs, rfl, h1, h2⟩ := r.dk k.le
    exact .inr ⟨a, vs, rfl, h1, by rw [empty_repk h2]; exact q⟩
theorem et_val (h : EvE X e f) (he : ∀ whole, isTrue e X.env whole = (do let v ← whole; standAt e.pos; holding [v] (truthy v)) := by intro _; rfl) : EvT X e (tst f) := by
  intro p G H σ cs z cs' Q k hf hQ
  obtain ⟨r1, cs1, h1, hf1⟩ := bnd_inv hf
  obtain ⟨x, cs3, h3', hf2⟩ := bnd_inv hf1
  obtain ⟨h3, e3⟩ := vw_inv h3'
  subst e3
  obtain ⟨h5, e5⟩ := lft_inv hf2
  subst e5
  refine ⟨_, pt_truthR pe_any tru_all he, ?_⟩
  refine h.r p G H σ cs _ _ _ k h1 fun v G1 H1 k1 l1 a1 => ?_
  exact tru_run k1 (a1.view k1 h3) h5 (hQ G1 H1 k1 l1)
theorem et_cmp {op : CmpOp} {r : R2} {o : D → D → Option Res} (hr : OpR X (compareOp op) r) (ho : Op2 X r o) (ha : EvE X a f) (hb : EvE X b g) (hm : behindInMarks op b = false) : EvT X (.Compare a [op] [b] pos) (tsb (bi f g o)) := by
  intro p G H σ cs z cs' Q k hf hQ
  refine ⟨_, pt_cmpR hr pe_any pe_any hm, bi_run ho ha hb k (tsb_inv hf) fun v G' H' k' l' r' => ?_⟩
  have : Rep X.K G' (.bl z) v := r'
  simp only [Rep] at this
  exact ⟨z, this, hQ G' H' k' l'⟩
/-! chains of two comparisons -/
def chain (fa fb fc : M Res) (o1 o2 : D → D → Option Res) : M Res := bnd (asR fa) fun r1 => bnd (asR fb) fun r2 => bnd (vw r1) fun x => bnd (vw r2) fun y => bnd (lft (o1 x y)) fun z => match z with
  | .d (.bl true) => bnd (asR fc) fun r3 => bnd (vw r2) fun y' => bnd (vw r3) fun w => lft (o2 y' w)
  | .d (.bl false) => ret (.d (.bl false))
  | _ => fun _ => none
theorem chain_run {h : M Res} {r1 r2 : R2} {o1 o2 : D → D → Option Res} (ho1 : Op2 X r1 o1) (ho2 : Op2 X r2 o2) (ha : EvE X a f) (hb : EvE X b g) (hc : EvE X c h) {p : Pt} {G H : Hp} {σ : L2.St} {cs cs' : Cs} {z : Res} {Q : VK} (k : Ok X.K p G H σ cs)
    (hf : chain f g h o1 o2 cs = some (z, cs')) (hQ : ∀ v G' H', Ok X.K p G' H' σ cs' → Le G G' → ResOk X.K p G' H' σ cs' v z → Q v H') : tChain r1 r2 (tAny X a) (tAny X b) (tAny X c) σ H Q := by
  obtain ⟨q1, cs1, h1, hf1⟩ := bnd_inv hf
  obtain ⟨q2, cs2, h2, hf2⟩ := bnd_inv hf1
  obtain ⟨x, cs3, h3', hf3⟩ := bnd_inv hf2
  obtain ⟨y, cs4, h4', hf4⟩ := bnd_inv hf3
  obtain ⟨h3, e3⟩ := vw_inv h3'
  subst e3
  obtain ⟨h4, e4⟩ := vw_inv h4'
  subst e4
  obtain ⟨z1, cs5, h5', hf5⟩ := bnd_inv hf4
  obtain ⟨h5, e5⟩ := lft_inv h5'
  subst e5
  refine ha.r p G H σ cs _ _ _ k h1 fun v G1 H1 k1 l1 a1 => ?_
  refine hb.r p G1 H1 σ cs1 _ _ _ k1 h2 fun w G2 H2 k2 l2 a2 => ?_
  refine ho1 p G2 H2 σ _ x y v w _ _ k2 ((a1.le l2).view k2 h3) (a2.view k2 h4) h5 fun u G3 H3 k3 l3 r3 => ?_
  split at hf5
  · have e : u = .bl true := by
      have : Rep X.K G3 (.bl true) u := r3
      simpa only [Rep] using this
    refine ⟨true, e, ?_⟩
    rw [if_pos rfl]
    obtain ⟨q3, cs6, h6, hf6⟩ := bnd_inv hf5
    obtain ⟨y', cs7, h7', hf7⟩ := bnd_inv hf6
    obtain ⟨w3, cs8, h8', hf8⟩ := bnd_inv hf7
    obtain ⟨h7, e7⟩ := vw_inv h7'
    subst e7
    obtain ⟨h8, e8⟩ := vw_inv h8'
    subst e8
    obtain ⟨h9, e9⟩ := lft_inv hf8
    subst e9
    refine hc.r p G3 H3 σ _ _ _ _ k3 h6 fun u3 G4 H4 k4 l4 a4 => ?_
    exact ho2 p G4 H4 σ _ y' w3 w u3 z Q k4 (((a2.le l3).le l4).view k4 h7) (a4.view k4 h8) h9 fun u5 G5 H5 k5 l5 r5 => hQ u5 G5 H5 k5 ((((l1.trans l2).trans l3).trans l4).trans l5) r5
  · have e : u = .bl false := by
      have : Rep X.K G3 (.bl false) u := r3
      simpa only [Rep] using this
    refine ⟨false, e, ?_⟩
    rw [if_neg (by simp)]
    cases hf5
    refine hQ _ G3 H3 k3 ((l1.trans l2).trans l3) ?_
    show Rep X.K G3 (.bl false) (.bl false)
    simp only [Rep]
  · cases hf5
theorem ev_chain {h : M Res} {op op' : CmpOp} {r1 r2 : R2} {o1 o2 : D → D → Option Res} (hr1 : OpR X (compareOp op) r1) (hr2 : OpR X (compareOp op') r2) (ho1 : Op2 X r1 o1) (ho2 : Op2 X r2 o2) (ha : EvE X a f) (hb : EvE X b g) (hc : EvE X c h)
    (hm : lastMarks [op, op'] [b, c] = false := by with_unfolding_all rfl) : EvE X (.Compare a [op, op'] [b, c] pos) (chain f g h o1 o2) := by
  intro p G H σ cs z cs' Q k hf hQ
  exact ⟨_, pe_chain hr1 hr2 pe_any pe_any pe_any hm, chain_run ho1 ho2 ha hb hc k hf hQ⟩
theorem et_chain {h : M Res} {op op' : CmpOp} {r1 r2 : R2} {o1 o2 : D → D → Option Res} (hr1 : OpR X (compareOp op) r1) (hr2 : OpR X (compareOp op') r2) (ho1 : Op2 X r1 o1) (ho2 : Op2 X r2 o2) (ha : EvE X a f) (hb : EvE X b g) (hc : EvE X c h)
    (hm : lastMarks [op, op'] [b, c] = false := by with_unfolding_all rfl) : EvT X (.Compare a [op, op'] [b, c] pos) (tsb (chain f g h o1 o2)) := by
  intro p G H σ cs z cs' Q k hf hQ
  refine ⟨_, pt_chain hr1 hr2 pe_any pe_any pe_any hm, chain_run ho1 ho2 ha hb hc k (tsb_inv hf) fun v G' H' k' l' r' => ?_⟩
  have : Rep X.K G' (.bl z) v := r'
  simp only [Rep] at this
  exact ⟨z, this, hQ G' H' k' l'⟩

/-! ### and, or, not -/
def EvW (X : Cx) (e : Expr) (f : M Bool) : Prop := ∀ (p : Pt) (G H : Hp) (σ : L2.St) (cs : Cs) (r : Bool) (cs' : Cs) (Q : Bool → Hp → Prop), Ok X.K p G H σ cs → f cs = some (r, cs') →
  (∀ G' H', Ok X.K p G' H' σ cs' → Le G G' → Q r H') → ∃ t, PW X e t ∧ t σ H Q
def tAnyW (X : Cx) (e : Expr) : TT := fun σ H Q => ∃ t, PW X e t ∧ t σ H Q
theorem pw_any {e : Expr} : PW X e (tAnyW X e) := ⟨fun w pins s σ H Q I ⟨_, h, q⟩ => h.run w pins s σ H Q I q⟩
theorem EvW.t {h : M Bool} (w : EvW X e h) : EvT X e h := by
  intro p G H σ cs z cs' Q k hf hQ
  obtain ⟨t, ht, q⟩ := w p G H σ cs z cs' Q k hf hQ
  exact ⟨t, ht.pt, q⟩
def andT (f g : M Bool) : M Bool := bnd f fun b => if b then g else ret false
def orT (f g : M Bool) : M Bool := bnd f fun b => if b then ret true else g
def notT (f : M Bool) : M Bool := bnd f fun b => ret (!b)
variable {rest : List Expr} {ft gt : M Bool}
theorem ew_and1 (ha : EvT X a ft) : EvW X (.BoolOp .And [a] pos) ft := by
  intro p G H σ cs z cs' Q k hf hQ
  exact ⟨_, pw_and1 pt_any, ha p G H σ cs z cs' Q k hf hQ⟩
theorem ew_or1 (ha : EvT X a ft) : EvW X (.BoolOp .Or [a] pos) ft := by
  intro p G H σ cs z cs' Q k hf hQ
  exact ⟨_, pw_or1 pt_any, ha p G H σ cs z cs' Q k hf hQ⟩
theorem ew_and (ha : EvT X a ft) (hb : EvW X (.BoolOp .And (b :: rest) pos) gt) : EvW X (.BoolOp .And (a :: b :: rest) pos) (andT ft gt) := by
  intro p G H σ cs z cs' Q k hf hQ
  obtain ⟨c, cs1, h1, h2⟩ := bnd_inv hf
  refine ⟨_, pw_and pt_any pw_any, ?_⟩
  refine ha p G H σ cs _ _ _ k h1 fun G1 H1 k1 l1 => ?_
  cases c
  · cases h2
    rw [if_neg (by simp)]
    exact hQ G1 H1 k1 l1
  · rw [if_pos rfl]
    exact hb p G1 H1 σ cs1 _ _ _ k1 h2 fun G2 H2 k2 l2 => hQ G2 H2 k2 (l1.trans l2)
theorem ew_or (ha : EvT X a ft) (hb : EvW X (.BoolOp .Or (b :: rest) pos) gt) : EvW X (.BoolOp .Or (a :: b :: rest) pos) (orT ft gt) := by
  intro p G H σ cs z cs' Q k hf hQ
  obtain ⟨c, cs1, h1, h2⟩ := bnd_inv hf
  refine ⟨_, pw_or pt_any pw_any, ?_⟩
  refine ha p G H σ cs _ _ _ k h1 fun G1 H1 k1 l1 => ?_
  cases c
  · rw [if_neg (by simp)]
    exact hb p G1 H1 σ cs1 _ _ _ k1 h2 fun G2 H2 k2 l2 => hQ G2 H2 k2 (l1.trans l2)
  · cases h2
    rw [if_pos rfl]
    exact hQ G1 H1 k1 l1
theorem et_not (ha : EvT X a ft) : EvT X (.UnaryOp .Not a pos) (notT ft) := by
  intro p G H σ cs z cs' Q k hf hQ
  obtain ⟨c, cs1, h1, h2⟩ := bnd_inv hf
  cases h2
  exact ⟨_, pt_not pt_any, ha p G H σ cs _ _ _ k h1 fun G1 H1 k1 l1 => hQ G1 H1 k1 l1⟩
/-! values -/
def andV (f g : M Res) : M Res := bnd (tsb f) fun b => if b then g else ret (.d (.bl false))
def orV (f g : M Res) : M Res := bnd (tsb f) fun b => if b then ret (.d (.bl true)) else g
def notV (f : M Res) : M Res := bnd (tsb f) fun b => ret (.d (.bl (!b)))
theorem tsb_run (ha : EvE X a f) {p : Pt} {G H : Hp} {σ : L2.St} {cs cs' : Cs} {z : Bool} {Q : VK} (k : Ok X.K p G H σ cs) (hf : tsb f cs = some (z, cs')) (hQ : ∀ G' H', Ok X.K p G' H' σ cs' → Le G G' → Q (.bl z) H') : tAny X a σ H Q :=
  ha p G H σ cs _ cs' Q k (tsb_inv hf) fun v G' H' k' l' r' => by
    have : Rep X.K G' (.bl z) v := r'
    simp only [Rep] at this
    subst this
    exact hQ G' H' k' l'
theorem res_bl {K : PySem.W.Frag} {p : Pt} {G H : Hp} {σ : L2.St} {cs : Cs} {b : Bool} : ResOk K p G H σ cs (.bl b) (.d (.bl b)) := by
  show Rep K G (.bl b) (.bl b)
  simp only [Rep]
theorem ev_one {op} (h : EvE X a f) : EvE X (.BoolOp op [a] pos) f := by
  intro p G H σ cs z cs' Q k hf hQ
  exact ⟨_, pe_one pe_any, h p G H σ cs z cs' Q k hf hQ⟩
theorem ev_and (ha : EvE X a f) (hb : EvE X (.BoolOp .And (b :: rest) pos) g) : EvE X (.BoolOp .And (a :: b :: rest) pos) (andV f g) := by
  intro p G H σ cs z cs' Q k hf hQ
  obtain ⟨c, cs1, h1, h2⟩ := bnd_inv hf
  refine ⟨_, pe_and pe_any pe_any, ?_⟩
  refine tsb_run ha k h1 fun G1 H1 k1 l1 => ⟨c, rfl, ?_⟩
  cases c
  · cases h2
    rw [if_neg (by simp)]
    exact hQ _ G1 H1 k1 l1 res_bl
  · rw [if_pos rfl]
    exact hb p G1 H1 σ cs1 _ _ _ k1 h2 fun v G2 H2 k2 l2 r2 => hQ v G2 H2 k2 (l1.trans l2) r2
theorem ev_or (ha : EvE X a f) (hb : EvE X (.BoolOp .Or (b :: rest) pos) g) : EvE X (.BoolOp .Or (a :: b :: rest) pos) (orV f g) := by
  intro p G H σ cs z cs' Q k hf hQ
  obtain ⟨c, cs1, h1, h2⟩ := bnd_inv hf
  refine ⟨_, pe_or pe_any pe_any, ?_⟩
  refine tsb_run ha k h1 fun G1 H1 k1 l1 => ⟨c, rfl, ?_⟩
  cases c
  · rw [if_neg (by simp)]
    exact hb p G1 H1 σ cs1 _ _ _ k1 h2 fun v G2 H2 k2 l2 r2 => hQ v G2 H2 k2 (l1.trans l2) r2
  · cases h2
    rw [if_pos rfl]
    exact hQ _ G1 H1 k1 l1 res_bl
theorem ev_not (ha : EvE X a f) : EvE X (.UnaryOp .Not a pos) (notV f) := by
  intro p G H σ cs z cs' Q k hf hQ
  obtain ⟨c, cs1, h1, h2⟩ := bnd_inv hf
  cases h2
  exact ⟨_, pe_not pe_any, tsb_run ha k h1 fun G1 H1 k1 l1 => ⟨c, rfl, hQ _ G1 H1 k1 l1 res_bl⟩⟩
def ifV (t : M Bool) (f g : M Res) : M Res := bnd t fun b => if b then f else g
theorem ev_if {c : Expr} (hc : EvT X c ft) (ha : EvE X a f) (hb : EvE X b g) : EvE X (.IfExp c a b pos) (ifV ft f g) := by
  intro p G H σ cs z cs' Q k hf hQ
  obtain ⟨t, cs1, h1, h2⟩ := bnd_inv hf
  refine ⟨_, pe_ifExp pt_any pe_any pe_any, ?_⟩
  refine hc p G H σ cs _ _ _ k h1 fun G1 H1 k1 l1 => ?_
  cases t
  · rw [if_neg (by simp)]
    exact hb p G1 H1 σ cs1 _ _ _ k1 h2 fun v G2 H2 k2 l2 r2 => hQ v G2 H2 k2 (l1.trans l2) r2
  · rw [if_pos rfl]
    exact ha p G1 H1 σ cs1 _ _ _ k1 h2 fun v G2 H2 k2 l2 r2 => hQ v G2 H2 k2 (l1.trans l2) r2
end
end DS

set_option Elab.async false
set_option linter.all false
set_option maxRecDepth 100000
set_option maxHeartbeats 1000000
set_option autoImplicit false
namespace DS
open PySem PySem.Spec L2

inductive Out where
  | nx (cs : Cs) | rt (r : Res) (cs : Cs) | bk (cs : Cs) | ct (cs : Cs)
abbrev S := Cs → Option Out
def Fin (X : Cx) (p : Pt) (G : Hp) (E : Ends) : Out → Prop
  | .nx cs' => ∀ G' H' σ', Ok X.K p G' H' σ' cs' → Le G G' → E.nx σ' H'
  | .bk cs' => ∀ G' H' σ', Ok X.K p G' H' σ' cs' → Le G G' → E.bk σ' H'
  | .ct cs' => ∀ G' H' σ', Ok X.K p G' H' σ' cs' → Le G G' → E.ct σ' H'
  | .rt r cs' => ∀ v G' H' σ', Ok X.K p G' H' σ' cs' → Le G G' → ResOk X.K p G' H' σ' cs' v r → E.rt v H'
def EvS (X : Cx) (st : Stmt) (g : S) : Prop := ∀ (p : Pt) (G H : Hp) (σ : L2.St) (cs : Cs) (o : Out) (E : Ends), Ok X.K p G H σ cs → g cs = some o → Fin X p G E o → tAnyS X st E σ H
def EvB (X : Cx) (sts : List Stmt) (g : S) : Prop := ∀ (p : Pt) (G H : Hp) (σ : L2.St) (cs : Cs) (o : Out) (E : Ends), Ok X.K p G H σ cs → g cs = some o → Fin X p G E o → tAnySs X sts E σ H
theorem Fin.le {X : Cx} {p : Pt} {G G1 : Hp} {E : Ends} {o : Out} (l : Le G G1) (h : Fin X p G E o) : Fin X p G1 E o := by
  cases o with
  | nx c => exact fun G' H' σ' k l' => h G' H' σ' k (l.trans l')
  | bk c => exact fun G' H' σ' k l' => h G' H' σ' k (l.trans l')
  | ct c => exact fun G' H' σ' k l' => h G' H' σ' k (l.trans l')
  | rt r c => exact fun v G' H' σ' k l' => h v G' H' σ' k (l.trans l')
def seqS (f g : S) : S := fun cs => match f cs with
  | some (.nx cs') => g cs'
  | o => o
def nxt : S := fun cs => some (.nx cs)
section
variable {X : Cx} {pos : Pos} {st : Stmt} {rest : List Stmt} {a b c e : Expr} {f g : M Res} {gs hs : S}
theorem eb_nil : EvB X [] nxt := by
  intro p G H σ cs o E k hg h
  cases hg
  exact ⟨_, pss_nil, h G H σ k (.refl _)⟩
theorem eb_cons (h1 : EvS X st gs) (h2 : EvB X rest hs) : EvB X (st :: rest) (seqS gs hs) := by
  intro p G H σ cs o E k hg h
  refine ⟨_, pss_cons ps_any pss_any, ?_⟩
  unfold seqS at hg
  show tAnyS X st _ σ H
  split at hg
  · rename_i cs' e
    refine h1 p G H σ cs _ _ k e ?_
    intro G' H' σ' k' l'
    exact h2 p G' H' σ' cs' o E k' hg (h.le l')
  · rename_i ne
    refine h1 p G H σ cs o _ k hg ?_
    cases o with
    | nx c => exact absurd hg (ne c)
    | bk c => exact h
    | ct c => exact h
    | rt r c => exact h
theorem eb_one (h1 : EvS X st gs) : EvB X [st] gs := by
  intro p G H σ cs o E k hg h
  exact ⟨_, pss_one ps_any, h1 p G H σ cs o E k hg h⟩
theorem es_pass : EvS X (.Pass pos) nxt := by
  intro p G H σ cs o E k hg h
  cases hg
  exact ⟨_, ps_pass, h G H σ k (.refl _)⟩
def brkS : S := fun cs => some (.bk cs)
def cntS : S := fun cs => some (.ct cs)
theorem es_break : EvS X (.Break pos) brkS := by
  intro p G H σ cs o E k hg h
  cases hg
  exact ⟨_, ps_break, h G H σ k (.refl _)⟩
theorem es_cont : EvS X (.Continue pos) cntS := by
  intro p G H σ cs o E k hg h
  cases hg
  exact ⟨_, ps_continue, h G H σ k (.refl _)⟩
/-- a statement that is not reached -/
def nevS : S := fun _ => none
theorem es_never : EvS X st nevS := fun _ _ _ _ _ _ _ _ hg _ => by cases hg
theorem eb_never : EvB X rest nevS := fun _ _ _ _ _ _ _ _ hg _ => by cases hg

/-! ### assignments -/
def sR (i : Nat) (f : M Res) : S := fun cs => match f cs with
  | some (.d x, cs') => some (.nx (cs'.set i (.d x)))
  | some (.o c, cs') => some (.nx (cs'.set i (.o false c)))
  | _ => none
theorem es_set {i : Nat} {x : Str} {pos' : Pos} (hN : X.N.Nodup) (hi : X.N[i]? = some x) (hx : Loc X.env.scope x) (he : EvE X e f) (hs : swapsWith e (some (.Name x pos')) pos.line X.env = pure false := by rfl)
    (hf : X.fn x = true ∨ X.env.scope.names.lookup x = some .local := by first | exact .inl rfl | exact .inr rfl | assumption) : EvS X (.Assign [.Name x pos'] e pos) (sR i f) := by
  intro p G H σ cs o E k hg h
  refine ⟨_, ps_set hN hi hx pe_any hs hf, ?_⟩
  unfold sR at hg
  split at hg
  · rename_i y cs' e1
    cases hg
    refine he p G H σ cs _ _ _ k e1 fun v G' H' k' l' r' => ?_
    exact h G' H' _ (k'.setD i r') l'
  · rename_i y cs' e1
    cases hg
    refine he p G H σ cs _ _ _ k e1 fun v G' H' k' l' r' => ?_
    obtain ⟨a, ho, rfl, h1, h2, h3, h4, h5⟩ := r'
    exact h G' H' _ (k'.setO i h1 h2 h3 h4 h5) l'
  · cases hg
/-- the value is frozen as it is stored -/
def sF (i : Nat) (f : M Res) : S := sR i (bnd (asD f) fun x => ret (.d x))
theorem EvE.fz (h : EvE X e f) : EvE X e (bnd (asD f) fun x => ret (.d x)) := by
  intro p G H σ cs r cs' Q k hf hQ
  obtain ⟨x, cs1, h1, h2⟩ := bnd_inv hf
  cases h2
  exact h.d p G H σ cs x cs' Q k h1 fun v G' H' k' l' r' => hQ v G' H' k' l' r'
theorem es_setF {i : Nat} {x : Str} {pos' : Pos} (hN : X.N.Nodup) (hi : X.N[i]? = some x) (hx : Loc X.env.scope x) (he : EvE X e f) (hs : swapsWith e (some (.Name x pos')) pos.line X.env = pure false := by rfl)
    (hf : X.fn x = true ∨ X.env.scope.names.lookup x = some .local := by first | exact .inl rfl | exact .inr rfl | assumption) : EvS X (.Assign [.Name x pos'] e pos) (sF i f) := es_set hN hi hx he.fz hs hf
/-- an object's slot is frozen as it is read -/
def fzV (i : Nat) : M Res := fun cs => match cs[i]? with
  | some (.o false c) => some (.d c.fz, cs.set i (.d c.fz))
  | _ => none
theorem ev_fzV (i : Nat) {x : Str} (hN : X.N[i]? = some x := by rfl) (hv : Vis X.env.scope x := by first | exact Or.inl rfl | exact Or.inr (Or.inl rfl) | exact Or.inr (Or.inr rfl)) (hd : (x == ("__debug__" : Str)) = false := by decide)
    (hcd : (x == ("__classdict__" : Str)) = false := by decide) : EvE X (.Name x pos) (fzV i) := by
  intro p G H σ cs r cs' Q k hf hQ
  unfold fzV at hf
  split at hf
  · rename_i c e
    cases hf
    obtain ⟨a, ho, ev, h1, h2, h3⟩ := k.own e
    refine ⟨_, pe_fz (pe_var hN hv hd hcd), ?_⟩
    refine ⟨_, ev, ?_⟩
    have key : ∀ od, Q (.ref a) (upd H a (Fz c od ho)) := fun od => by
      obtain ⟨k2, l2⟩ := k.fzSlot od e ev h1
      refine hQ _ _ _ k2 l2 ?_
      show Rep X.K _ c.fz (.ref a)
      exact h2.fz l2 upd_same
    cases c with
    | l xs =>
      left
      have := key default
      have e : upd H a (Fz (.l xs) default ho) = H := by
        funext b
        show upd H a ho b = H b
        by_cases z : b = a
        · subst z; rw [upd_same, h1]
        · rw [upd_ne z]
      rw [e] at this
      exact this
    | k m => exact .inr ⟨a, ho, rfl, h1, mut_of h2, fun od => key od⟩
    | t m => exact .inr ⟨a, ho, rfl, h1, mut_of h2, fun od => key od⟩
  · cases hf

/-! ### expression statements, returns, ifs -/
def exS (f : M Res) : S := fun cs => match f cs with
  | some (_, cs') => some (.nx cs')
  | none => none
theorem es_expr (he : EvE X e f) (hs : swapsWith e none pos.line X.env = pure false := by rfl) : EvS X (.Expr e pos) (exS f) := by
  intro p G H σ cs o E k hg h
  refine ⟨_, ps_expr pe_any hs, ?_⟩
  unfold exS at hg
  split at hg
  · rename_i r cs' e1
    cases hg
    exact he p G H σ cs _ _ _ k e1 fun v G' H' k' l' r' => h G' H' σ k' l'
  · cases hg
def rtS (f : M Res) : S := fun cs => match f cs with
  | some (r, cs') => some (.rt r cs')
  | none => none
theorem es_ret (he : EvE X e f) : EvS X (.Return (some e) pos) (rtS f) := by
  intro p G H σ cs o E k hg h
  refine ⟨_, ps_ret pe_any, ?_⟩
  unfold rtS at hg
  split at hg
  · rename_i r cs' e1
    cases hg
    exact he p G H σ cs _ _ _ k e1 fun v G' H' k' l' r' => h v G' H' σ k' l' r'
  · cases hg
def rtN : S := fun cs => some (.rt (.d .non) cs)
theorem es_retN : EvS X (.Return none pos) rtN := by
  intro p G H σ cs o E k hg h
  cases hg
  refine ⟨_, ps_retN, h _ G H σ k (.refl _) ?_⟩
  show Rep X.K G .non .non
  simp only [Rep]
def ifS (t : M Bool) (f g : S) : S := fun cs => match t cs with
  | some (b, cs') => if b then f cs' else g cs'
  | none => none
theorem es_if {ft : M Bool} {bs ds : List Stmt} (hc : EvT X c ft) (ha : EvB X bs gs) (hb : EvB X ds hs) : EvS X (.If c bs ds pos) (ifS ft gs hs) := by
  intro p G H σ cs o E k hg h
  refine ⟨_, ps_if pt_any pss_any pss_any, ?_⟩
  unfold ifS at hg
  split at hg
  · rename_i t cs' e1
    refine hc p G H σ cs _ _ _ k e1 fun G' H' k' l' => ?_
    cases t
    · rw [if_neg (by simp)] at hg
      rw [if_neg (by simp)]
      exact hb p G' H' σ cs' o E k' hg (h.le l')
    · rw [if_pos rfl] at hg
      rw [if_pos rfl]
      exact ha p G' H' σ cs' o E k' hg (h.le l')
  · cases hg

/-! ### targets -/
def EvG (X : Cx) (tg : Expr) (h : D → Cs → Option Cs) : Prop := ∀ (p : Pt) (G H : Hp) (σ : L2.St) (cs cs' : Cs) (x : D) (v : V) (Q : L2.St → Hp → Prop), Ok X.K p G H σ cs → Rep X.K G x v → h x cs = some cs' →
  (∀ σ', Ok X.K p G H σ' cs' → Q σ' H) → tAnyG X tg v σ H Q
def EvGs (X : Cx) (tg : List Expr) (h : List D → Cs → Option Cs) : Prop := ∀ (p : Pt) (G H : Hp) (σ : L2.St) (cs cs' : Cs) (xs : List D) (vs : List V) (Q : L2.St → Hp → Prop), Ok X.K p G H σ cs → Reps X.K G xs vs → h xs cs = some cs' →
  (∀ σ', Ok X.K p G H σ' cs' → Q σ' H) → ∃ t, PGs X tg t ∧ t vs σ H Q
def tAnyGs (X : Cx) (tg : List Expr) : TGs := fun vs σ H Q => ∃ t, PGs X tg t ∧ t vs σ H Q
theorem pgs_any {tg : List Expr} : PGs X tg (tAnyGs X tg) := ⟨fun pins s σ H v u Q I r ⟨_, h, q⟩ => h.run pins s σ H v u Q I r q⟩
def gN (i : Nat) : D → Cs → Option Cs := fun x cs => some (cs.set i (.d x))
theorem eg_name {i : Nat} {x : Str} (hN : X.N.Nodup) (hi : X.N[i]? = some x) (hx : Loc X.env.scope x) (hf : X.fn x = true ∨ X.env.scope.names.lookup x = some .local := by first | exact .inl rfl | exact .inr rfl | assumption) : EvG X (.Name x pos) (gN i) := by
  intro p G H σ cs cs' y v Q k r hg h
  cases hg
  exact ⟨_, pg_name hN hi hx hf, h _ (k.setD i r)⟩
def gsN : List D → Cs → Option Cs := fun xs cs => match xs with
  | [] => some cs
  | _ => none
def gsC (h : D → Cs → Option Cs) (g : List D → Cs → Option Cs) : List D → Cs → Option Cs := fun xs cs => match xs with
  | x :: xs => (match h x cs with
    | some cs' => g xs cs'
    | none => none)
  | [] => none
theorem egs_nil : EvGs X [] gsN := by
  intro p G H σ cs cs' xs vs Q k r hg h
  unfold gsN at hg
  split at hg
  · cases hg
    exact ⟨_, pgs_nil, r.nil_inv, h σ k⟩
  · cases hg
theorem egs_cons {es : List Expr} {h1 : D → Cs → Option Cs} {h2 : List D → Cs → Option Cs} (ha : EvG X e h1) (hb : EvGs X es h2) (hs : (assignEach (e :: es) X.env).map (·.2) = assign e X.env :: (assignEach es X.env).map (·.2) := by rfl) : EvGs X (e :: es) (gsC h1 h2) := by
  intro p G H σ cs cs' xs vs Q k r hg h
  unfold gsC at hg
  split at hg
  · rename_i x xs
    split at hg
    · rename_i cs1 e1
      obtain ⟨v, r', rfl, r1, r2⟩ := r.cons_inv
      refine ⟨_, pgs_cons pg_any pgs_any hs, ?_⟩
      refine ⟨v, r', rfl, ?_⟩
      refine ha p G H σ cs cs1 x v _ k r1 e1 fun σ1 k1 => ?_
      exact hb p G H σ1 cs1 cs' xs r' Q k1 r2 hg h
    · cases hg
  · cases hg
def gT (n : Nat) (g : List D → Cs → Option Cs) : D → Cs → Option Cs := fun x cs => match x with
  | .tup xs => if xs.length = n then g xs cs else none
  | _ => none
theorem eg_tup {es : List Expr} {k0 n : Nat} {h : List D → Cs → Option Cs} (hc : X.calm = true) (hh : EvGs X es h) (hn : (assignEach es X.env).length = n := by rfl) (hst : (assignEach es X.env).findIdx? (·.1) = none := by rfl) : EvG X (.Tuple es k0 pos) (gT n h) := by
  intro p G H σ cs cs' x v Q k r hg q
  unfold gT at hg
  split at hg
  · rename_i xs
    split at hg
    · rename_i hl
      simp only [Rep] at r
      obtain ⟨a, vs, rfl, h1, h2⟩ := r
      exact ⟨_, pg_tup hc pgs_any hn hst, a, vs, rfl, k.le.sqT h1, by rw [h2.len]; exact hl, hh p G H σ cs cs' xs vs Q k h2 hg q⟩
    · cases hg
  · cases hg
/-- a, b = e of one tuple -/
def sG (h : D → Cs → Option Cs) (f : M Res) : S := fun cs => match asD f cs with
  | some (x, cs') => (match h x cs' with
    | some cs'' => some (.nx cs'')
    | none => none)
  | none => none
theorem es_asg {tg : Expr} {h : D → Cs → Option Cs} (he : EvE X e f) (hg : EvG X tg h) (hs : swapsWithSole [tg] e pos.line X.env = pure false := by rfl) (hw : swappedStores [tg] e X.env = pure none := by rfl)
    (h1 : (assignEach [tg] X.env).map (·.2) = [assign tg X.env] := by rfl) : EvS X (.Assign [tg] e pos) (sG h f) := by
  intro p G H σ cs o E k hh q
  refine ⟨_, ps_asg pe_any pg_any hs hw h1, ?_⟩
  unfold sG at hh
  split at hh
  · rename_i x cs' e1
    split at hh
    · rename_i cs'' e2
      cases hh
      refine he.d p G H σ cs _ _ _ k e1 fun v G' H' k' l' r' => ?_
      exact hg p G' H' σ cs' cs'' x v _ k' r' e2 fun σ' k2 => q G' H' σ' k2 l'
    · cases hh
  · cases hh
/-- a, b = e1, e2 without a tuple -/
def sP (i j : Nat) (fs : M (List Res)) : S := fun cs => match fs cs with
  | some ([.d x, .d y], cs') => some (.nx ((cs'.set i (.d x)).set j (.d y)))
  | _ => none
theorem es_par {i j : Nat} {x y : Str} {px py pt : Pos} {kt k2 pt2} {fs : M (List Res)} (hc : X.calm = true) (hN : X.N.Nodup) (hi : X.N[i]? = some x) (hj : X.N[j]? = some y) (hij : i ≠ j)
    (hx : X.env.scope.names.lookup x = some .local) (hy : X.env.scope.names.lookup y = some .local) (ha : EvX X [a, b] fs)
    (hw : swappedStores [.Tuple [.Name x px, .Name y py] kt pt] (.Tuple [a, b] k2 pt2) X.env = pure (some [x, y]))
    (hs : swapsWithSole [.Tuple [.Name x px, .Name y py] kt pt] (.Tuple [a, b] k2 pt2) pos.line X.env = pure false := by rfl) :
    EvS X (.Assign [.Tuple [.Name x px, .Name y py] kt pt] (.Tuple [a, b] k2 pt2) pos) (sP i j fs) := by
  intro p G H σ cs o E k hh q
  refine ⟨_, ps_par hc hN hi hj hij hx hy pa_any hw hs, ?_⟩
  unfold sP at hh
  split at hh
  · rename_i u w cs' e1
    cases hh
    refine ha p G H σ cs _ _ _ k e1 fun vs G' H' k' l' a' => ?_
    obtain ⟨v1, r1, rfl, a1, v2, r2, rfl, a2, rfl⟩ := a'
    exact ⟨v1, v2, rfl, q G' H' _ ((k'.setD i a1).setD j a2) l'⟩
  · cases hh
end
end DS

set_option Elab.async false
set_option linter.all false
set_option maxRecDepth 100000
set_option maxHeartbeats 1000000
set_option autoImplicit false
namespace DS
open PySem PySem.Spec L2
open PyProof.Rows (envOfC)

/-! ### a def's promise -/
def ent (G H : Hp) (vs : List V) (cs : Cs) : Pt := ⟨G, H, fun i => match cs[i]?, vs[i]? with
  | some (.o _ _), some (.ref a) => some a
  | _, _ => none⟩
abbrev Fd := Cs → Option (Res × Cs)
def spD (K : PySem.W.Frag) (n : Nat) (F : Fd) : Sp := fun vs H Q _ => ∃ G cs r cs', vs.length = n ∧ Ok K (ent G H vs cs) G H (vs.map some) cs ∧ F cs = some (r, cs') ∧
  ∀ v G' H', Ok K (ent G H vs cs) G' H' (vs.map some) cs' → Le G G' → ResOk K (ent G H vs cs) G' H' (vs.map some) cs' v r → Q v H'
/-- the arguments behind a body -/
def outA : Cs → Cs → Option Cs
  | [], _ => some []
  | .o _ _ :: cs, .o true c :: ds => (outA cs ds).map (.o true c :: ·)
  | .o _ _ :: _, _ => none
  | x :: cs, _ :: ds => (outA cs ds).map (x :: ·)
  | _ :: _, [] => none
def outR (cs : Cs) : Res → Option Res
  | .d x => some (.d x)
  | .o c => some (.o c)
  | .s i => match cs[i]? with
    | some (.o false c) => some (.o c)
    | _ => none
def fin (cs : Cs) (r : Res) (cs' : Cs) : Option (Res × Cs) := match outR cs' r, outA cs cs' with
  | some r', some as' => some (r', as')
  | _, _ => none
def bodyF (N : Nat) (g : S) : Fd := fun cs => match g (cs ++ List.replicate (N - cs.length) .un) with
  | some (.rt r cs') => fin cs r cs'
  | some (.nx cs') => fin cs (.d .non) cs'
  | _ => none
theorem outA_len : ∀ {cs ds as : Cs}, outA cs ds = some as → as.length = cs.length
  | [], _, _, h => by cases h; rfl
  | .o b c :: cs, .o true c' :: ds, _, h => by
    simp only [outA] at h
    cases e : outA cs ds with
    | none => rw [e] at h; cases h
    | some as => rw [e] at h; cases h; simp [outA_len e]
  | .o b c :: cs, .o false c' :: ds, _, h => by simp [outA] at h
  | .o b c :: cs, .un :: ds, _, h => by simp [outA] at h
  | .o b c :: cs, .d x :: ds, _, h => by simp [outA] at h
  | .o b c :: cs, [], _, h => by simp [outA] at h
  | .un :: cs, y :: ds, _, h => by
    simp only [outA] at h
    cases e : outA cs ds with
    | none => rw [e] at h; cases h
    | some as => rw [e] at h; cases h; simp [outA_len e]
  | .d x :: cs, y :: ds, _, h => by
    simp only [outA] at h
    cases e : outA cs ds with
    | none => rw [e] at h; cases h
    | some as => rw [e] at h; cases h; simp [outA_len e]
  | .un :: cs, [], _, h => by simp [outA] at h
  | .d x :: cs, [], _, h => by simp [outA] at h
theorem outA_get : ∀ {cs ds as : Cs} {i : Nat} {c : Cell}, outA cs ds = some as → as[i]? = some c →
    (∃ b c0 c1, cs[i]? = some (.o b c0) ∧ ds[i]? = some (.o true c1) ∧ c = .o true c1) ∨ (cs[i]? = some c ∧ ∀ b c0, c ≠ .o b c0)
  | [], _, _, i, c, h, e => by cases h; simp at e
  | .o b c0 :: cs, .o true c' :: ds, _, i, c, h, e => by
    simp only [outA] at h
    cases q : outA cs ds with
    | none => rw [q] at h; cases h
    | some as =>
      rw [q] at h; cases h
      cases i with
      | zero => simp at e; subst e; exact .inl ⟨b, c0, c', rfl, rfl, rfl⟩
      | succ i => simp only [List.getElem?_cons_succ] at e ⊢; exact outA_get q e
  | .o b c :: cs, .o false c' :: ds, _, _, _, h, _ => by simp [outA] at h
  | .o b c :: cs, .un :: ds, _, _, _, h, _ => by simp [outA] at h
  | .o b c :: cs, .d x :: ds, _, _, _, h, _ => by simp [outA] at h
  | .o b c :: cs, [], _, _, _, h, _ => by simp [outA] at h
  | .un :: cs, y :: ds, _, i, c, h, e => by
    simp only [outA] at h
    cases q : outA cs ds with
    | none => rw [q] at h; cases h
    | some as =>
      rw [q] at h; cases h
      cases i with
      | zero => simp at e; subst e; exact .inr ⟨rfl, by simp⟩
      | succ i => simp only [List.getElem?_cons_succ] at e ⊢; exact outA_get q e
  | .d x :: cs, y :: ds, _, i, c, h, e => by
    simp only [outA] at h
    cases q : outA cs ds with
    | none => rw [q] at h; cases h
    | some as =>
      rw [q] at h; cases h
      cases i with
      | zero => simp at e; subst e; exact .inr ⟨rfl, by simp⟩
      | succ i => simp only [List.getElem?_cons_succ] at e ⊢; exact outA_get q e
  | .un :: cs, [], _, _, _, h, _ => by simp [outA] at h
  | .d x :: cs, [], _, _, _, h, _ => by simp [outA] at h
section
variable {K : PySem.W.Frag} {G H G' H' : Hp} {vs : List V} {cs cs' : Cs} {σ' : L2.St}
theorem get_app {α : Type} {l m : List α} {i : Nat} {x : α} (h : (l ++ m)[i]? = some x) : l[i]? = some x ∨ (l.length ≤ i ∧ m[i - l.length]? = some x) := by
  by_cases e : i < l.length
  · rw [List.getElem?_append_left e] at h; exact .inl h
  · rw [List.getElem?_append_right (by omega)] at h; exact .inr ⟨by omega, h⟩
theorem Ok.start (N : List Str) (k : Ok K (ent G H vs cs) G H (vs.map some) cs) : Ok K (ent G H vs cs) G H (L2.start N vs) (cs ++ List.replicate (N.length - cs.length) .un) := by
  have hl : vs.length = cs.length := by simpa using k.len
  unfold L2.start
  refine ⟨by simp [hl], fun i c v e1 e2 => ?_, fun i j io io' c c' a e1 e2 e3 e4 => ?_, k.le, k.sub, k.fr, k.dom, k.g0, k.gn, k.ios⟩
  · rcases get_app e1 with e1 | ⟨h1, e1⟩
    · rcases get_app e2 with e2 | ⟨h2, _⟩
      · exact k.cells i c v e1 e2
      · have := (List.getElem?_eq_some_iff.mp e1).1
        simp at h2
        omega
    · have := List.mem_of_getElem? e1
      rw [List.mem_replicate] at this
      rw [this.2]; trivial
  · have hi : cs[i]? = some (.o io c) := by
      rcases get_app e1 with e | ⟨_, e⟩
      · exact e
      · have := List.mem_of_getElem? e
        rw [List.mem_replicate] at this
        cases this.2
    have hj : cs[j]? = some (.o io' c') := by
      rcases get_app e2 with e | ⟨_, e⟩
      · exact e
      · have := List.mem_of_getElem? e
        rw [List.mem_replicate] at this
        cases this.2
    have li := (List.getElem?_eq_some_iff.mp hi).1
    have lj := (List.getElem?_eq_some_iff.mp hj).1
    rw [List.getElem?_append_left (by simp; omega)] at e3
    rw [List.getElem?_append_left (by simp; omega)] at e4
    exact k.sep i j io io' c c' a hi hj e3 e4
theorem Ok.back {as : Cs} (k0 : Ok K (ent G H vs cs) G H (vs.map some) cs) (k : Ok K (ent G H vs cs) G' H' σ' cs') (l : Le G G') (e : outA cs cs' = some as) : Ok K (ent G H vs cs) G' H' (vs.map some) as := by
  refine ⟨by rw [outA_len e]; exact k0.len, fun i c v e1 e2 => ?_, fun i j io io' c c' a e1 e2 e3 e4 => ?_, k.le, k.sub, k.fr, k.dom, k.g0, k.gn, k.ios⟩
  · rcases outA_get e e1 with ⟨b, c0, c1, q1, q2, rfl⟩ | ⟨q1, q2⟩
    · obtain ⟨a, ho, ev, h1, h2, h3⟩ := k.own q2
      obtain ⟨v', ev'⟩ := sig_at k q2
      obtain ⟨a', ho', ev2, g1, g2, g3, g4, g5⟩ := k.cells i _ _ q2 ev'
      have hio := g4 rfl
      obtain ⟨a0, ho0, ev0, _⟩ := k0.own q1
      rw [e2] at ev0
      have ev0' := Option.some.inj ev0
      have ex : vs[i]? = some (.ref a0) := by
        rw [List.getElem?_map, ev0'] at e2
        cases q : vs[i]? with
        | none => rw [q] at e2; cases e2
        | some z => rw [q] at e2; cases e2; rfl
      have hio2 : (ent G H vs cs).io i = some a0 := by
        show (match cs[i]?, vs[i]? with
          | some (.o _ _), some (.ref a) => some a
          | _, _ => none) = some a0
        rw [q1, ex]
      rw [hio2] at hio
      cases hio
      exact ⟨_, ho', ev0', g1, g2, g3, fun _ => hio2, nofun⟩
    · have := k0.cells i c v q1 e2
      cases c with
      | un => trivial
      | d x =>
        obtain ⟨u, e3, r⟩ := this
        exact ⟨u, e3, r.le l⟩
      | o b c0 => exact absurd rfl (q2 b c0)
  · rcases outA_get e e1 with ⟨b, c0, c1, q1, _, _⟩ | ⟨_, q2⟩
    · rcases outA_get e e2 with ⟨b', c0', c1', q1', _, _⟩ | ⟨_, q2⟩
      · exact k0.sep i j b b' c0 c0' a q1 q1' e3 e4
      · exact absurd rfl (q2 _ _)
    · exact absurd rfl (q2 _ _)
theorem Free.ent (k0 : Ok K (ent G H vs cs) G H (vs.map some) cs) {as ds : Cs} (e : outA cs ds = some as) {a : Addr} (h : H a = none) : Free (vs.map some) as a := by
  intro i io c e1 e2
  rcases outA_get e e1 with ⟨b, c0, c1, q1, _, _⟩ | ⟨_, q2⟩
  · obtain ⟨a0, ho0, ev0, h1, _⟩ := k0.own q1
    rw [e2] at ev0
    cases ev0
    rw [h] at h1; cases h1
  · exact absurd rfl (q2 _ _)
theorem fin_run {r r' : Res} {as : Cs} (k0 : Ok K (ent G H vs cs) G H (vs.map some) cs) (e : fin cs r cs' = some (r', as)) {v : V} (k : Ok K (ent G H vs cs) G' H' σ' cs') (l : Le G G') (rr : ResOk K (ent G H vs cs) G' H' σ' cs' v r) :
    Ok K (ent G H vs cs) G' H' (vs.map some) as ∧ ResOk K (ent G H vs cs) G' H' (vs.map some) as v r' := by
  unfold fin at e
  split at e
  · rename_i q1 q2 e1 e2
    cases e
    refine ⟨k0.back k l e2, ?_⟩
    cases r with
    | d x => cases e1; exact rr
    | o c =>
      cases e1
      obtain ⟨a, ho, rfl, h1, h2, h3, h4, h5⟩ := rr
      exact ⟨a, ho, rfl, h1, h2, h3, h4, Free.ent k0 e2 h4⟩
    | s i =>
      obtain ⟨s1, io, c, s2⟩ := rr
      simp only [outR, s2] at e1
      cases io with
      | true => cases e1
      | false =>
        cases e1
        obtain ⟨a', ho', ev2, g1, g2, g3, g4, g5⟩ := k.cells i _ _ s2 s1
        cases ev2
        exact ⟨a', ho', rfl, g1, g2, g3, g5 rfl, Free.ent k0 e2 (g5 rfl)⟩
  · cases e
end
section
variable {P : Program} {w : World} {K : PySem.W.Frag} {mg : Str → Option Value} {base : Heap}
/-- THE RULE for a def -/
theorem fun_ok {x qual : Str} {st : Stmt} {f : Addr} {fd : FuncData} {N ps : List Str} {k : Nat} {g : S} (F : Fun K x qual st f fd) (S : FnScope N ps (defScope st))
    (hbody : ∀ (cdv : Value) (A : Around) (outer : List Env) (s : Shared) (H : Hp) (E : XK), Room k (A.deeper (envOfC qual (defScope st) s.heap.objs.size f cdv)) →
      EvB (cxOf CX0 P w K mg base N qual (defScope st) f cdv A outer s H E).nox (defBody st) g) :
    FnOk P w K mg base CX0 (k + 1) f fd ps (spD K ps.length (bodyF N.length g)) := by
  refine F.ok S (fun vs H Q E h => ?_) (fun cdv A outer s H vs Q E hr h => ?_)
  · obtain ⟨G, cs, r, cs', hl, _⟩ := h
    exact hl
  · obtain ⟨G, cs, r, cs', hl, k0, hf, hQ⟩ := h
    refine ⟨_, pss_any, ?_⟩
    have hb := hbody cdv A outer s H E hr
    unfold bodyF at hf
    split at hf
    · rename_i q cs1 e1
      refine hb (ent G H vs cs) G H (L2.start N vs) _ _ _ (k0.start N) e1 ?_
      intro v G' H' σ' k' l' rr
      obtain ⟨k2, r2⟩ := fin_run k0 hf k' l' rr
      exact hQ v G' H' k2 l' r2
    · rename_i cs1 e1
      refine hb (ent G H vs cs) G H (L2.start N vs) _ _ _ (k0.start N) e1 ?_
      intro G' H' σ' k' l'
      obtain ⟨k2, r2⟩ := fin_run k0 hf (v := .non) k' l' (show Rep K G' .non .non by simp only [Rep])
      exact hQ _ G' H' k2 l' r2
    · cases hf
theorem FnOk.le {f : Addr} {fd : FuncData} {ps : List Str} {n k : Nat} {F F' : Fd} (h : FnOk P w K mg base CX0 k f fd ps (spD K n F)) (e : ∀ cs r, F' cs = some r → F cs = some r) : FnOk P w K mg base CX0 k f fd ps (spD K n F') :=
  h.imp fun vs H Q E ⟨G, cs, r, cs', hl, k0, hf, hQ⟩ => ⟨G, cs, r, cs', hl, k0, e _ _ hf, hQ⟩
end

/-! ### calls -/
def mkArgs (cs : Cs) : List Res → Option Cs
  | [] => some []
  | .d x :: rs => match mkArgs cs rs with
    | some as => some (.d x :: as)
    | none => none
  | .s i :: rs => match cs[i]?, mkArgs cs rs with
    | some (.o _ c), some as => some (.o true c :: as)
    | _, _ => none
  | .o _ :: _ => none
def slots : List Res → List Nat
  | [] => []
  | .s i :: rs => i :: slots rs
  | _ :: rs => slots rs
def putO (cs : Cs) (i : Nat) (c : O) : Cs := match cs[i]? with
  | some (.o io _) => cs.set i (.o io c)
  | _ => cs
def putBack (cs : Cs) : List Res → Cs → Cs
  | .s i :: rs, .o _ c :: as => putO (putBack cs rs as) i c
  | _ :: rs, _ :: as => putBack cs rs as
  | _, _ => cs
def backOk : List Res → Cs → Bool
  | [], _ => true
  | .s _ :: rs, .o true _ :: as => backOk rs as
  | .s _ :: _, _ => false
  | .d _ :: rs, _ :: as => backOk rs as
  | .o _ :: rs, _ :: as => backOk rs as
  | _ :: _, [] => false
theorem backOk_get : ∀ {rs : List Res} {as : Cs} {i j : Nat}, backOk rs as = true → rs[i]? = some (.s j) → ∃ c, as[i]? = some (.o true c)
  | [], _, _, _, _, e => by simp at e
  | .s x :: rs, .o true c :: as, 0, _, _, _ => ⟨c, rfl⟩
  | .s x :: rs, .o true c :: as, i + 1, _, h, e => by
    simp only [backOk] at h
    simp only [List.getElem?_cons_succ] at e ⊢
    exact backOk_get h e
  | .s x :: rs, .o false c :: as, _, _, h, _ => by simp [backOk] at h
  | .s x :: rs, .un :: as, _, _, h, _ => by simp [backOk] at h
  | .s x :: rs, .d y :: as, _, _, h, _ => by simp [backOk] at h
  | .s x :: rs, [], _, _, h, _ => by simp [backOk] at h
  | .d x :: rs, y :: as, 0, _, _, e => by simp at e
  | .o x :: rs, y :: as, 0, _, _, e => by simp at e
  | .d x :: rs, y :: as, i + 1, _, h, e => by
    simp only [backOk] at h
    simp only [List.getElem?_cons_succ] at e ⊢
    exact backOk_get h e
  | .o x :: rs, y :: as, i + 1, _, h, e => by
    simp only [backOk] at h
    simp only [List.getElem?_cons_succ] at e ⊢
    exact backOk_get h e
  | .d x :: rs, [], _, _, h, _ => by simp [backOk] at h
  | .o x :: rs, [], _, _, h, _ => by simp [backOk] at h
def callF (F : Fd) (fs : M (List Res)) : M Res := bnd fs fun rs cs => if (slots rs).Nodup then
  (match mkArgs cs rs with
  | some as => (match F as with
    | some (.d x, as') => if backOk rs as' then some (.d x, putBack cs rs as') else none
    | some (.o c, as') => if backOk rs as' then some (.o c, putBack cs rs as') else none
    | _ => none)
  | none => none) else none
theorem mkArgs_len {cs : Cs} : ∀ {rs : List Res} {as : Cs}, mkArgs cs rs = some as → as.length = rs.length
  | [], _, h => by cases h; rfl
  | .d x :: rs, _, h => by
    simp only [mkArgs] at h
    split at h
    · cases h; rename_i e; simp [mkArgs_len e]
    · cases h
  | .s i :: rs, _, h => by
    simp only [mkArgs] at h
    split at h
    · cases h; rename_i e; simp [mkArgs_len e]
    · cases h
  | .o c :: rs, _, h => by simp [mkArgs] at h
theorem mkArgs_get {cs : Cs} : ∀ {rs : List Res} {as : Cs} {i : Nat} {c : Cell}, mkArgs cs rs = some as → as[i]? = some c →
    (∃ x, rs[i]? = some (.d x) ∧ c = .d x) ∨ ∃ j io o, rs[i]? = some (.s j) ∧ cs[j]? = some (.o io o) ∧ c = .o true o
  | [], _, _, _, h, e => by cases h; simp at e
  | .d x :: rs, _, i, c, h, e => by
    simp only [mkArgs] at h
    split at h
    · cases h
      rename_i as q
      cases i with
      | zero => simp at e; subst e; exact .inl ⟨x, rfl, rfl⟩
      | succ i => simp only [List.getElem?_cons_succ] at e ⊢; exact mkArgs_get q e
    · cases h
  | .s j :: rs, _, i, c, h, e => by
    simp only [mkArgs] at h
    split at h
    · cases h
      rename_i io o as q1 q2
      cases i with
      | zero => simp at e; subst e; exact .inr ⟨j, io, o, rfl, q1, rfl⟩
      | succ i => simp only [List.getElem?_cons_succ] at e ⊢; exact mkArgs_get q2 e
    · cases h
  | .o c :: rs, _, _, _, h, _ => by simp [mkArgs] at h
theorem slots_mem : ∀ {rs : List Res} {i j : Nat}, rs[i]? = some (.s j) → j ∈ slots rs
  | [], _, _, h => by simp at h
  | .d x :: rs, 0, _, h => by simp at h
  | .o x :: rs, 0, _, h => by simp at h
  | .s x :: rs, 0, _, h => by simp at h; subst h; simp [slots]
  | .d x :: rs, i + 1, _, h => by simp at h; simp only [slots]; exact slots_mem h
  | .o x :: rs, i + 1, _, h => by simp at h; simp only [slots]; exact slots_mem h
  | .s x :: rs, i + 1, _, h => by simp at h; simp only [slots, List.mem_cons]; exact .inr (slots_mem h)
theorem slots_inj : ∀ {rs : List Res} {i i' j : Nat}, (slots rs).Nodup → rs[i]? = some (.s j) → rs[i']? = some (.s j) → i = i'
  | [], _, _, _, _, h, _ => by simp at h
  | .d x :: rs, 0, _, _, _, h, _ => by simp at h
  | .d x :: rs, _ + 1, 0, _, _, _, h => by simp at h
  | .d x :: rs, i + 1, i' + 1, _, n, h, h' => by simp at h h'; simp only [slots] at n; rw [slots_inj n h h']
  | .o x :: rs, 0, _, _, _, h, _ => by simp at h
  | .o x :: rs, _ + 1, 0, _, _, _, h => by simp at h
  | .o x :: rs, i + 1, i' + 1, _, n, h, h' => by simp at h h'; simp only [slots] at n; rw [slots_inj n h h']
  | .s x :: rs, 0, 0, _, _, _, _ => rfl
  | .s x :: rs, 0, i' + 1, _, n, h, h' => by
    simp at h h'; subst h
    simp only [slots, List.nodup_cons] at n
    exact absurd (slots_mem h') n.1
  | .s x :: rs, i + 1, 0, _, n, h, h' => by
    simp at h h'; subst h'
    simp only [slots, List.nodup_cons] at n
    exact absurd (slots_mem h) n.1
  | .s x :: rs, i + 1, i' + 1, _, n, h, h' => by
    simp at h h'; simp only [slots, List.nodup_cons] at n; rw [slots_inj n.2 h h']
theorem putO_len (cs : Cs) (i : Nat) (c : O) : (putO cs i c).length = cs.length := by
  unfold putO; split <;> simp
theorem putO_ne {cs : Cs} {i j : Nat} {c : O} (h : i ≠ j) : (putO cs i c)[j]? = cs[j]? := by
  unfold putO; split
  · rw [List.getElem?_set_ne h]
  · rfl
theorem putO_eq {cs : Cs} {i : Nat} {c c0 : O} {io : Bool} (h : cs[i]? = some (.o io c0)) : (putO cs i c)[i]? = some (.o io c) := by
  unfold putO; rw [h]
  have := (List.getElem?_eq_some_iff.mp h).1
  simp [this]
theorem pb_len (cs : Cs) : ∀ (rs : List Res) (as : Cs), (putBack cs rs as).length = cs.length
  | [], _ => by simp [putBack]
  | .s i :: rs, .o b c :: as => by simp only [putBack, putO_len]; exact pb_len cs rs as
  | .s i :: rs, .un :: as => by simp only [putBack]; exact pb_len cs rs as
  | .s i :: rs, .d x :: as => by simp only [putBack]; exact pb_len cs rs as
  | .d x :: rs, y :: as => by simp only [putBack]; exact pb_len cs rs as
  | .o x :: rs, y :: as => by simp only [putBack]; exact pb_len cs rs as
  | _ :: rs, [] => by simp [putBack]
theorem pb_other {cs : Cs} {j : Nat} : ∀ {rs : List Res} {as : Cs}, j ∉ slots rs → (putBack cs rs as)[j]? = cs[j]?
  | [], _, _ => by simp [putBack]
  | .s i :: rs, .o b c :: as, h => by
    simp only [slots, List.mem_cons, not_or] at h
    simp only [putBack]
    rw [putO_ne (fun e => h.1 e.symm)]
    exact pb_other h.2
  | .s i :: rs, .un :: as, h => by
    simp only [slots, List.mem_cons, not_or] at h
    simp only [putBack]; exact pb_other h.2
  | .s i :: rs, .d x :: as, h => by
    simp only [slots, List.mem_cons, not_or] at h
    simp only [putBack]; exact pb_other h.2
  | .d x :: rs, y :: as, h => by simp only [putBack]; exact pb_other h
  | .o x :: rs, y :: as, h => by simp only [putBack]; exact pb_other h
  | _ :: rs, [], _ => by simp [putBack]
theorem pb_in {cs : Cs} {j : Nat} {io b : Bool} {c c0 : O} (h0 : cs[j]? = some (.o io c0)) : ∀ {rs : List Res} {as : Cs} {i : Nat}, (slots rs).Nodup → rs[i]? = some (.s j) → as[i]? = some (.o b c) → (putBack cs rs as)[j]? = some (.o io c)
  | [], _, _, _, h, _ => by simp at h
  | _ :: _, [], _, _, _, h => by simp at h
  | .s x :: rs, a :: as, 0, n, h, h' => by
    simp at h h'; subst h; subst h'
    simp only [slots, List.nodup_cons] at n
    simp only [putBack]
    exact putO_eq (c0 := c0) (by rw [pb_other n.1]; exact h0)
  | .d x :: rs, a :: as, 0, n, h, h' => by simp at h
  | .o x :: rs, a :: as, 0, n, h, h' => by simp at h
  | .d x :: rs, a :: as, i + 1, n, h, h' => by
    simp at h h'; simp only [slots] at n; simp only [putBack]; exact pb_in h0 n h h'
  | .o x :: rs, a :: as, i + 1, n, h, h' => by
    simp at h h'; simp only [slots] at n; simp only [putBack]; exact pb_in h0 n h h'
  | .s x :: rs, .o b' c' :: as, i + 1, n, h, h' => by
    simp at h h'; simp only [slots, List.nodup_cons] at n; simp only [putBack]
    have : x ≠ j := fun e => by subst e; exact n.1 (slots_mem h)
    rw [putO_ne this]
    exact pb_in h0 n.2 h h'
  | .s x :: rs, .un :: as, i + 1, n, h, h' => by
    simp at h h'; simp only [slots, List.nodup_cons] at n; simp only [putBack]; exact pb_in h0 n.2 h h'
  | .s x :: rs, .d y :: as, i + 1, n, h, h' => by
    simp at h h'; simp only [slots, List.nodup_cons] at n; simp only [putBack]; exact pb_in h0 n.2 h h'
theorem ArgsOk.get {K : PySem.W.Frag} {G : Hp} {σ : L2.St} : ∀ {rs : List Res} {vs : List V} {i : Nat} {r : Res}, ArgsOk K G σ rs vs → rs[i]? = some r → ∃ v, vs[i]? = some v ∧ ArgOk K G σ v r
  | [], _, _, _, _, e => by simp at e
  | r :: rs, _, 0, _, ⟨v, r', rfl, h1, h2⟩, e => by simp at e; subst e; exact ⟨v, rfl, h1⟩
  | r :: rs, _, i + 1, _, ⟨v, r', rfl, h1, h2⟩, e => by simp at e ⊢; exact ArgsOk.get h2 e
theorem ArgsOk.len {K : PySem.W.Frag} {G : Hp} {σ : L2.St} : ∀ {rs : List Res} {vs : List V}, ArgsOk K G σ rs vs → vs.length = rs.length
  | [], _, h => by cases h; rfl
  | r :: rs, _, ⟨v, r', rfl, h1, h2⟩ => by simp [ArgsOk.len h2]
section
variable {K : PySem.W.Frag} {p : Pt} {G H G' H' : Hp} {σ : L2.St} {cs : Cs} {rs : List Res} {vs : List V} {as as' : Cs}
theorem Ok.args (k : Ok K p G H σ cs) (a : ArgsOk K G σ rs vs) (nd : (slots rs).Nodup) (m : mkArgs cs rs = some as) : Ok K (ent G H vs as) G H (vs.map some) as := by
  have hl : vs.length = as.length := by rw [a.len, mkArgs_len m]
  refine ⟨by simp [hl], fun i c v e1 e2 => ?_, fun i j io io' c c' ad e1 e2 e3 e4 => ?_, k.le, k.sub, fun _ _ h _ => h, fun _ h => h, .refl _, fun _ h => .inl h, fun i ad hio => ?_⟩
  · have ev : ∃ u, vs[i]? = some u ∧ v = some u := by
      rw [List.getElem?_map] at e2
      cases q : vs[i]? with
      | none => rw [q] at e2; cases e2
      | some u => rw [q] at e2; cases e2; exact ⟨u, rfl, rfl⟩
    obtain ⟨u, ev, rfl⟩ := ev
    rcases mkArgs_get m e1 with ⟨x, q1, rfl⟩ | ⟨j, io, o, q1, q2, rfl⟩
    · obtain ⟨v', ev', h⟩ := a.get q1
      rw [ev] at ev'; cases ev'
      exact ⟨u, rfl, h⟩
    · obtain ⟨v', ev', h⟩ := a.get q1
      rw [ev] at ev'; cases ev'
      obtain ⟨ad, ho, g1, g2, g3, g4⟩ := k.own q2
      have h' : σ[j]? = some (some u) := h
      rw [g1] at h'; cases h'
      refine ⟨ad, ho, rfl, g2, g3, g4, fun _ => ?_, nofun⟩
      show (match as[i]?, vs[i]? with
          | some (.o _ _), some (.ref a) => some a
          | _, _ => none) = some ad
      rw [e1, ev]
  · have f : ∀ {i : Nat} {io : Bool} {c : O}, as[i]? = some (.o io c) → (vs.map some)[i]? = some (some (.ref ad)) → ∃ j io2 o, rs[i]? = some (.s j) ∧ cs[j]? = some (.o io2 o) ∧ σ[j]? = some (some (.ref ad)) := by
      intro i io c e1 e3
      rcases mkArgs_get m e1 with ⟨x, q1, q⟩ | ⟨j, io2, o, q1, q2, q⟩
      · cases q
      · obtain ⟨v', ev', h⟩ := a.get q1
        rw [List.getElem?_map, ev'] at e3
        cases e3
        exact ⟨j, io2, o, q1, q2, h⟩
    obtain ⟨x, b1, o1, p1, p2, p3⟩ := f e1 e3
    obtain ⟨y, b2, o2, r1, r2, r3⟩ := f e2 e4
    have := k.sep x y b1 b2 o1 o2 ad p2 r2 p3 r3
    subst this
    exact slots_inj nd p1 r1
  · have h' : (match as[i]?, vs[i]? with
          | some (.o _ _), some (.ref a) => some a
          | _, _ => none) = some ad := hio
    split at h'
    · rename_i b c a' e1 e2
      cases h'
      rcases mkArgs_get m e1 with ⟨x, q1, q⟩ | ⟨j, io2, o, q1, q2, q⟩
      · cases q
      · obtain ⟨v', ev', h⟩ := a.get q1
        rw [e2] at ev'; cases ev'
        obtain ⟨ad', ho, g1, g2, _⟩ := k.own q2
        have h2 : σ[j]? = some (some (V.ref ad)) := h
        rw [g1] at h2; cases h2
        show H ad ≠ none
        rw [g2]; simp
    · cases h'
theorem ent_io {i : Nat} {ad : Addr} (h : (ent G H vs as).io i = some ad) : (∃ b c, as[i]? = some (.o b c)) ∧ vs[i]? = some (.ref ad) := by
  have h' : (match as[i]?, vs[i]? with
          | some (.o _ _), some (.ref a) => some a
          | _, _ => none) = some ad := h
  split at h'
  · rename_i b c a e1 e2
    cases h'
    exact ⟨⟨b, c, e1⟩, e2⟩
  · cases h'
theorem slots_at : ∀ {rs : List Res} {j : Nat}, j ∈ slots rs → ∃ i : Nat, rs[i]? = some (Res.s j)
  | [], _, h => by simp [slots] at h
  | .d x :: rs, _, h => by simp only [slots] at h; obtain ⟨i, e⟩ := slots_at h; exact ⟨i + 1, by simpa using e⟩
  | .o x :: rs, _, h => by simp only [slots] at h; obtain ⟨i, e⟩ := slots_at h; exact ⟨i + 1, by simpa using e⟩
  | .s x :: rs, _, h => by
    simp only [slots, List.mem_cons] at h
    rcases h with rfl | h
    · exact ⟨0, rfl⟩
    · obtain ⟨i, e⟩ := slots_at h; exact ⟨i + 1, by simpa using e⟩
theorem Ok.after (k : Ok K p G H σ cs) (a : ArgsOk K G σ rs vs) (nd : (slots rs).Nodup) (m : mkArgs cs rs = some as) (bk : backOk rs as' = true) (k' : Ok K (ent G H vs as) G' H' (vs.map some) as') (l : Le G G') : Ok K p G' H' σ (putBack cs rs as') := by
  have slot_of : ∀ {i : Nat} {ad : Addr}, (ent G H vs as).io i = some ad → ∃ j io o, rs[i]? = some (.s j) ∧ cs[j]? = some (.o io o) ∧ σ[j]? = some (some (.ref ad)) := by
    intro i ad h
    obtain ⟨⟨b, c, e1⟩, e2⟩ := ent_io h
    rcases mkArgs_get m e1 with ⟨x, q1, q⟩ | ⟨j, io2, o, q1, q2, q⟩
    · cases q
    · obtain ⟨v', ev', h⟩ := a.get q1
      rw [e2] at ev'; cases ev'
      exact ⟨j, io2, o, q1, q2, h⟩
  have slot_own : ∀ {i j : Nat}, rs[i]? = some (.s j) → ∃ io o, cs[j]? = some (.o io o) := by
    intro i j e
    have hi : i < as.length := by rw [mkArgs_len m]; exact (List.getElem?_eq_some_iff.mp e).1
    have ea : as[i]? = some as[i] := List.getElem?_eq_getElem hi
    rcases mkArgs_get m ea with ⟨x, q1, q⟩ | ⟨j', io, o, q1, q2, q⟩
    · rw [e] at q1; cases q1
    · rw [e] at q1; cases q1; exact ⟨io, o, q2⟩
  -- what stands behind the call at an address that is another slot's
  have other : ∀ {b : Addr} {ho : HO} {j : Nat} {io : Bool} {o : O}, cs[j]? = some (.o io o) → σ[j]? = some (some (.ref b)) → j ∉ slots rs → H b = some ho → G b = none → H' b = some ho ∧ G' b = none := by
    intro b ho j io o e1 e2 nj e3 e4
    refine ⟨k'.fr b ho e3 fun i hi => ?_, ?_⟩
    · obtain ⟨j', io', o', q1, q2, q3⟩ := slot_of hi
      have := k.sep j j' io io' o o' b e1 q2 e2 q3
      subst this
      exact nj (slots_mem q1)
    · cases e : G' b with
      | none => rfl
      | some u =>
        rcases k'.gn b (by rw [e]; simp) with h | h
        · exact absurd e4 h
        · have h' : H b = none := h
          rw [e3] at h'; cases h'
  have own' : ∀ {j : Nat} {io : Bool} {o : O}, (putBack cs rs as')[j]? = some (.o io o) → ∃ o0, cs[j]? = some (.o io o0) := by
    intro j io o e
    by_cases hj : j ∈ slots rs
    · obtain ⟨i, hi⟩ := slots_at hj
      obtain ⟨io0, o0, q⟩ := slot_own hi
      obtain ⟨c, hc⟩ := backOk_get bk hi
      rw [pb_in q nd hi hc] at e
      cases e
      exact ⟨o0, q⟩
    · rw [pb_other hj] at e
      exact ⟨o, e⟩
  refine ⟨by rw [pb_len]; exact k.len, fun j c v e1 e2 => ?_, fun i j io io' c c' ad e1 e2 e3 e4 => ?_, k'.le, k'.sub, fun ad o e ni => ?_, fun ad e => k.dom ad (k'.dom ad e), k.g0.trans l, fun ad e => ?_, k.ios⟩
  · by_cases hj : j ∈ slots rs
    · obtain ⟨i, hi⟩ := slots_at hj
      obtain ⟨io0, o0, q⟩ := slot_own hi
      obtain ⟨c1, hc⟩ := backOk_get bk hi
      rw [pb_in q nd hi hc] at e1
      cases e1
      obtain ⟨v', ev', h⟩ := a.get hi
      have h' : σ[j]? = some (some v') := h
      rw [h'] at e2; cases e2
      obtain ⟨ad, ho0, g0, _, g2, g3, g4, g5⟩ := k.cells j _ _ q h'
      cases g0
      have hv : (vs.map some)[i]? = some (some (V.ref ad)) := by rw [List.getElem?_map, ev']; rfl
      obtain ⟨ad', ho', f0, f1, f2, f3, _⟩ := k'.cells i _ _ hc hv
      cases f0
      exact ⟨_, ho', rfl, f1, f2, f3, g4, g5⟩
    · rw [pb_other hj] at e1
      have := k.cells j c v e1 e2
      cases c with
      | un => trivial
      | d x =>
        obtain ⟨u, e, r⟩ := this
        exact ⟨u, e, r.le l⟩
      | o io o =>
        obtain ⟨b, ho, rfl, h1, h2, h3, h4⟩ := this
        obtain ⟨f1, f2⟩ := other e1 e2 hj h1 h3
        exact ⟨b, ho, rfl, f1, h2.le l, f2, h4⟩
  · obtain ⟨c0, q1⟩ := own' e1
    obtain ⟨c0', q2⟩ := own' e2
    exact k.sep i j io io' c0 c0' ad q1 q2 e3 e4
  · have h1 := k.fr ad o e ni
    refine k'.fr ad o h1 fun i hi => ?_
    obtain ⟨j', io', o', q1, q2, q3⟩ := slot_of hi
    obtain ⟨b, ho, e0, _, _, _, g4, g5⟩ := k.cells j' _ _ q2 q3
    cases e0
    cases io' with
    | true => exact ni _ (g4 rfl)
    | false => rw [g5 rfl] at e; cases e
  · rcases k'.gn ad e with h | h
    · exact k.gn ad h
    · exact .inr (k.dom ad h)
theorem Free.after (k : Ok K p G H σ cs) (a : ArgsOk K G σ rs vs) (nd : (slots rs).Nodup) (m : mkArgs cs rs = some as) (bk : backOk rs as' = true) {ad : Addr} (h : H ad = none) : Free σ (putBack cs rs as') ad := by
  intro j io o e1 e2
  have : ∃ io0 o0, cs[j]? = some (.o io0 o0) := by
    by_cases hj : j ∈ slots rs
    · obtain ⟨i, hi⟩ := slots_at hj
      have hi' : i < as.length := by rw [mkArgs_len m]; exact (List.getElem?_eq_some_iff.mp hi).1
      have ea : as[i]? = some as[i] := List.getElem?_eq_getElem hi'
      rcases mkArgs_get m ea with ⟨x, q1, q⟩ | ⟨j', io, o, q1, q2, q⟩
      · rw [hi] at q1; cases q1
      · rw [hi] at q1; cases q1; exact ⟨io, o, q2⟩
    · rw [pb_other hj] at e1; exact ⟨io, o, e1⟩
  obtain ⟨io0, o0, q⟩ := this
  obtain ⟨a0, ho0, ev0, h1, _⟩ := k.own q
  rw [e2] at ev0
  cases ev0
  rw [h] at h1; cases h1
end
section
variable {X : Cx} {pos : Pos} {e : Expr} {es : List Expr} {fs : M (List Res)} {F : Fd}
theorem call_run {n : Nat} (ha : EvX X es fs) {p : Pt} {G H : Hp} {σ : L2.St} {cs cs' : Cs} {z : Res} {Q : VK} (k : Ok X.K p G H σ cs) (hf : callF F fs cs = some (z, cs')) (hn : ∀ rs cs1, fs cs = some (rs, cs1) → rs.length = n)
    (hQ : ∀ v G' H', Ok X.K p G' H' σ cs' → Le G G' → ResOk X.K p G' H' σ cs' v z → Q v H') : tAnyA X es σ H fun vs H1 => spD X.K n F vs H1 Q E0 := by
  obtain ⟨rs, cs1, h1, h2⟩ := bnd_inv hf
  refine ha p G H σ cs _ _ _ k h1 fun vs G1 H1 k1 l1 a1 => ?_
  split at h2
  · rename_i nd
    split at h2
    · rename_i as m
      have hl : vs.length = n := by rw [a1.len]; exact hn _ _ h1
      split at h2
      · rename_i x as' e1
        split at h2
        · rename_i bk
          cases h2
          refine ⟨G1, as, _, as', hl, k1.args a1 nd m, e1, fun v G' H' k' l' r' => ?_⟩
          exact hQ v G' H' (k1.after a1 nd m bk k' l') (l1.trans l') r'
        · cases h2
      · rename_i c as' e1
        split at h2
        · rename_i bk
          cases h2
          refine ⟨G1, as, _, as', hl, k1.args a1 nd m, e1, fun v G' H' k' l' r' => ?_⟩
          obtain ⟨ad, ho, e0, g1, g2, g3, g4, g5⟩ := r'
          exact hQ v G' H' (k1.after a1 nd m bk k' l') (l1.trans l') ⟨ad, ho, e0, g1, g2, g3, k1.dom ad g4, Free.after k1 a1 nd m bk g4⟩
        · cases h2
      · cases h2
    · cases h2
  · cases h2
/-- the number of arguments is what is written -/
def Ar (fs : M (List Res)) (n : Nat) : Prop := ∀ cs rs cs1, fs cs = some (rs, cs1) → rs.length = n
theorem Ar.nil : Ar argNil 0 := fun cs rs cs1 h => by cases h; rfl
theorem Ar.cons {f : M Res} {g : M (List Res)} {n : Nat} (h : Ar g n) : Ar (argCons f g) (n + 1) := fun cs rs cs1 e => by
  obtain ⟨r0, c1, h0, h1⟩ := bnd_inv e
  obtain ⟨rs', c2, h2, h3⟩ := bnd_inv h1
  cases h3
  simp [h _ _ _ h2]
theorem ev_call {x : Str} {q : Pos} {n k : Nat} {f : Addr} {fd : FuncData} {ps : List Str} (Fo : FnOk X.prog X.w X.K X.mg X.base CX0 k f fd ps (spD X.K n F)) (hr : Room k X.A) (hg : Gl X x) (hm : X.mg x = some (.ref f)) (hk : PySem.W.keepIn X.K (.ref f) = true)
    (hb : Binds X.K fd ps []) (ha : EvX X (e :: es) fs) (ar : Ar fs n) (hdb : (x == ("__debug__" : Str)) = false := by decide) (he : starEach (e :: es) X.env = (false, eval e X.env) :: starEach es X.env := by rfl) (hpl : (backTo pos (starEach es X.env)).any (·.1) = false := by rfl) :
    EvE X (.Call (.Name x q) (e :: es) [] pos) (callF F fs) := by
  intro p G H σ cs z cs' Q k0 hf hQ
  refine ⟨_, pe_call Fo hr hg hm hk hb .nil pass0 pa_any hdb he hpl, ?_⟩
  have := call_run ha k0 hf (fun rs cs1 h => ar cs rs cs1 h) hQ
  show tAnyA X (e :: es) σ H fun vs H1 => spD X.K n F (vs ++ []) H1 Q E0
  simpa only [List.append_nil] using this
theorem ev_call0 {x : Str} {q : Pos} {k : Nat} {f : Addr} {fd : FuncData} {ps : List Str} (Fo : FnOk X.prog X.w X.K X.mg X.base CX0 k f fd ps (spD X.K 0 F)) (hr : Room k X.A) (hg : Gl X x) (hm : X.mg x = some (.ref f)) (hk : PySem.W.keepIn X.K (.ref f) = true)
    (hb : Binds X.K fd ps []) (hdb : (x == ("__debug__" : Str)) = false := by decide) : EvE X (.Call (.Name x q) [] [] pos) (callF F argNil) := by
  intro p G H σ cs z cs' Q k0 hf hQ
  refine ⟨_, pe_call0 Fo hr hg hm hk hb .nil pass0 hdb, ?_⟩
  obtain ⟨rs, cs1, h1, h2⟩ := bnd_inv hf
  cases h1
  have a1 : ArgsOk X.K G σ [] [] := rfl
  show spD X.K 0 F ([] ++ []) H Q E0
  rw [List.append_nil]
  split at h2
  · rename_i nd
    split at h2
    · rename_i as m
      split at h2
      · rename_i x as' e1
        split at h2
        · rename_i bk
          cases h2
          refine ⟨G, as, _, as', rfl, k0.args a1 nd m, e1, fun v G' H' k' l' r' => ?_⟩
          exact hQ v G' H' (k0.after a1 nd m bk k' l') l' r'
        · cases h2
      · rename_i c as' e1
        split at h2
        · rename_i bk
          cases h2
          refine ⟨G, as, _, as', rfl, k0.args a1 nd m, e1, fun v G' H' k' l' r' => ?_⟩
          obtain ⟨ad, ho, e0, g1, g2, g3, g4, g5⟩ := r'
          exact hQ v G' H' (k0.after a1 nd m bk k' l') l' ⟨ad, ho, e0, g1, g2, g3, k0.dom ad g4, Free.after k0 a1 nd m bk g4⟩
        · cases h2
      · cases h2
    · cases h2
  · cases h2
end
end DS

set_option Elab.async false
set_option linter.all false
set_option maxRecDepth 100000
set_option maxHeartbeats 2000000
set_option autoImplicit false
namespace DS
open PySem PySem.Spec L2
open PyProof.Rows (envOfC)

/-! ### an instance of a class without an __init__ -/
structure Mk0 (K : PySem.W.Frag) (C : Addr) : Prop where
  makes : PySem.W.makesIn K C = true
  init : PySem.W.findIn K (.ref C) "__init__" = some (some (.builtin "object.__init__"))
  top : PySem.W.mroIn K C (.type "object") = some true
  kp : PySem.W.keepIn K (.ref C) = true
section
open PySem.W PySem.Calls PyProof.Rows Builtin NwA
theorem run_mk0 {X : Cx} {pins : List (Addr × Obj)} {σ : L2.St} {H : Hp} {s : Shared} {Q : VK} {C : Addr} (M : Mk0 X.K C) (I : Inv X pins σ H s)
    (h : ∀ x dx, H x = none → H dx = none → dx ≠ x → Q (.ref x) (upd (upd H dx (.own x)) x (.ins C dx []))) : wpAny (model X.prog X.w) X.A (call (.ref C) []) (EP X pins σ Q) X.xe s := by
  have hq := h (s.heap.objs.size + 1) s.heap.objs.size (I.hok.fresh (Nat.le_succ _)) (I.hok.fresh (Nat.le_refl _)) (Nat.ne_of_lt (Nat.lt_succ_self _))
  have I2 := Inv.made (C := C) I
  refine wpAny_call (make_map0 I.kIn M.makes M.init (fun self => Looks.of_pure (oi_bind _)) ?_)
  have ho : ((s.heap.push PySem.W.emptyDict).push (PySem.W.instObj C s.heap.objs.size)).get? (s.heap.objs.size + 1) = some (PySem.W.instObj C s.heap.objs.size) := by
    have e := Heap.get?_push_size (s.heap.push PySem.W.emptyDict) (o := PySem.W.instObj C s.heap.objs.size) rfl
    have e2 : (s.heap.push PySem.W.emptyDict).objs.size = s.heap.objs.size + 1 := by
      cases s.heap
      simp [PySem.Heap.push]
    rw [e2] at e
    exact e
  have t1 : Looks (model X.prog X.w) ((s.heap.push PySem.W.emptyDict).push (PySem.W.instObj C s.heap.objs.size)) (typeOf (.ref (s.heap.objs.size + 1))) (.ref C) := type_at ho rfl
  have t2 : Looks (model X.prog X.w) ((s.heap.push PySem.W.emptyDict).push (PySem.W.instObj C s.heap.objs.size)) (isInstance (.ref (s.heap.objs.size + 1)) (.type "object")) true := t1.andThen (looks_mroIn I2.kIn M.top)
  refine codeAny_call_builtin oi_plain entry_oi (@check_slot (model X.prog X.w) _ _ _ "object.__init__" "object" "__init__" (.ref (s.heap.objs.size + 1)) [] [] _ oi_kind oi_split t2 (oi_args_any (.ref (s.heap.objs.size + 1)) [] []) ?_)
  rw [oi_run]
  exact wpAny_pure (And.intro rfl ⟨V.ref (s.heap.objs.size + 1), _, I2, rfl, hq⟩)
end
def tMk0 (C : Addr) : TE := fun _ H Q => ∀ x dx, H x = none → H dx = none → dx ≠ x → Q (.ref x) (upd (upd H dx (.own x)) x (.ins C dx []))
theorem pe_mk0 {X : Cx} {C : Addr} {x : Str} {p pos : Pos} (M : Mk0 X.K C) (hg : Gl X x) (hm : X.mg x = some (.ref C)) (hdb : (x == ("__debug__" : Str)) = false := by decide) : PE X (.Call (.Name x p) [] [] pos) (tMk0 C) := by
  refine ⟨fun pins s σ H Q I h => ?_⟩
  refine wpAny_Call_Name_kw (ld_glob I hg hm ?_ hdb)
  exact PySem.W.callWith_K0 I.kIn M.kp (run_mk0 M I h)
def mk0 (C : Addr) : M Res := ret (.d (.obj C))
theorem ev_mk0 {X : Cx} {C : Addr} {x : Str} {p pos : Pos} (M : Mk0 X.K C) (hg : Gl X x) (hm : X.mg x = some (.ref C)) (hdb : (x == ("__debug__" : Str)) = false := by decide) : EvE X (.Call (.Name x p) [] [] pos) (mk0 C) := by
  intro p G H σ cs z cs' Q k hf hQ
  cases hf
  refine ⟨_, pe_mk0 M hg hm hdb, fun a dx ha hdx ne => ?_⟩
  have k1 := k.newF (o := .own a) hdx
  have ha' : (upd H dx (.own a)) a = none := by rw [upd_ne (Ne.symm ne)]; exact ha
  have k2 := k1.newF (o := .ins C dx []) ha'
  refine hQ _ _ _ k2 ((Le.new (k.sub _ hdx)).trans (.new (k1.sub _ ha'))) ?_
  show Rep X.K _ (.obj C) (.ref a)
  simp only [Rep]
  exact ⟨a, dx, rfl, upd_same⟩

/-! ### methods of own instances -/
def methF (C : Addr) (F : Fd) (fr : M Res) (fs : M (List Res)) : M Res := bnd (asR fr) fun r => match r with
  | .d (.obj C') => if C' = C then callF F (bnd fs fun rs => ret (.d (.obj C) :: rs)) else fun _ => none
  | _ => fun _ => none
theorem lk_nil {m : Str} : (([] : List (Str × V)).lookup m) = none := rfl
section
variable {X : Cx} {pos apos : Pos} {o e : Expr} {es : List Expr} {fr : M Res} {fs : M (List Res)} {F : Fd} {m : Str}
theorem ev_meth {pl : Sem Bool} {n k : Nat} {C f : Addr} {fd : FuncData} {ps : List Str} (ho : EvE X o fr) (c : Cls X.K C) (hm : Meth X.K C m f) (Fo : FnOk X.prog X.w X.K X.mg X.base CX0 k f fd ps (spD X.K (n + 1) F)) (hr : Room k X.A) (hb : Binds X.K fd ps []) (ha : EvX X (e :: es) fs) (ar : Ar fs n)
    (hst : starEach (e :: es) X.env = (false, eval e X.env) :: starEach es X.env := by rfl) (hpl : (backTo pos (starEach es X.env)).any (·.1) = false := by rfl)
    (ht : eval (.Call (.Attribute o m apos) (e :: es) [] pos) X.env = (do
      let ov ← eval o X.env
      standAt apos.atName
      let (f, first) ← holding [ov] (getMethod ov m pl)
      callWith pos f first (backTo pos (starEach (e :: es) X.env)) (backToKw pos (keywordEach [] X.env))) := by rfl) :
    EvE X (.Call (.Attribute o m apos) (e :: es) [] pos) (methF C F fr fs) := by
  intro p G H σ cs z cs' Q k0 hf hQ
  refine ⟨_, pe_meth pe_any c hm Fo hr hb .nil pass0 pa_any hst hpl ht, ?_⟩
  obtain ⟨r, cs1, h1, h2⟩ := bnd_inv hf
  show tAny X o σ H _
  refine ho.r p G H σ cs _ _ _ k0 h1 fun v G1 H1 k1 l1 a1 => ?_
  split at h2
  · rename_i C'
    split at h2
    · rename_i e1
      subst e1
      have a1' : Rep X.K G1 (.obj C') v := a1
      simp only [Rep] at a1'
      obtain ⟨a, dx, rfl, e2⟩ := a1'
      refine ⟨a, dx, [], rfl, k1.le _ _ e2, lk_nil, ?_⟩
      -- the arguments, then the callee
      obtain ⟨rs', cs2, g1, g2⟩ := bnd_inv h2
      obtain ⟨rs, cs3, g3, g4⟩ := bnd_inv g1
      cases g4
      refine ha p G1 H1 σ cs1 _ _ _ k1 g3 fun vs G2 H2 k2 l2 a2 => ?_
      show spD X.K (n + 1) F (.ref a :: (vs ++ [])) H2 Q E0
      rw [List.append_nil]
      have aa : ArgsOk X.K G2 σ (.d (.obj C') :: rs) (.ref a :: vs) := ⟨.ref a, vs, rfl, by
        show Rep X.K G2 (.obj C') (.ref a)
        simp only [Rep]
        exact ⟨a, dx, rfl, l2 _ _ e2⟩, a2⟩
      split at g2
      · rename_i nd
        split at g2
        · rename_i as mm
          have hl : (V.ref a :: vs).length = n + 1 := by rw [aa.len]; simp [ar _ _ _ g3]
          split at g2
          · rename_i x as' e3
            split at g2
            · rename_i bk
              cases g2
              refine ⟨G2, as, _, as', hl, k2.args aa nd mm, e3, fun v G' H' k' l' r' => ?_⟩
              exact hQ v G' H' (k2.after aa nd mm bk k' l') ((l1.trans l2).trans l') r'
            · cases g2
          · rename_i c as' e3
            split at g2
            · rename_i bk
              cases g2
              refine ⟨G2, as, _, as', hl, k2.args aa nd mm, e3, fun v G' H' k' l' r' => ?_⟩
              obtain ⟨ad, ho, e0, q1, q2, q3, q4, q5⟩ := r'
              exact hQ v G' H' (k2.after aa nd mm bk k' l') ((l1.trans l2).trans l') ⟨ad, ho, e0, q1, q2, q3, k2.dom ad q4, Free.after k2 aa nd mm bk q4⟩
            · cases g2
          · cases g2
        · cases g2
      · cases g2
    · cases h2
  · cases h2
end

/-! ### an owned object is changed -/
section
variable {K : PySem.W.Frag} {p : Pt} {G H : Hp} {σ : L2.St} {cs : Cs}
/-- the relation of a changing method: what comes, and the new content -/
def MutOk (X : Cx) (r : V → List V → Hp → VK → Prop) (op : O → List D → Option (D × O)) : Prop := ∀ (G H : Hp) (c c' : O) (a : Addr) (ho : HO) (ds : List D) (vs : List V) (z : D) (Q : VK), Le G H → H a = some ho → RepO X.K G c ho → Reps X.K G ds vs → op c ds = some (z, c') →
  (∀ v ho', RepO X.K G c' ho' → Rep X.K G z v → Q v (upd H a ho')) → r (.ref a) vs H Q
end
/-- the kind of an owned object: a list or a dict -/
def isL : O → Bool
  | .l _ => true
  | _ => false
def isK : O → Bool
  | .k _ => true
  | _ => false
def mtV (t : O → Bool) (i : Nat) (fs : M (List Res)) (op : O → List D → Option (D × O)) : M Res := fun cs => match cs[i]? with
  | some (.o _ c0) => if t c0 then
    (match fs cs with
    | some (rs, cs') => (match datas rs, cs'[i]? with
      | some ds, some (.o io c) => (match op c ds with
        | some (z, c') => some (.d z, cs'.set i (.o io c'))
        | none => none)
      | _, _ => none)
    | none => none) else none
  | _ => none
section
variable {X : Cx} {pos apos cpos : Pos} {e : Expr} {es : List Expr} {fs : M (List Res)} {x name : Str}
def TyR (X : Cx) (t : O → Bool) (T : String) : Prop := ∀ {G H : Hp} {c : O} {a : Addr} {ho : HO}, t c = true → H a = some ho → RepO X.K G c ho → tyV X.K T (.ref a) H
theorem ty_l : TyR X isL "list" := by
  intro G H c a ho ht h r
  cases c with
  | l xs => obtain ⟨vs, rfl, _⟩ := r; exact .inl ⟨rfl, vs, SqL.of h⟩
  | k m => cases ht
  | t m => cases ht
theorem ty_k : TyR X isK "dict" := by
  intro G H c a ho ht h r
  cases c with
  | l xs => cases ht
  | k m => obtain ⟨vs, rfl, _⟩ := r; exact .inr (.inr (.inl ⟨rfl, .inl ⟨vs, h⟩⟩))
  | t m => cases ht
theorem mt_run {t : O → Bool} {T : String} {r : V → List V → Hp → VK → Prop} {op : O → List D → Option (D × O)} {i : Nat} (ty : TyR X t T)
    (ho : MutOk X r op) (ha : EvX X es fs) {p : Pt} {G H : Hp} {σ : L2.St} {cs cs' : Cs} {z : Res} {Q : VK} (k : Ok X.K p G H σ cs) (hf : mtV t i fs op cs = some (z, cs'))
    (hQ : ∀ v G' H', Ok X.K p G' H' σ cs' → Le G G' → ResOk X.K p G' H' σ cs' v z → Q v H') : tBM X.K T r (tVar i) (tAnyA X es) σ H Q := by
  unfold mtV at hf
  split at hf
  · rename_i b c0 ec
    split at hf
    · rename_i ht
      obtain ⟨a, h0, ev, e1, e2, e3⟩ := k.own ec
      refine ⟨_, ev, ty ht e1 e2, ?_⟩
      split at hf
      · rename_i rs cs1 e4
        split at hf
        · rename_i ds io c e5 e6
          split at hf
          · rename_i y c' e7
            cases hf
            refine ha p G H σ cs _ _ _ k e4 fun vs G1 H1 k1 l1 a1 => ?_
            obtain ⟨a', h1, ev', q1, q2, q3⟩ := k1.own e6
            rw [ev] at ev'; cases ev'
            refine ho G1 H1 c c' a h1 ds vs y _ k1.le q1 q2 (datas_ok a1 e5) e7 fun v h2 r2 rz => ?_
            exact hQ v G1 _ (k1.put e6 ev r2) l1 rz
          · cases hf
        · cases hf
      · cases hf
    · cases hf
  · cases hf
theorem ev_mt {t : O → Bool} {T id : String} {r : V → List V → Hp → VK → Prop} {op : O → List D → Option (D × O)} {i : Nat} (ty : TyR X t T) (ho : MutOk X r op) (pa : PySem.PlainAttrs T) (slot : Slot T name id)
    (hty : typeOf (.builtin id) = pure (.type "method_descriptor")) (hm : MtR X id r) (hN : X.N[i]? = some x) (hv : Vis X.env.scope x) (ha : EvX X (e :: es) fs) (hd : (x == ("__debug__" : Str)) = false := by decide)
    (hcd : (x == ("__classdict__" : Str)) = false := by decide)
    (hbase : attributeBase (.Name x pos) name X.env (eval (.Name x pos) X.env) = eval (.Name x pos) X.env := by rfl)
    (hfew : ((backTo cpos (starEach (e :: es) X.env)).all (fun x => !x.1) && (backToKw cpos (keywordEach [] X.env)).all (fun x => x.1.isSome)
      && decide ((e :: es).length + ([] : List Keyword).length + (if ([] : List Keyword).isEmpty then 0 else 1) < 30)) = true := by rfl)
    (hline : (apos.endLine == cpos.line) = true := by rfl) (hs : starEach (e :: es) X.env = (false, eval e X.env) :: starEach es X.env := by rfl) (hplain : (backTo cpos (starEach es X.env)).any (·.1) = false := by rfl) :
    EvE X (.Call (.Attribute (.Name x pos) name apos) (e :: es) [] cpos) (mtV t i fs op) := by
  intro p G H σ cs z cs' Q k hf hQ
  exact ⟨_, pe_bm pa slot hty hm (pe_var hN hv hd hcd) pa_any hbase hfew hline hs hplain, mt_run ty ho ha k hf hQ⟩
theorem ev_mt0 {t : O → Bool} {T id : String} {r : V → List V → Hp → VK → Prop} {op : O → List D → Option (D × O)} {i : Nat} (ty : TyR X t T) (ho : MutOk X r op) (pa : PySem.PlainAttrs T) (slot : Slot T name id)
    (hty : typeOf (.builtin id) = pure (.type "method_descriptor")) (hm : MtR X id r) (hN : X.N[i]? = some x) (hv : Vis X.env.scope x) (hd : (x == ("__debug__" : Str)) = false := by decide)
    (hcd : (x == ("__classdict__" : Str)) = false := by decide)
    (hbase : attributeBase (.Name x pos) name X.env (eval (.Name x pos) X.env) = eval (.Name x pos) X.env := by rfl)
    (hline : (apos.endLine == cpos.line) = true := by rfl) :
    EvE X (.Call (.Attribute (.Name x pos) name apos) [] [] cpos) (mtV t i argNil op) := by
  intro p G H σ cs z cs' Q k hf hQ
  refine ⟨_, pe_bm0 pa slot hty hm (pe_var hN hv hd hcd) hbase hline, ?_⟩
  have := mt_run (fs := argNil) (es := []) ty ho ex_nil k hf hQ
  obtain ⟨v, ev, ty', t', ht', q⟩ := this
  refine ⟨v, ev, ty', ?_⟩
  -- no arguments are evaluated: the reading of none
  unfold mtV at hf
  split at hf
  · rename_i b c0 ec
    split at hf
    · rename_i ht
      obtain ⟨a, h0, ev2, e1, e2, e3⟩ := k.own ec
      rw [ev] at ev2; cases ev2
      split at hf
      · rename_i rs cs1 e4
        cases e4
        split at hf
        · rename_i ds io c e5 e6
          cases e5
          split at hf
          · rename_i y c' e7
            cases hf
            rw [ec] at e6; cases e6
            refine ho G H c0 c' a h0 [] [] y _ k.le e1 e2 .nil e7 fun v h2 r2 rz => ?_
            exact hQ v G _ (k.put ec ev r2) (.refl _) rz
          · cases hf
        · cases hf
      · cases hf
    · cases hf
  · cases hf
end
def opAppend : O → List D → Option (D × O)
  | .l xs, [x] => if xs.length < sizeLine then some (.non, .l (xs ++ [x])) else none
  | _, _ => none
def opExtend : O → List D → Option (D × O)
  | .l xs, [.lst ys] => if xs.length + ys.length ≤ sizeLine then some (.non, .l (xs ++ ys)) else none
  | _, _ => none
def opPopAt : O → List D → Option (D × O)
  | .l xs, [.int i] => if -(2 ^ 63) ≤ i ∧ i < 2 ^ 63 then (match seqIndex? i xs.length with
    | some k => (match xs[k]? with
      | some x => some (x, .l (xs.eraseIdx k))
      | none => none)
    | none => none) else none
  | _, _ => none
def opPop : O → List D → Option (D × O)
  | .l xs, [] => (match xs[xs.length - 1]? with
      | some x => some (x, .l xs.dropLast)
      | none => none)
  | _, _ => none
section
variable {X : Cx}
theorem rep_non {K : PySem.W.Frag} {G : Hp} : Rep K G .non .non := by simp only [Rep]
theorem append_ok : MutOk X rAppend opAppend := by
  intro G H c c' a ho ds vs z Q l e r rd h q
  unfold opAppend at h
  split at h
  · rename_i xs x
    split at h
    · rename_i hl
      cases h
      obtain ⟨us, rfl, r1⟩ := r
      obtain ⟨v, _, rfl, rv, rn⟩ := rd.cons_inv
      cases rn.nil_inv
      exact ⟨a, us, v, rfl, rfl, e, by rw [r1.len]; exact hl, q _ _ ⟨_, rfl, r1.app (.one rv)⟩ rep_non⟩
    · cases h
  · cases h
theorem extend_ok : MutOk X rExtend opExtend := by
  intro G H c c' a ho ds vs z Q l e r rd h q
  unfold opExtend at h
  split at h
  · rename_i xs ys
    split at h
    · rename_i hl
      cases h
      obtain ⟨us, rfl, r1⟩ := r
      obtain ⟨v, _, rfl, rv, rn⟩ := rd.cons_inv
      cases rn.nil_inv
      simp only [Rep] at rv
      obtain ⟨b, ws, rfl, h1, h2⟩ := rv
      exact ⟨a, b, us, ws, rfl, rfl, e, l _ _ h1, by rw [r1.len, h2.len]; exact hl, q _ _ ⟨_, rfl, r1.app h2⟩ rep_non⟩
    · cases h
  · cases h
theorem popAt_ok : MutOk X rPopAt opPopAt := by
  intro G H c c' a ho ds vs z Q l e r rd h q
  unfold opPopAt at h
  split at h
  · rename_i xs i
    split at h
    · rename_i hb
      split at h
      · rename_i k hk
        split at h
        · rename_i x hx
          cases h
          obtain ⟨us, rfl, r1⟩ := r
          obtain ⟨v, _, rfl, rv, rn⟩ := rd.cons_inv
          cases rn.nil_inv
          simp only [Rep] at rv
          subst rv
          obtain ⟨y, hy, ry⟩ := r1.get hx
          exact ⟨a, us, i, k, y, rfl, rfl, e, hb.1, hb.2, by rw [r1.len]; exact hk, hy, q _ _ ⟨_, rfl, r1.erase k⟩ ry⟩
        · cases h
      · cases h
    · cases h
  · cases h
theorem Reps.dropLast {K : PySem.W.Frag} {G : Hp} {ds : List D} {vs : List V} (h : Reps K G ds vs) : Reps K G ds.dropLast vs.dropLast := by
  rw [List.dropLast_eq_take, List.dropLast_eq_take, h.len]
  exact h.take _
theorem pop_ok : MutOk X rPop opPop := by
  intro G H c c' a ho ds vs z Q l e r rd h q
  unfold opPop at h
  split at h
  · rename_i xs
    split at h
    · rename_i x hx
      cases h
      obtain ⟨us, rfl, r1⟩ := r
      cases rd.nil_inv
      obtain ⟨y, hy, ry⟩ := r1.get hx
      exact ⟨a, us, y, rfl, rfl, e, by rw [r1.len]; exact hy, q _ _ ⟨_, rfl, r1.dropLast⟩ ry⟩
    · cases h
  · cases h
end

/-! ### x[k] = v for a slot's list or dict -/
section
variable {X : Cx} {pos pos1 pos2 : Pos} {e ke : Expr} {f fk : M Res} {x : Str}
def rSetDK : V → V → V → Hp → (Hp → Prop) → Prop := fun o i v H Q => ∃ a H4, o = .ref a ∧ DPut H a i v H4 ∧ Q H4
theorem pset_dk (hu : X.A.units + 65 < cLine) : PSet X rSetDK := by
  intro pins s σ H o i v ov iv u Q I ro ri rv h
  obtain ⟨a, H4, rfl, g, q⟩ := h
  cases ro
  exact d_setItem (by omega) I g ri rv fun s' I' => ⟨H4, I', q⟩
def rSet2 : V → V → V → Hp → (Hp → Prop) → Prop := fun o i v H Q => rSetL o i v H Q ∨ rSetDK o i v H Q
theorem pset_2 (hu : X.A.units + 65 < cLine) : PSet X rSet2 := by
  intro pins s σ H o i v ov iv u Q I ro ri rv h
  rcases h with h | h
  · exact set_list pins s σ H o i v ov iv u Q I ro ri rv h
  · exact pset_dk hu pins s σ H o i v ov iv u Q I ro ri rv h
def opSet : O → D → D → Option O
  | .l xs, .int i, v => (match ixN xs.length i with
    | some j => some (.l (xs.set j v))
    | none => none)
  | .k m, y, v => (match dKey y with
    | some k => if m.length < sizeLine then some (.k (dPut m k v)) else none
    | none => none)
  | _, _, _ => none
def sSub (i : Nat) (fv fk : M Res) : S := fun cs => match asD fv cs with
  | some (v, cs1) => (match cs1[i]? with
    | some (.o _ _) => (match asD fk cs1 with
      | some (y, cs2) => (match cs2[i]? with
        | some (.o io c) => (match opSet c y v with
          | some c' => some (.nx (cs2.set i (.o io c')))
          | none => none)
        | _ => none)
      | none => none)
    | _ => none)
  | none => none
theorem set_ok {G H : Hp} {c c' : O} {a : Addr} {ho : HO} {y v : D} {yv vv : V} {Q : Hp → Prop} (l : Le G H) (e : H a = some ho) (r : RepO X.K G c ho) (ry : Rep X.K G y yv) (rv : Rep X.K G v vv) (h : opSet c y v = some c')
    (q : ∀ ho', RepO X.K G c' ho' → Q (upd H a ho')) : rSet2 (.ref a) yv vv H Q := by
  unfold opSet at h
  split at h
  · rename_i xs i
    split at h
    · rename_i j hj
      cases h
      obtain ⟨us, rfl, r1⟩ := r
      simp only [Rep] at ry
      subst ry
      exact .inl ⟨a, us, i, j, rfl, rfl, e, by rw [r1.len]; exact hj, q _ ⟨_, rfl, r1.set j rv⟩⟩
    · cases h
  · rename_i m
    split at h
    · rename_i k hk
      split at h
      · rename_i hl
        cases h
        obtain ⟨us, rfl, r1⟩ := r
        exact .inr ⟨a, _, rfl, .inl ⟨us, k, e, dKey_rep (H := H) hk (.inl ry), by rw [r1.len]; exact hl, rfl⟩, q _ ⟨_, rfl, r1.put rv⟩⟩
      · cases h
    · cases h
  · cases h
theorem es_sub {i : Nat} (hu : X.A.units + 65 < cLine) (hN : X.N[i]? = some x) (hv : Vis X.env.scope x) (he : EvE X e f) (hk : EvE X ke fk) (hd : (x == ("__debug__" : Str)) = false := by decide) (hcd : (x == ("__classdict__" : Str)) = false := by decide)
    (ha : ∀ v, assign (.Subscript (.Name x pos1) ke pos2) X.env v = (do
      let ov ← holding [v] (eval (.Name x pos1) X.env)
      let iv ← holding [v, ov] (eval ke X.env)
      standAt pos2
      holding [v, ov, iv] (setItem ov iv v)
      release [v, ov, iv] []) := by intro _; rfl)
    (hs : swapsWithSole [.Subscript (.Name x pos1) ke pos2] e pos.line X.env = pure false := by rfl) (hw : swappedStores [.Subscript (.Name x pos1) ke pos2] e X.env = pure none := by rfl)
    (h1 : (assignEach [.Subscript (.Name x pos1) ke pos2] X.env).map (·.2) = [assign (.Subscript (.Name x pos1) ke pos2) X.env] := by rfl) : EvS X (.Assign [.Subscript (.Name x pos1) ke pos2] e pos) (sSub i f fk) := by
  intro p G H σ cs o E k hg h
  refine ⟨_, ps_asg pe_any (pg_sub (pe_var hN hv hd hcd) pe_any (pset_2 hu) ha) hs hw h1, ?_⟩
  unfold sSub at hg
  split at hg
  · rename_i v cs1 e1
    split at hg
    · rename_i b0 c0 e2
      split at hg
      · rename_i y cs2 e3
        split at hg
        · rename_i io c e4
          split at hg
          · rename_i c' e5
            cases hg
            refine he.d p G H σ cs _ _ _ k e1 fun vv G1 H1 k1 l1 rv => ?_
            obtain ⟨a, ho0, ev, _⟩ := k1.own e2
            refine ⟨_, ev, ?_⟩
            refine hk.d p G1 H1 σ cs1 _ _ _ k1 e3 fun yv G2 H2 k2 l2 ry => ?_
            obtain ⟨a', ho, ev', q1, q2, q3⟩ := k2.own e4
            rw [ev] at ev'; cases ev'
            refine set_ok k2.le q1 q2 ry (rv.le l2) e5 fun ho' r' => ?_
            exact h G2 _ σ (k2.put e4 ev r') (l1.trans l2)
          · cases hg
        · cases hg
      · cases hg
    · cases hg
  · cases hg
/-- x op= e -/
def sAug (i : Nat) (o : D → D → Option Res) (f : M Res) : S := fun cs => match cs[i]? with
  | some (.d x) => (match asD f cs with
    | some (y, cs') => (match o x y with
      | some (.d z) => some (.nx (cs'.set i (.d z)))
      | _ => none)
    | none => none)
  | _ => none
theorem es_aug {i : Nat} {op : Operator} {r : R2} {o : D → D → Option Res} {pos' : Pos} (hr : OpR X (inplaceOp op) r) (ho : Op2 X r o) (hN : X.N.Nodup) (hi : X.N[i]? = some x) (hx : Loc X.env.scope x) (he : EvE X e f) (hf : X.fn x = true ∨ X.env.scope.names.lookup x = some .local := by first | exact .inl rfl | exact .inr rfl | assumption) :
    EvS X (.AugAssign (.Name x pos') op e pos) (sAug i o f) := by
  intro p G H σ cs w E k hg h
  refine ⟨_, ps_aug hN hi hx pe_any (fun pins s σ H x y v u Q I rx ry q => hr pins s σ H x y v u Q I rx ry q) hf, ?_⟩
  unfold sAug at hg
  split at hg
  · rename_i x0 e0
    split at hg
    · rename_i y cs1 e1
      split at hg
      · rename_i z e2
        cases hg
        obtain ⟨v, ev, rv⟩ := k.dat e0
        refine ⟨v, ev, ?_⟩
        refine he.d p G H σ cs _ _ _ k e1 fun vv G1 H1 k1 l1 ry => ?_
        refine ho p G1 H1 σ cs1 x0 y v vv _ _ k1 (.inl (rv.le l1)) (.inl ry) e2 fun u G2 H2 k2 l2 rz => ?_
        exact h G2 H2 _ (k2.setD i rz) (l1.trans l2)
      · cases hg
    · cases hg
  · cases hg
end
end DS

set_option Elab.async false
set_option linter.all false
set_option maxRecDepth 100000
set_option maxHeartbeats 2000000
set_option autoImplicit false
namespace DS
open PySem PySem.Spec L2

/-! ### what a loop walks -/
/-- a turn's item -/
def YOk (K : PySem.W.Frag) (G H : Hp) (x : D) (v : V) (H' : Hp) : Prop := (H' = H ∧ Rep K G x v) ∨ ∃ T vs ds, x = .tup ds ∧ v = .ref T ∧ H T = none ∧ H' = upd H T (.tup vs) ∧ Reps K G ds vs
/-- J gives the items xs while what is frozen in G0 stands -/
def Feeds (K : PySem.W.Frag) (J : It) (G0 : Hp) (xs : List D) : Prop := ∀ (i : Nat) (G H : Hp), Le G0 G → Le G H → (i = xs.length → J.stop i H) ∧ (∀ x, xs[i]? = some x → J.go i H ∧ ∀ v H', J.yld i H v H' → YOk K G H x v H')
def EvI (X : Cx) (tg e : Expr) (f : M (List D)) : Prop := ∀ (p : Pt) (G H : Hp) (σ : L2.St) (cs : Cs) (xs : List D) (cs' : Cs) (R : It → Hp → Prop), Ok X.K p G H σ cs → f cs = some (xs, cs') →
  (∀ J G' H', Ok X.K p G' H' σ cs' → Le G G' → Feeds X.K J G' xs → R J H') → tAnyI X tg e σ H R
section
variable {K : PySem.W.Frag} {G : Hp}
theorem feeds_list {a : Addr} {vs : List V} {ds : List D} (h : SqL K G a vs) (r : Reps K G ds vs) (inj : ∀ H ws, Le G H → SqL K H a ws → ws = vs ∨ True) : Feeds K (Itl K a) G ds := by
  intro i G1 H l1 l2
  refine ⟨fun e => ⟨vs, l2.sqL (l1.sqL h), by rw [r.len]; omega⟩, fun x hx => ?_⟩
  obtain ⟨v, hv, rv⟩ := r.get hx
  refine ⟨⟨vs, v, l2.sqL (l1.sqL h), hv⟩, fun w H' hy => ?_⟩
  obtain ⟨rfl, q⟩ := hy
  have := q vs (l2.sqL (l1.sqL h))
  rw [hv] at this
  cases this
  exact .inl ⟨rfl, rv.le l1⟩
theorem feeds_tup {a : Addr} {vs : List V} {ds : List D} (h : SqT K G a vs) (r : Reps K G ds vs) : Feeds K (Itt K a) G ds := by
  intro i G1 H l1 l2
  refine ⟨fun e => ⟨vs, l2.sqT (l1.sqT h), by rw [r.len]; omega⟩, fun x hx => ?_⟩
  obtain ⟨v, hv, rv⟩ := r.get hx
  refine ⟨⟨vs, v, l2.sqT (l1.sqT h), hv⟩, fun w H' hy => ?_⟩
  obtain ⟨rfl, q⟩ := hy
  have := q vs (l2.sqT (l1.sqT h))
  rw [hv] at this
  cases this
  exact .inl ⟨rfl, rv.le l1⟩
theorem feeds_keys {a : Addr} {o : Obj} {vs : List (Key × V)} {m : List (Key × D)} (h : G a = some (.frz o (.dK vs))) (r : RepK K G m vs) : Feeds K (Itk a o vs) G (m.map fun kv => keyD kv.1) := by
  intro i G1 H l1 l2
  have hH := l2 _ _ (l1 _ _ h)
  refine ⟨fun e => ⟨hH, by rw [r.len]; simp at e; omega⟩, fun x hx => ?_⟩
  rw [List.getElem?_map] at hx
  cases e : m[i]? with
  | none => rw [e] at hx; cases hx
  | some kv =>
    obtain ⟨k, d⟩ := kv
    rw [e] at hx; cases hx
    obtain ⟨v, hv, _⟩ := r.at e
    refine ⟨⟨hH, (List.getElem?_eq_some_iff.mp hv).1⟩, fun w H' hy => ?_⟩
    obtain ⟨rfl, k', v', q1, rfl⟩ := hy
    rw [hv] at q1
    cases q1
    exact .inl ⟨rfl, rep_key⟩
def chrD (s : Str) : List D := s.cps.toList.map fun c => .str (chr1 c)
theorem feeds_str (s : Str) : Feeds K (Its s) G (chrD s) := by
  intro i G1 H l1 l2
  refine ⟨fun e => by simp [chrD] at e; exact Nat.le_of_eq e.symm, fun x hx => ?_⟩
  unfold chrD at hx
  rw [List.getElem?_map, Array.getElem?_toList] at hx
  cases e : s.cps[i]? with
  | none => rw [e] at hx; cases hx
  | some c =>
    rw [e] at hx; cases hx
    refine ⟨(Array.getElem?_eq_some_iff.mp e).1, fun w H' hy => ?_⟩
    obtain ⟨rfl, c', q, rfl⟩ := hy
    rw [e] at q; cases q
    exact .inl ⟨rfl, by simp only [Rep, chr1]⟩
def rngD (lo : Int) (n : Nat) : List D := (List.range n).map fun (i : Nat) => .int (lo + i)
theorem feeds_rng (lo : Int) (n : Nat) : Feeds K (Itr lo n) G (rngD lo n) := by
  intro i G1 H l1 l2
  refine ⟨fun e => by simp [rngD] at e; exact Nat.le_of_eq e.symm, fun x hx => ?_⟩
  unfold rngD at hx
  rw [List.getElem?_map] at hx
  have hi : i < n := by
    by_cases h : i < n
    · exact h
    · rw [List.getElem?_eq_none (by simp; omega)] at hx; cases hx
  rw [List.getElem?_range hi] at hx
  cases hx
  refine ⟨hi, fun w H' hy => ?_⟩
  obtain ⟨rfl, rfl⟩ := hy
  exact .inl ⟨rfl, by simp only [Rep]⟩
def rngDc (lo c : Int) (n : Nat) : List D := (List.range n).map fun (i : Nat) => .int (lo + (i : Int) * c)
theorem feeds_rngc (lo c : Int) (n : Nat) : Feeds K (Itc lo c n) G (rngDc lo c n) := by
  intro i G1 H l1 l2
  refine ⟨fun e => by simp [rngDc] at e; exact Nat.le_of_eq e.symm, fun x hx => ?_⟩
  unfold rngDc at hx
  rw [List.getElem?_map] at hx
  have hi : i < n := by
    by_cases h : i < n
    · exact h
    · rw [List.getElem?_eq_none (by simp; omega)] at hx; cases hx
  rw [List.getElem?_range hi] at hx
  cases hx
  refine ⟨hi, fun w H' hy => ?_⟩
  obtain ⟨rfl, rfl⟩ := hy
  exact .inl ⟨rfl, by simp only [Rep]⟩
def zipD (xs ys : List D) : List D := (xs.zip ys).map fun p => .tup [p.1, p.2]
theorem zip_get {α β : Type} {xs : List α} {ys : List β} {i : Nat} {p : α × β} (h : (xs.zip ys)[i]? = some p) : xs[i]? = some p.1 ∧ ys[i]? = some p.2 := by
  rw [List.getElem?_zip_eq_some] at h
  exact h
theorem feeds_zipT {a b : Addr} {vs ws : List V} {ds es : List D} (h : SqT K G a vs) (h' : SqT K G b ws) (r : Reps K G ds vs) (r' : Reps K G es ws) : Feeds K (RZ.ItzT K a b) G (zipD ds es) := by
  intro i G1 H l1 l2
  refine ⟨fun e => ⟨vs, ws, l2.sqT (l1.sqT h), l2.sqT (l1.sqT h'), by rw [r.len, r'.len]; simp [zipD] at e; omega⟩, fun x hx => ?_⟩
  unfold zipD at hx
  rw [List.getElem?_map] at hx
  cases e : (ds.zip es)[i]? with
  | none => rw [e] at hx; cases hx
  | some q =>
    rw [e] at hx; cases hx
    obtain ⟨e1, e2⟩ := zip_get e
    obtain ⟨v, hv, rv⟩ := r.get e1
    obtain ⟨w, hw, rw'⟩ := r'.get e2
    refine ⟨⟨vs, ws, v, w, l2.sqT (l1.sqT h), l2.sqT (l1.sqT h'), hv, hw⟩, fun u H' hy => ?_⟩
    obtain ⟨T, x1, y1, rfl, hT, rfl, f1, f2⟩ := hy
    have q1 := f1 _ (l2.sqT (l1.sqT h))
    have q2 := f2 _ (l2.sqT (l1.sqT h'))
    rw [hv] at q1; cases q1
    rw [hw] at q2; cases q2
    exact .inr ⟨T, _, _, rfl, rfl, hT, rfl, .cons (rv.le l1) (.one (rw'.le l1))⟩
theorem feeds_zipL {a b : Addr} {vs ws : List V} {ds es : List D} (h : SqL K G a vs) (h' : SqL K G b ws) (r : Reps K G ds vs) (r' : Reps K G es ws) : Feeds K (Itz K a b) G (zipD ds es) := by
  intro i G1 H l1 l2
  refine ⟨fun e => ⟨vs, ws, l2.sqL (l1.sqL h), l2.sqL (l1.sqL h'), by rw [r.len, r'.len]; simp [zipD] at e; omega⟩, fun x hx => ?_⟩
  unfold zipD at hx
  rw [List.getElem?_map] at hx
  cases e : (ds.zip es)[i]? with
  | none => rw [e] at hx; cases hx
  | some q =>
    rw [e] at hx; cases hx
    obtain ⟨e1, e2⟩ := zip_get e
    obtain ⟨v, hv, rv⟩ := r.get e1
    obtain ⟨w, hw, rw'⟩ := r'.get e2
    refine ⟨⟨vs, ws, v, w, l2.sqL (l1.sqL h), l2.sqL (l1.sqL h'), hv, hw⟩, fun u H' hy => ?_⟩
    obtain ⟨T, x1, y1, rfl, hT, rfl, f1, f2⟩ := hy
    have q1 := f1 _ (l2.sqL (l1.sqL h))
    have q2 := f2 _ (l2.sqL (l1.sqL h'))
    rw [hv] at q1; cases q1
    rw [hw] at q2; cases q2
    exact .inr ⟨T, _, _, rfl, rfl, hT, rfl, .cons (rv.le l1) (.one (rw'.le l1))⟩
end
/-- the items of a value -/
def itemsD : D → Option (List D)
  | .lst xs => some xs
  | .tup xs => some xs
  | .dk m => some (m.map fun kv => keyD kv.1)
  | .str s => some (chrD s)
  | .scr ns => some (ns.map .int)
  | _ => none
def seqI (f : M Res) : M (List D) := bnd (asD f) fun x => lft (itemsD x)
def rng1 (f : M Res) : M (List D) := bnd (asD f) fun x => lft (match x with
  | .int j => if -(2 ^ 62) ≤ j ∧ j < 2 ^ 62 then some (rngD 0 j.toNat) else none
  | _ => none)
def rng2 (f g : M Res) : M (List D) := bnd (asD f) fun x => bnd (asD g) fun y => lft (match x, y with
  | .int i, .int j => if -(2 ^ 62) ≤ i ∧ i < 2 ^ 62 ∧ -(2 ^ 62) ≤ j ∧ j < 2 ^ 62 then some (rngD i (j - i).toNat) else none
  | _, _ => none)
section
variable {X : Cx} {pos : Pos} {tg e a b : Expr} {f g : M Res}
theorem reps_ints {K : PySem.W.Frag} {G : Hp} : ∀ ns : List Int, Reps K G (ns.map D.int) (ns.map V.int)
  | [] => .nil
  | n :: ns => .cons (by simp only [Rep]) (reps_ints ns)
theorem ei_seq (h : EvE X e f) : EvI X tg e (seqI f) := by
  intro p G H σ cs xs cs' R k hf hR
  obtain ⟨x, cs1, h1, h2⟩ := bnd_inv hf
  obtain ⟨h3, e3⟩ := lft_inv h2
  subst e3
  cases x <;> simp only [itemsD] at h3 <;> try (cases h3; done)
  · cases h3
    refine ⟨_, pi_str pe_any, ?_⟩
    refine h.d p G H σ cs _ _ _ k h1 fun v G1 H1 k1 l1 r1 => ?_
    simp only [Rep] at r1
    exact ⟨_, r1, hR _ G1 H1 k1 l1 (feeds_str _)⟩
  · cases h3
    refine ⟨_, pi_tup pe_any, ?_⟩
    refine h.d p G H σ cs _ _ _ k h1 fun v G1 H1 k1 l1 r1 => ?_
    simp only [Rep] at r1
    obtain ⟨ad, vs, rfl, q1, q2⟩ := r1
    exact ⟨ad, rfl, ⟨vs, k1.le.sqT q1⟩, hR _ G1 H1 k1 l1 (feeds_tup q1 q2)⟩
  · cases h3
    refine ⟨_, pi_list pe_any, ?_⟩
    refine h.d p G H σ cs _ _ _ k h1 fun v G1 H1 k1 l1 r1 => ?_
    simp only [Rep] at r1
    obtain ⟨ad, vs, rfl, q1, q2⟩ := r1
    exact ⟨ad, rfl, ⟨vs, SqL.of (k1.le _ _ q1)⟩, hR _ G1 H1 k1 l1 (feeds_list (SqL.of q1) q2 fun _ _ _ _ => .inr trivial)⟩
  · cases h3
    refine ⟨_, pi_keys pe_any, ?_⟩
    refine h.d p G H σ cs _ _ _ k h1 fun v G1 H1 k1 l1 r1 => ?_
    simp only [Rep] at r1
    obtain ⟨ad, o, vs, rfl, q1, q2⟩ := r1
    exact ⟨ad, o, rfl, .inl ⟨vs, k1.le _ _ q1, hR _ G1 H1 k1 l1 (feeds_keys q1 q2)⟩⟩
  · cases h3
    refine ⟨_, pi_list pe_any, ?_⟩
    refine h.d p G H σ cs _ _ _ k h1 fun v G1 H1 k1 l1 r1 => ?_
    simp only [Rep] at r1
    obtain ⟨ad, rfl, q1⟩ := r1
    exact ⟨ad, rfl, ⟨_, k1.le.sqL q1⟩, hR _ G1 H1 k1 l1 (feeds_list q1 (reps_ints _) fun _ _ _ _ => .inr trivial)⟩
theorem ei_rng1 {q : Pos} (hg : Gl X "range") (hm : X.mg "range" = none) (ha : EvE X a f) (hs : starEach [a] X.env = [(false, eval a X.env)] := by rfl) : EvI X tg (.Call (.Name "range" q) [a] [] pos) (rng1 f) := by
  intro p G H σ cs xs cs' R k hf hR
  obtain ⟨x, cs1, h1, h2⟩ := bnd_inv hf
  obtain ⟨h3, e3⟩ := lft_inv h2
  subst e3
  split at h3
  · rename_i j
    split at h3
    · rename_i hb
      cases h3
      refine ⟨_, pi_range1 hg hm (pa_cons pe_any pa_nil hs) hs, ?_⟩
      refine ha.d p G H σ cs _ _ _ k h1 fun v G1 H1 k1 l1 r1 => ?_
      simp only [Rep] at r1
      subst r1
      exact ⟨j, rfl, hb.1, hb.2, hR _ G1 H1 k1 l1 (feeds_rng 0 _)⟩
    · cases h3
  · cases h3
theorem ei_rng2 {q : Pos} (hg : Gl X "range") (hm : X.mg "range" = none) (ha : EvE X a f) (hb : EvE X b g) (hs : starEach [a, b] X.env = [(false, eval a X.env), (false, eval b X.env)] := by rfl) (hs2 : starEach [b] X.env = [(false, eval b X.env)] := by rfl) :
    EvI X tg (.Call (.Name "range" q) [a, b] [] pos) (rng2 f g) := by
  intro p G H σ cs xs cs' R k hf hR
  obtain ⟨x, cs1, h1, h2⟩ := bnd_inv hf
  obtain ⟨y, cs2, h3, h4⟩ := bnd_inv h2
  obtain ⟨h5, e5⟩ := lft_inv h4
  subst e5
  split at h5
  · rename_i i j
    split at h5
    · rename_i hbd
      cases h5
      refine ⟨_, pi_range2 hg hm (pa_cons pe_any (pa_cons pe_any pa_nil hs2) (by rw [hs, hs2])) hs hs2, ?_⟩
      refine ha.d p G H σ cs _ _ _ k h1 fun v G1 H1 k1 l1 r1 => ?_
      refine hb.d p G1 H1 σ cs1 _ _ _ k1 h3 fun w G2 H2 k2 l2 r2 => ?_
      simp only [Rep] at r1 r2
      subst r1; subst r2
      exact ⟨i, j, rfl, hbd, hR _ G2 H2 k2 (l1.trans l2) (feeds_rng i _)⟩
    · cases h5
  · cases h5
/-- zip of two tuples or of two lists -/
def zip2 (f g : M Res) : M (List D) := bnd (asD f) fun x => bnd (asD g) fun y => lft (match x, y with
  | .tup xs, .tup ys => some (zipD xs ys)
  | .lst xs, .lst ys => some (zipD xs ys)
  | _, _ => none)
theorem ei_zip {q tpos : Pos} {elts : List Expr} {kk : Nat} (hg : Gl X "zip") (hm : X.mg "zip" = none) (ha : EvE X a f) (hb : EvE X b g) (hs : starEach [a, b] X.env = (false, eval a X.env) :: starEach [b] X.env := by rfl) (hs2 : starEach [b] X.env = (false, eval b X.env) :: starEach [] X.env := by rfl)
    (hpl : (backTo pos (starEach [b] X.env)).any (·.1) = false := by rfl) : EvI X (.Tuple elts kk tpos) (.Call (.Name "zip" q) [a, b] [] pos) (zip2 f g) := by
  intro p G H σ cs xs cs' R k hf hR
  obtain ⟨x, cs1, h1, h2⟩ := bnd_inv hf
  obtain ⟨y, cs2, h3, h4⟩ := bnd_inv h2
  obtain ⟨h5, e5⟩ := lft_inv h4
  subst e5
  refine ⟨_, RZ.pi_zipA hg hm (pa_cons pe_any (pa_cons pe_any pa_nil hs2) hs) hs hpl, ?_⟩
  refine ha.d p G H σ cs _ _ _ k h1 fun v G1 H1 k1 l1 r1 => ?_
  refine hb.d p G1 H1 σ cs1 _ _ _ k1 h3 fun w G2 H2 k2 l2 r2 => ?_
  have r1' := r1.le l2
  split at h5
  · cases h5
    simp only [Rep] at r1' r2
    obtain ⟨a1, vs, rfl, q1, q2⟩ := r1'
    obtain ⟨a2, ws, rfl, q3, q4⟩ := r2
    exact ⟨a1, a2, vs, ws, rfl, .inr ⟨k2.le.sqT q1, k2.le.sqT q3, hR _ G2 H2 k2 (l1.trans l2) (feeds_zipT q1 q3 q2 q4)⟩⟩
  · cases h5
    simp only [Rep] at r1' r2
    obtain ⟨a1, vs, rfl, q1, q2⟩ := r1'
    obtain ⟨a2, ws, rfl, q3, q4⟩ := r2
    exact ⟨a1, a2, vs, ws, rfl, .inl ⟨SqL.of (k2.le _ _ q1), SqL.of (k2.le _ _ q3), hR _ G2 H2 k2 (l1.trans l2) (feeds_zipL (SqL.of q1) (SqL.of q3) q2 q4)⟩⟩
  · cases h5
end

/-! ### for -/
def forL (h : D → Cs → Option Cs) (g : S) : List D → S
  | [], cs => some (.nx cs)
  | x :: xs, cs => match h x cs with
    | none => none
    | some cs1 => match g cs1 with
      | some (.nx cs2) => forL h g xs cs2
      | some (.ct cs2) => forL h g xs cs2
      | some (.bk cs2) => some (.nx cs2)
      | some (.rt r cs2) => some (.rt r cs2)
      | none => none
def forS (f : M (List D)) (h : D → Cs → Option Cs) (g : S) : S := fun cs => match f cs with
  | some (xs, cs') => forL h g xs cs'
  | none => none
section
variable {X : Cx} {pos : Pos} {tg iter : Expr} {body : List Stmt} {f : M (List D)} {h : D → Cs → Option Cs} {g : S}
theorem YOk.go {p : Pt} {G H H' : Hp} {σ : L2.St} {cs : Cs} {x : D} {v : V} (k : Ok X.K p G H σ cs) (y : YOk X.K G H x v H') : ∃ G', Ok X.K p G' H' σ cs ∧ Le G G' ∧ Rep X.K G' x v := by
  rcases y with ⟨rfl, r⟩ | ⟨T, vs, ds, rfl, rfl, hT, rfl, r⟩
  · exact ⟨G, k, .refl _, r⟩
  · exact ⟨_, (k.resTup hT r).1, (k.resTup hT r).2.1, (k.resTup hT r).2.2⟩
theorem es_for (hp : PassesOwn (model X.prog X.w) X.A X.env X.xe) (hc : X.calm = true) (hi : EvI X tg iter f) (hg : EvG X tg h) (hb : EvB X body g) (hs : ∀ x, foldedSetIterable iter X.env x = pure x := by intro _; rfl) :
    EvS X (.For tg iter body [] pos) (forS f h g) := by
  intro p G H σ cs o E k hh q
  refine ⟨_, ps_for hp hc pi_any pg_any pss_any hs, ?_⟩
  unfold forS at hh
  split at hh
  · rename_i xs cs' e1
    refine hi p G H σ cs xs cs' _ k e1 fun J G0 H0 k0 l0 fd => ?_
    refine ⟨fun i m σ1 H1 => ∃ G1 cs1, Ok X.K p G1 H1 σ1 cs1 ∧ Le G0 G1 ∧ forL h g (xs.drop i) cs1 = some o ∧ i + m = xs.length, ⟨xs.length, G0, cs', k0, .refl _, hh, by omega⟩, ?_⟩
    rintro i m σ1 H1 ⟨G1, cs1, k1, l1, hl, em⟩
    obtain ⟨f1, f2⟩ := fd i G1 H1 l1 k1.le
    by_cases hi : i < xs.length
    · right
      have ex : xs[i]? = some xs[i] := List.getElem?_eq_getElem hi
      obtain ⟨go, yl⟩ := f2 _ ex
      refine ⟨go, fun σ' H' => ∃ G' cs2, Ok X.K p G' H' σ' cs2 ∧ Le G0 G' ∧ forL h g (xs.drop (i + 1)) cs2 = some o, fun σ' H' ⟨G', cs2, k', l', e'⟩ => ⟨m - 1, by omega, G', cs2, k', l', e', by omega⟩, fun v H' hy => ?_⟩
      obtain ⟨G2, k2, l2, r2⟩ := (yl v H' hy).go k1
      rw [List.drop_eq_getElem_cons hi] at hl
      unfold forL at hl
      split at hl
      · cases hl
      · rename_i cs2 e2
        refine hg p G2 H' σ1 cs1 cs2 _ v _ k2 r2 e2 fun σ2 k3 => ?_
        split at hl
        · rename_i cs3 e3
          refine hb p G2 H' σ2 cs2 _ _ k3 e3 ?_
          intro G' H'' σ' k' l'
          exact ⟨G', cs3, k', (l1.trans l2).trans l', hl⟩
        · rename_i cs3 e3
          refine hb p G2 H' σ2 cs2 _ _ k3 e3 ?_
          intro G' H'' σ' k' l'
          exact ⟨G', cs3, k', (l1.trans l2).trans l', hl⟩
        · rename_i cs3 e3
          cases hl
          refine hb p G2 H' σ2 cs2 _ _ k3 e3 ?_
          intro G' H'' σ' k' l'
          exact q G' H'' σ' k' (((l0.trans l1).trans l2).trans l')
        · rename_i r cs3 e3
          cases hl
          refine hb p G2 H' σ2 cs2 _ _ k3 e3 ?_
          intro v' G' H'' σ' k' l' rr
          exact q v' G' H'' σ' k' (((l0.trans l1).trans l2).trans l') rr
        · cases hl
    · left
      have ei : i = xs.length := by omega
      refine ⟨f1 ei, ?_⟩
      rw [List.drop_eq_nil_of_le (by omega)] at hl
      cases hl
      exact q G1 H1 σ1 k1 (l0.trans l1)
  · cases hh

/-! ### while -/
def whileN (t : M Bool) (g : S) : Nat → S
  | 0, _ => none
  | n + 1, cs => match t cs with
    | none => none
    | some (false, cs1) => some (.nx cs1)
    | some (true, cs1) => match g cs1 with
      | some (.nx cs2) => whileN t g n cs2
      | some (.ct cs2) => whileN t g n cs2
      | some (.bk cs2) => some (.nx cs2)
      | some (.rt r cs2) => some (.rt r cs2)
      | none => none
theorem es_while {c : Expr} {t : M Bool} (n : Nat) (hp : PassesOwn (model X.prog X.w) X.A X.env X.xe) (hc : EvT X c t) (hb : EvB X body g) : EvS X (.While c body [] pos) (whileN t g n) := by
  intro p G H σ cs o E k hh q
  refine ⟨_, ps_while hp pt_any pss_any, ?_⟩
  refine ⟨fun m σ1 H1 => ∃ G1 cs1, Ok X.K p G1 H1 σ1 cs1 ∧ Le G G1 ∧ whileN t g m cs1 = some o, ⟨n, G, cs, k, .refl _, hh⟩, ?_⟩
  rintro m σ1 H1 ⟨G1, cs1, k1, l1, hw⟩
  cases m with
  | zero => cases hw
  | succ m =>
    unfold whileN at hw
    split at hw
    · cases hw
    · rename_i cs2 e1
      cases hw
      refine hc p G1 H1 σ1 cs1 _ _ _ k1 e1 fun G2 H2 k2 l2 => ?_
      rw [if_neg (by simp)]
      exact q G2 H2 σ1 k2 (l1.trans l2)
    · rename_i cs2 e1
      refine hc p G1 H1 σ1 cs1 _ _ _ k1 e1 fun G2 H2 k2 l2 => ?_
      rw [if_pos rfl]
      refine ⟨fun σ' H' => ∃ G' cs', Ok X.K p G' H' σ' cs' ∧ Le G G' ∧ whileN t g m cs' = some o, fun σ' H' ⟨G', cs', k', l', e'⟩ => ⟨m, Nat.lt_succ_self m, G', cs', k', l', e'⟩, ?_⟩
      split at hw
      · rename_i cs3 e3
        refine hb p G2 H2 σ1 cs2 _ _ k2 e3 ?_
        intro G' H'' σ' k' l'
        exact ⟨G', cs3, k', (l1.trans l2).trans l', hw⟩
      · rename_i cs3 e3
        refine hb p G2 H2 σ1 cs2 _ _ k2 e3 ?_
        intro G' H'' σ' k' l'
        exact ⟨G', cs3, k', (l1.trans l2).trans l', hw⟩
      · rename_i cs3 e3
        cases hw
        refine hb p G2 H2 σ1 cs2 _ _ k2 e3 ?_
        intro G' H'' σ' k' l'
        exact q G' H'' σ' k' ((l1.trans l2).trans l')
      · rename_i r cs3 e3
        cases hw
        refine hb p G2 H2 σ1 cs2 _ _ k2 e3 ?_
        intro v' G' H'' σ' k' l' rr
        exact q v' G' H'' σ' k' ((l1.trans l2).trans l') rr
      · cases hw
end
end DS

set_option Elab.async false
set_option linter.all false
set_option maxRecDepth 100000
set_option maxHeartbeats 2000000
set_option autoImplicit false
namespace DS
open PySem PySem.Spec L2

/-! ### the state within a comprehension's turn -/
def wipeC (cs : Cs) : List Nat → Cs
  | [] => cs
  | v :: vs => (wipeC cs vs).set v .un
/-- the block's own names as they stood -/
def reC (cs0 : Cs) (vs : List Nat) (cs : Cs) : Cs := match vs with
  | [] => cs
  | v :: vs => match cs0[v]? with
    | some c => (reC cs0 vs cs).set v c
    | none => reC cs0 vs cs
def noOw (cs : Cs) : List Nat → Bool
  | [] => true
  | v :: vs => (match cs[v]? with
    | some (.o _ _) => false
    | _ => true) && noOw cs vs
theorem wipeC_len (cs : Cs) : ∀ vs, (wipeC cs vs).length = cs.length
  | [] => rfl
  | v :: vs => by simp [wipeC, wipeC_len cs vs]
theorem wipeC_get {cs : Cs} {i : Nat} {c : Cell} : ∀ {vs : List Nat}, (wipeC cs vs)[i]? = some c → c = .un ∨ (i ∉ vs ∧ cs[i]? = some c)
  | [], h => .inr ⟨by simp, h⟩
  | v :: vs, h => by
    rcases get_set h with ⟨_, rfl⟩ | ⟨n, h⟩
    · exact .inl rfl
    · rcases wipeC_get h with h | ⟨h1, h2⟩
      · exact .inl h
      · exact .inr ⟨by simp only [List.mem_cons, not_or]; exact ⟨fun e => n e.symm, h1⟩, h2⟩
theorem reC_len (cs0 : Cs) : ∀ (vs : List Nat) (cs : Cs), (reC cs0 vs cs).length = cs.length
  | [], cs => rfl
  | v :: vs, cs => by
    unfold reC
    split
    · simp [reC_len cs0 vs cs]
    · exact reC_len cs0 vs cs
theorem reC_get {cs0 cs : Cs} {i : Nat} {c : Cell} (hl : cs0.length = cs.length) : ∀ {vs : List Nat}, (reC cs0 vs cs)[i]? = some c → (i ∈ vs ∧ cs0[i]? = some c) ∨ (i ∉ vs ∧ cs[i]? = some c)
  | [], h => .inr ⟨by simp, h⟩
  | v :: vs, h => by
    unfold reC at h
    split at h
    · rename_i c0 e
      rcases get_set h with ⟨rfl, rfl⟩ | ⟨n, h⟩
      · exact .inl ⟨by simp, e⟩
      · rcases reC_get hl h with ⟨h1, h2⟩ | ⟨h1, h2⟩
        · exact .inl ⟨by simp [h1], h2⟩
        · exact .inr ⟨by simp only [List.mem_cons, not_or]; exact ⟨fun e => n e.symm, h1⟩, h2⟩
    · rename_i e
      rcases reC_get hl h with ⟨h1, h2⟩ | ⟨h1, h2⟩
      · exact .inl ⟨by simp [h1], h2⟩
      · refine .inr ⟨?_, h2⟩
        simp only [List.mem_cons, not_or]
        refine ⟨fun e' => ?_, h1⟩
        subst e'
        rw [List.getElem?_eq_none_iff] at e
        have := (List.getElem?_eq_some_iff.mp h2).1
        omega
theorem noOw_get {cs : Cs} {i : Nat} : ∀ {vs : List Nat}, noOw cs vs = true → i ∈ vs → ∀ b c, cs[i]? ≠ some (.o b c)
  | [], _, h => by simp at h
  | v :: vs, h, hm => by
    simp only [noOw, Bool.and_eq_true] at h
    rcases List.mem_cons.mp hm with rfl | hm
    · intro b c e
      rw [e] at h
      cases h.1
    · exact noOw_get h.2 hm
/-- the point of entry of a block: what fresh slots own may change -/
noncomputable def blkP (p : Pt) (G H : Hp) (σ : L2.St) (cs : Cs) : Pt := by
  classical
  exact ⟨G, fun a => if (∃ (i : Nat) (c : O), cs[i]? = some (.o false c) ∧ σ[i]? = some (some (V.ref a))) then none else H a, p.io⟩
section
variable {K : PySem.W.Frag} {p : Pt} {G H G' H' : Hp} {σ σ' : L2.St} {cs cs' : Cs}
theorem blkP_own {i : Nat} {c : O} {a : Addr} (e : cs[i]? = some (.o false c)) (ev : σ[i]? = some (some (V.ref a))) : (blkP p G H σ cs).H0 a = none := by
  classical
  show (if _ then _ else _) = _
  rw [if_pos ⟨i, c, e, ev⟩]
theorem blkP_some {a : Addr} {o : HO} (h : (blkP p G H σ cs).H0 a = some o) : H a = some o := by
  classical
  have h' : (if (∃ (i : Nat) (c : O), cs[i]? = some (.o false c) ∧ σ[i]? = some (some (V.ref a))) then none else H a) = some o := h
  split at h'
  · cases h'
  · exact h'
theorem blkP_none (k : Ok K p G H σ cs) {a : Addr} (h : (blkP p G H σ cs).H0 a = none) : H a = none ∨ p.H0 a = none := by
  classical
  have h' : (if (∃ (i : Nat) (c : O), cs[i]? = some (.o false c) ∧ σ[i]? = some (some (V.ref a))) then none else H a) = none := h
  split at h'
  · rename_i q
    obtain ⟨i, c, e, ev⟩ := q
    obtain ⟨a', ho, e1, _, _, _, _, h5⟩ := k.cells i _ _ e ev
    cases e1
    exact .inr (h5 rfl)
  · exact .inl h'
theorem blkP_keep (k : Ok K p G H σ cs) {a : Addr} {o : HO} (h : H a = some o) (f : Free σ cs a) : (blkP p G H σ cs).H0 a = some o := by
  classical
  show (if _ then _ else _) = _
  rw [if_neg]
  · exact h
  · rintro ⟨i, c, e, ev⟩
    exact f i false c e ev
theorem Ok.enter (k : Ok K p G H σ cs) (vs : List Nat) : Ok K (blkP p G H σ cs) G H (wipe σ vs) (wipeC cs vs) := by
  refine ⟨by rw [wipe_length, wipeC_len]; exact k.len, fun i c v e1 e2 => ?_, fun i j io io' c c' a e1 e2 e3 e4 => ?_, k.le, k.sub, fun a o e _ => blkP_some e, fun a e => ?_, .refl _, fun a e => .inl e, fun i a hio => ?_⟩
  · rcases wipeC_get e1 with rfl | ⟨ni, e1⟩
    · trivial
    · rw [wipe_out ni] at e2
      have := k.cells i c v e1 e2
      cases c with
      | un => trivial
      | d x => exact this
      | o io c =>
        obtain ⟨a, ho, rfl, h1, h2, h3, h4, h5⟩ := this
        exact ⟨a, ho, rfl, h1, h2, h3, h4, fun e => by subst e; exact blkP_own e1 e2⟩
  · rcases wipeC_get e1 with h | ⟨n1, e1⟩
    · cases h
    rcases wipeC_get e2 with h | ⟨n2, e2⟩
    · cases h
    rw [wipe_out n1] at e3
    rw [wipe_out n2] at e4
    exact k.sep i j io io' c c' a e1 e2 e3 e4
  · cases h : (blkP p G H σ cs).H0 a with
    | none => rfl
    | some o => rw [blkP_some h] at e; cases e
  · intro hn
    have h1 := k.ios i a hio
    rcases blkP_none k hn with h | h
    · exact h1 (k.dom a h)
    · exact h1 h
theorem Ok.leave (k : Ok K p G H σ cs) {vs : List Nat} (no : noOw cs vs = true) (k' : Ok K (blkP p G H σ cs) G' H' σ' cs') (l : Le G G') (hw : wipe σ' vs = wipe σ vs) : Ok K p G' H' σ (reC cs vs cs') := by
  have hl : cs.length = cs'.length := by
    rw [← k.len, ← k'.len, ← wipe_length σ vs, ← wipe_length σ' vs, hw]
  have same : ∀ {i : Nat}, i ∉ vs → σ'[i]? = σ[i]? := fun {i} ni => by
    rw [← wipe_out (σ := σ') ni, hw, wipe_out ni]
  refine ⟨by rw [reC_len, ← hl]; exact k.len, fun i c v e1 e2 => ?_, fun i j io io' c c' a e1 e2 e3 e4 => ?_, k'.le, k'.sub, fun a o e ni => ?_, fun a e => ?_, k.g0.trans l, fun a e => ?_, k.ios⟩
  · rcases reC_get hl e1 with ⟨hi, e1⟩ | ⟨hi, e1⟩
    · have := k.cells i c v e1 e2
      cases c with
      | un => trivial
      | d x =>
        obtain ⟨u, e, r⟩ := this
        exact ⟨u, e, r.le l⟩
      | o io c => exact absurd e1 (noOw_get no hi io c)
    · rw [← same hi] at e2
      have := k'.cells i c v e1 e2
      cases c with
      | un => trivial
      | d x => exact this
      | o io c =>
        obtain ⟨a, ho, rfl, h1, h2, h3, h4, h5⟩ := this
        refine ⟨a, ho, rfl, h1, h2, h3, h4, fun e => ?_⟩
        rcases blkP_none k (h5 e) with h | h
        · exact k.dom a h
        · exact h
  · rcases reC_get hl e1 with ⟨hi, e1⟩ | ⟨hi, e1⟩
    · exact absurd e1 (noOw_get no hi io c)
    rcases reC_get hl e2 with ⟨hj, e2⟩ | ⟨hj, e2⟩
    · exact absurd e2 (noOw_get no hj io' c')
    rw [← same hi] at e3
    rw [← same hj] at e4
    exact k'.sep i j io io' c c' a e1 e2 e3 e4
  · have h1 := k.fr a o e ni
    refine k'.fr a o ?_ ni
    cases h : (blkP p G H σ cs).H0 a with
    | none =>
      rcases blkP_none k h with h | h
      · rw [h1] at h; cases h
      · rw [h] at e; cases e
    | some o' =>
      rw [blkP_some h] at h1
      exact h1
  · have h1 := k'.dom a e
    rcases blkP_none k h1 with h | h
    · exact k.dom a h
    · exact h
  · rcases k'.gn a e with h | h
    · exact k.gn a h
    · rcases blkP_none k h with h | h
      · exact .inr (k.dom a h)
      · exact .inr h
/-- what no slot owns stands behind the block -/
theorem Ok.stays (k : Ok K p G H σ cs) (k' : Ok K (blkP p G H σ cs) G' H' σ' cs') {a : Addr} {o : HO} (h : H a = some o) (hg : G a = none) (h0 : p.H0 a = none) (f : Free σ cs a) : H' a = some o ∧ G' a = none := by
  have e := blkP_keep k h f
  refine ⟨k'.fr a o e fun i hi => k.ios i a hi h0, ?_⟩
  cases q : G' a with
  | none => rfl
  | some u =>
    rcases k'.gn a (by rw [q]; simp) with h1 | h1
    · exact absurd hg h1
    · rw [e] at h1; cases h1
theorem Free.leave (k : Ok K p G H σ cs) {vs : List Nat} (no : noOw cs vs = true) (k' : Ok K (blkP p G H σ cs) G' H' σ' cs') (hw : wipe σ' vs = wipe σ vs) {a : Addr} {o : HO} (h : H a = some o) (h0 : p.H0 a = none) (f : Free σ cs a) : Free σ (reC cs vs cs') a := by
  have hl : cs.length = cs'.length := by
    rw [← k.len, ← k'.len, ← wipe_length σ vs, ← wipe_length σ' vs, hw]
  intro i io c e1 e2
  rcases reC_get hl e1 with ⟨hi, e1⟩ | ⟨hi, e1⟩
  · exact noOw_get no hi io c e1
  · have e3 : σ'[i]? = some (some (V.ref a)) := by
      rw [← wipe_out (σ := σ') hi, hw, wipe_out hi]; exact e2
    obtain ⟨a', ho, e4, _, _, _, h4, h5⟩ := k'.cells i _ _ e1 e3
    cases e4
    cases io with
    | true => exact k.ios i _ (h4 rfl) h0
    | false =>
      have := h5 rfl
      rw [blkP_keep k h f] at this
      cases this
/-- an object that no slot owns is changed -/
theorem Ok.poke (k : Ok K p G H σ cs) {a : Addr} {o o' : HO} (h : H a = some o) (hg : G a = none) (h0 : p.H0 a = none) (f : Free σ cs a) : Ok K p G (upd H a o') σ cs := by
  refine ⟨k.len, fun i c v e1 e2 => ?_, k.sep, k.le.wr hg, fun b e => ?_, fun b o e ni => ?_, fun b e => ?_, k.g0, k.gn, k.ios⟩
  · have := k.cells i c v e1 e2
    cases c with
    | un => trivial
    | d x => exact this
    | o io c =>
      obtain ⟨b, ho, rfl, h1, h2, h3, h4⟩ := this
      have ne : b ≠ a := fun z => by subst z; exact f i io c e1 e2
      exact ⟨b, ho, rfl, by rw [upd_ne ne]; exact h1, h2, h3, h4⟩
  · by_cases z : b = a
    · subst z; rw [upd_same] at e; cases e
    · rw [upd_ne z] at e; exact k.sub b e
  · have ne : b ≠ a := fun z => by subst z; rw [h0] at e; cases e
    rw [upd_ne ne]; exact k.fr b o e ni
  · by_cases z : b = a
    · subst z; exact h0
    · rw [upd_ne z] at e; exact k.dom b e
end

/-! ### targets of a block -/
def EvGc (X : Cx) (own : List Nat) (tg : Expr) (h : D → Cs → Option Cs) : Prop := ∀ (p : Pt) (G H : Hp) (σ : L2.St) (cs cs' : Cs) (x : D) (v : V) (Q : L2.St → Hp → Prop), Ok X.K p G H σ cs → Rep X.K G x v → h x cs = some cs' →
  (∀ σ', Ok X.K p G H σ' cs' → wipe σ' own = wipe σ own → Q σ' H) → tAnyG X tg v σ H Q
def EvGcs (X : Cx) (own : List Nat) (tg : List Expr) (h : List D → Cs → Option Cs) : Prop := ∀ (p : Pt) (G H : Hp) (σ : L2.St) (cs cs' : Cs) (xs : List D) (vs : List V) (Q : L2.St → Hp → Prop), Ok X.K p G H σ cs → Reps X.K G xs vs → h xs cs = some cs' →
  (∀ σ', Ok X.K p G H σ' cs' → wipe σ' own = wipe σ own → Q σ' H) → tAnyGs X tg vs σ H Q
theorem wipe_set {σ : L2.St} {i : Nat} {v : Option V} : ∀ {vs : List Nat}, i ∈ vs → wipe (σ.set i v) vs = wipe σ vs
  | [], h => by simp at h
  | w :: vs, h => by
    show (wipe (σ.set i v) vs).set w none = (wipe σ vs).set w none
    by_cases e : i ∈ vs
    · rw [wipe_set e]
    · have : i = w := by
        rcases List.mem_cons.mp h with h | h
        · exact h
        · exact absurd h e
      subst this
      have gen : ∀ vs : List Nat, i ∉ vs → wipe (σ.set i v) vs = (wipe σ vs).set i v := by
        intro vs
        induction vs with
        | nil => intro _; rfl
        | cons w vs ih =>
          intro hn
          simp only [List.mem_cons, not_or] at hn
          show (wipe (σ.set i v) vs).set w none = ((wipe σ vs).set w none).set i v
          rw [ih hn.2, List.set_comm _ _ (fun e => hn.1 e)]
      rw [gen vs e, List.set_set]
section
variable {X : Cx} {pos : Pos} {own : List Nat} {e : Expr}
theorem gc_name {i : Nat} {x : Str} (hN : X.N.Nodup) (hi : X.N[i]? = some x) (hx : Loc X.env.scope x) (ho : i ∈ own) (hf : X.fn x = true ∨ X.env.scope.names.lookup x = some .local) : EvGc X own (.Name x pos) (gN i) := by
  intro p G H σ cs cs' y v Q k r hg h
  cases hg
  exact ⟨_, pg_name hN hi hx hf, h _ (k.setD i r) (wipe_set ho)⟩
theorem gcs_nil : EvGcs X own [] gsN := by
  intro p G H σ cs cs' xs vs Q k r hg h
  unfold gsN at hg
  split at hg
  · cases hg
    exact ⟨_, pgs_nil, r.nil_inv, h σ k rfl⟩
  · cases hg
theorem gcs_cons {es : List Expr} {h1 : D → Cs → Option Cs} {h2 : List D → Cs → Option Cs} (ha : EvGc X own e h1) (hb : EvGcs X own es h2) (hs : (assignEach (e :: es) X.env).map (·.2) = assign e X.env :: (assignEach es X.env).map (·.2)) : EvGcs X own (e :: es) (gsC h1 h2) := by
  intro p G H σ cs cs' xs vs Q k r hg h
  unfold gsC at hg
  split at hg
  · rename_i x xs
    split at hg
    · rename_i cs1 e1
      obtain ⟨v, r', rfl, r1, r2⟩ := r.cons_inv
      refine ⟨_, pgs_cons pg_any pgs_any hs, ?_⟩
      refine ⟨v, r', rfl, ?_⟩
      refine ha p G H σ cs cs1 x v _ k r1 e1 fun σ1 k1 w1 => ?_
      exact hb p G H σ1 cs1 cs' xs r' Q k1 r2 hg fun σ2 k2 w2 => h σ2 k2 (w2.trans w1)
    · cases hg
  · cases hg
theorem gc_tup {es : List Expr} {k0 n : Nat} {h : List D → Cs → Option Cs} (hc : X.calm = true) (hh : EvGcs X own es h) (hn : (assignEach es X.env).length = n) (hst : (assignEach es X.env).findIdx? (·.1) = none) : EvGc X own (.Tuple es k0 pos) (gT n h) := by
  intro p G H σ cs cs' x v Q k r hg q
  unfold gT at hg
  split at hg
  · rename_i xs
    split at hg
    · rename_i hl
      simp only [Rep] at r
      obtain ⟨a, vs, rfl, h1, h2⟩ := r
      exact ⟨_, pg_tup hc pgs_any hn hst, a, vs, rfl, k.le.sqT h1, by rw [h2.len]; exact hl, hh p G H σ cs cs' xs vs Q k h2 hg q⟩
    · cases hg
  · cases hg
/-! ### the tests of a clause -/
def EvTs (X : Cx) (ifs : List Expr) (f : M Bool) : Prop := ∀ (p : Pt) (G H : Hp) (σ : L2.St) (cs : Cs) (r : Bool) (cs' : Cs) (Q : Bool → Hp → Prop), Ok X.K p G H σ cs → f cs = some (r, cs') →
  (∀ G' H', Ok X.K p G' H' σ cs' → Le G G' → Q r H') → ∃ t, PTs X ifs t ∧ t σ H Q
def tAnyTs (X : Cx) (ifs : List Expr) : TT := fun σ H Q => ∃ t, PTs X ifs t ∧ t σ H Q
theorem pts_any {ifs : List Expr} : PTs X ifs (tAnyTs X ifs) := ⟨fun pins s σ H Q I ⟨_, h, q⟩ => h.run pins s σ H Q I q⟩
theorem ets_nil : EvTs X [] (ret true) := by
  intro p G H σ cs r cs' Q k hf hQ
  cases hf
  exact ⟨_, pts_nil, hQ G H k (.refl _)⟩
theorem ets_one {c : Expr} {f : M Bool} (h : EvT X c f) : EvTs X [c] f := by
  intro p G H σ cs r cs' Q k hf hQ
  exact ⟨_, pts_one pt_any, h p G H σ cs r cs' Q k hf hQ⟩
end

/-! ### [elt for tg in iter if ..] -/
/-- one turn: the state behind it, and the item, if one is made -/
def lcT (own : List Nat) (h : D → Cs → Option Cs) (t : M Bool) (f : M D) (x : D) : Cs → Option (Option D × Cs) := fun cs => match h x (wipeC cs own) with
  | none => none
  | some cs1 => match t cs1 with
    | none => none
    | some (false, cs2) => some (none, reC cs own cs2)
    | some (true, cs2) => match f cs2 with
      | none => none
      | some (y, cs3) => some (some y, reC cs own cs3)
def lcL (own : List Nat) (h : D → Cs → Option Cs) (t : M Bool) (f : M D) : List D → List D → Cs → Option (List D × Cs)
  | [], acc, cs => some (acc, cs)
  | x :: xs, acc, cs => if noOw cs own then
    (match lcT own h t f x cs with
    | none => none
    | some (none, cs') => lcL own h t f xs acc cs'
    | some (some y, cs') => if acc.length < sizeLine then lcL own h t f xs (acc ++ [y]) cs' else none) else none
def lcF (fi : M (List D)) (own : List Nat) (h : D → Cs → Option Cs) (t : M Bool) (f : M D) : M Res := fun cs => match fi cs with
  | none => none
  | some (xs, cs1) => match lcL own h t f xs [] cs1 with
    | none => none
    | some (ys, cs2) => some (.o (.l ys), cs2)
/-- the tools of a block, at every heap at which it may be entered -/
def BlkX (X : Cx) (scope : Scope) (P : Cx → Prop) : Prop := ∀ (s : Shared) (H : Hp) (C : Addr) (cl : List (Str × Addr)) (fp : List Addr), P (X.blk s H scope (compEnvC scope cl C X.env) fp)
def gAll (X : Cx) (scope : Scope) (tg : Expr) : TG := fun v σ H Q => ∃ t, (∀ (s : Shared) (H : Hp) (C : Addr) (cl : List (Str × Addr)) (fp : List Addr), PG (X.blk s H scope (compEnvC scope cl C X.env) fp) tg t) ∧ t v σ H Q
section
variable {X : Cx} {scope : Scope}
/-- the readings that serve in every block -/
def bG (X : Cx) (scope : Scope) (tg : Expr) : TG := fun v σ H Q => ∀ (s : Shared) (H' : Hp) (C : Addr) (cl : List (Str × Addr)) (fp : List Addr), tAnyG (X.blk s H' scope (compEnvC scope cl C X.env) fp) tg v σ H Q
theorem bG_ok {tg : Expr} (s : Shared) (H : Hp) (C : Addr) (cl : List (Str × Addr)) (fp : List Addr) : PG (X.blk s H scope (compEnvC scope cl C X.env) fp) tg (bG X scope tg) :=
  ⟨fun pins s' σ H' v u Q I r h => pg_any.run pins s' σ H' v u Q I r (h s H C cl fp)⟩
def bT (X : Cx) (scope : Scope) (ifs : List Expr) : TT := fun σ H Q => ∀ (s : Shared) (H' : Hp) (C : Addr) (cl : List (Str × Addr)) (fp : List Addr), tAnyTs (X.blk s H' scope (compEnvC scope cl C X.env) fp) ifs σ H Q
theorem bT_ok {ifs : List Expr} (s : Shared) (H : Hp) (C : Addr) (cl : List (Str × Addr)) (fp : List Addr) : PTs (X.blk s H scope (compEnvC scope cl C X.env) fp) ifs (bT X scope ifs) :=
  ⟨fun pins s' σ H' Q I h => pts_any.run pins s' σ H' Q I (h s H C cl fp)⟩
def bE (X : Cx) (scope : Scope) (e : Expr) : TE := fun σ H Q => ∀ (s : Shared) (H' : Hp) (C : Addr) (cl : List (Str × Addr)) (fp : List Addr), tAny (X.blk s H' scope (compEnvC scope cl C X.env) fp) e σ H Q
theorem bE_ok {e : Expr} (s : Shared) (H : Hp) (C : Addr) (cl : List (Str × Addr)) (fp : List Addr) : PE (X.blk s H scope (compEnvC scope cl C X.env) fp) e (bE X scope e) :=
  ⟨fun pins s' σ H' Q I h => pe_any.run pins s' σ H' Q I (h s H C cl fp)⟩
def bI (X : Cx) (scope : Scope) (tg e : Expr) : TI := fun σ H R => ∀ (s : Shared) (H' : Hp) (C : Addr) (cl : List (Str × Addr)) (fp : List Addr), tAnyI (X.blk s H' scope (compEnvC scope cl C X.env) fp) tg e σ H R
theorem bI_ok {tg e : Expr} (s : Shared) (H : Hp) (C : Addr) (cl : List (Str × Addr)) (fp : List Addr) : PI (X.blk s H scope (compEnvC scope cl C X.env) fp) tg e (bI X scope tg e) :=
  ⟨fun pins s' σ H' R I h => pi_any.run pins s' σ H' R I (h s H C cl fp)⟩
variable {tg iter elt : Expr} {ifs : List Expr} {own : List Nat} {h : D → Cs → Option Cs} {t : M Bool} {f : M Res} {fi : M (List D)}
/-- one turn -/
theorem lcT_run (hg : BlkX X scope fun Y => EvGc Y own tg h) (ht : BlkX X scope fun Y => EvTs Y ifs t) (he : BlkX X scope fun Y => EvE Y elt f) {p : Pt} {G H : Hp} {σ : L2.St} {cs cs' : Cs} {x : D} {v : V} {z : Option D} (k : Ok X.K p G H σ cs) (r : Rep X.K G x v) (no : noOw cs own = true)
    (hf : lcT own h t (asD f) x cs = some (z, cs')) {A : Addr} {o : HO} (hA : H A = some o) (gA : G A = none) (a0 : p.H0 A = none) (fA : Free σ cs A) {R : V → Hp → Prop} {R0 : Hp → Prop}
    (hz : ∀ G' H', Ok X.K p G' H' σ cs' → Le G G' → H' A = some o → G' A = none → Free σ cs' A → match z with
      | some y => ∀ w, Rep X.K G' y w → R w H'
      | none => R0 H') :
    bG X scope tg v (wipe σ own) H fun σ2 H2 => wipe σ2 own = wipe σ own ∧ bT X scope ifs σ2 H2 fun b H3 => if b = true then bE X scope elt σ2 H3 fun y H4 => R y H4 else R0 H3 := by
  intro s0 H0 C0 cl0 fp0
  have k1 := k.enter own
  unfold lcT at hf
  split at hf
  · cases hf
  · rename_i cs1 e1
    refine hg s0 H0 C0 cl0 fp0 _ G H _ _ cs1 x v _ k1 r e1 fun σ2 k2 w2 => ?_
    have ww : wipe σ2 own = wipe σ own := by
      rw [w2]
      have : ∀ (vs ws : List Nat), (∀ i ∈ vs, i ∈ ws) → wipe (wipe σ ws) vs = wipe σ ws := by
        intro vs ws hv
        induction vs with
        | nil => rfl
        | cons w vs ih =>
          show (wipe (wipe σ ws) vs).set w none = wipe σ ws
          rw [ih fun i hi => hv i (by simp [hi])]
          have hw := hv w (by simp)
          have : ∀ ws : List Nat, w ∈ ws → (wipe σ ws)[w]? = none ∨ (wipe σ ws)[w]? = some none := by
            intro ws
            induction ws with
            | nil => intro h; simp at h
            | cons y ws ih2 =>
              intro h
              show ((wipe σ ws).set y none)[w]? = none ∨ _
              by_cases e : y = w
              · subst e
                rw [List.getElem?_set]
                by_cases q : y < (wipe σ ws).length
                · right; simp [wipe, q]
                · left; simp [q]
              · have hw2 : w ∈ ws := by
                  rcases List.mem_cons.mp h with h | h
                  · exact absurd h.symm e
                  · exact h
                rw [List.getElem?_set_ne e]
                rcases ih2 hw2 with h | h
                · exact .inl h
                · right
                  show ((wipe σ ws).set y none)[w]? = some none
                  rw [List.getElem?_set_ne e]; exact h
          rcases this ws hw with h | h
          · apply List.ext_getElem?
            intro j
            by_cases e : w = j
            · subst e
              rw [List.getElem?_set, h]
              have : ¬ w < (wipe σ ws).length := by
                intro q
                rw [List.getElem?_eq_getElem q] at h; cases h
              simp [this]
            · rw [List.getElem?_set_ne e]
          · exact set_at h
      exact this own own fun i hi => hi
    refine ⟨ww, ?_⟩
    intro s1 H1' C1 cl1 fp1
    split at hf
    · cases hf
    · rename_i cs2 e2
      cases hf
      refine ht s1 H1' C1 cl1 fp1 _ G H σ2 cs1 _ _ _ k2 e2 fun G3 H3 k3 l3 => ?_
      rw [if_neg (by simp)]
      obtain ⟨q1, q2⟩ := k.stays k3 hA gA a0 fA
      exact hz G3 H3 (k.leave no k3 l3 ww) l3 q1 q2 (Free.leave k no k3 ww hA a0 fA)
    · rename_i cs2 e2
      split at hf
      · cases hf
      · rename_i y cs3 e3
        cases hf
        refine ht s1 H1' C1 cl1 fp1 _ G H σ2 cs1 _ _ _ k2 e2 fun G3 H3 k3 l3 => ?_
        rw [if_pos rfl]
        intro s2 H2' C2 cl2 fp2
        refine (he s2 H2' C2 cl2 fp2).d _ G3 H3 σ2 cs2 _ _ _ k3 e3 fun w G4 H4 k4 l4 r4 => ?_
        obtain ⟨q1, q2⟩ := k.stays k4 hA gA a0 fA
        exact hz G4 H4 (k.leave no k4 (l3.trans l4) ww) (l3.trans l4) q1 q2 (Free.leave k no k4 ww hA a0 fA) w r4
theorem lc_run (hi : EvI X tg iter fi) (hg : BlkX X scope fun Y => EvGc Y own tg h) (ht : BlkX X scope fun Y => EvTs Y ifs t) (he : BlkX X scope fun Y => EvE Y elt f) {p : Pt} {G H : Hp} {σ : L2.St} {cs cs' : Cs} {z : Res} {Q : VK} (k : Ok X.K p G H σ cs)
    (hf : lcF fi own h t (asD f) cs = some (z, cs')) (hQ : ∀ v G' H', Ok X.K p G' H' σ cs' → Le G G' → ResOk X.K p G' H' σ cs' v z → Q v H') :
    tLc (tAnyI X tg iter) (bG X scope tg) (bT X scope ifs) (bE X scope elt) own σ H Q := by
  unfold lcF at hf
  split at hf
  · cases hf
  · rename_i xs cs1 e1
    split at hf
    · cases hf
    · rename_i ys cs2 e2
      cases hf
      refine hi p G H σ cs xs cs1 _ k e1 fun J G1 H1 k1 l1 fd A hA => ?_
      have k2 : Ok X.K p G1 (upd H1 A (.lst [])) σ cs1 := k1.new hA
      have a0 := k1.dom A hA
      refine ⟨fun i m H2 => ∃ G2 cs3 acc ds, Ok X.K p G2 H2 σ cs3 ∧ Le G1 G2 ∧ H2 A = some (.lst acc) ∧ Reps X.K G2 ds acc ∧ G2 A = none ∧ Free σ cs3 A ∧ lcL own h t (asD f) (xs.drop i) ds cs3 = some (ys, cs') ∧ i + m = xs.length,
        ⟨xs.length, G1, cs1, [], [], k2, .refl _, upd_same, .nil, k1.sub A hA, k1.free_new hA, e2, by omega⟩, ?_⟩
      rintro i m H2 ⟨G2, cs3, acc, ds, k3, l3, h3, r3, g3, f3, hl, em⟩
      obtain ⟨f1, f2⟩ := fd i G2 H2 l3 k3.le
      by_cases hi : i < xs.length
      · right
        have ex : xs[i]? = some xs[i] := List.getElem?_eq_getElem hi
        obtain ⟨go, yl⟩ := f2 _ ex
        refine ⟨go, fun H' => ∃ G' cs4 acc' ds', Ok X.K p G' H' σ cs4 ∧ Le G1 G' ∧ H' A = some (.lst acc') ∧ Reps X.K G' ds' acc' ∧ G' A = none ∧ Free σ cs4 A ∧ lcL own h t (asD f) (xs.drop (i + 1)) ds' cs4 = some (ys, cs'),
          fun H' ⟨G', cs4, acc', ds', q1, q2, q3, q4, q5, q6, q7⟩ => ⟨m - 1, by omega, G', cs4, acc', ds', q1, q2, q3, q4, q5, q6, q7, by omega⟩, fun v H' hy => ?_⟩
        rw [List.drop_eq_getElem_cons hi] at hl
        unfold lcL at hl
        split at hl
        · rename_i no
          -- the item's own tuple may be new
          have step : ∃ G4, Ok X.K p G4 H' σ cs3 ∧ Le G2 G4 ∧ Rep X.K G4 xs[i] v ∧ H' A = some (.lst acc) ∧ G4 A = none := by
            rcases yl v H' hy with ⟨rfl, r⟩ | ⟨T, vs, es, e, rfl, hT, rfl, r⟩
            · exact ⟨G2, k3, .refl _, r, h3, g3⟩
            · have ne : A ≠ T := fun q => by subst q; rw [h3] at hT; cases hT
              refine ⟨_, (k3.resTup hT r).1, (k3.resTup hT r).2.1, ?_, by rw [upd_ne ne]; exact h3, by rw [upd_ne ne]; exact g3⟩
              rw [e]
              exact (k3.resTup hT r).2.2
          obtain ⟨G4, k4, l4, r4, h4, g4⟩ := step
          split at hl
          · cases hl
          · rename_i cs4 e4
            refine lcT_run hg ht he k4 r4 no e4 h4 g4 a0 f3 (R := fun y H4 => ∃ acc, H4 A = some (.lst acc) ∧ acc.length < sizeLine ∧ _) ?_
            intro G' H'' k' l' q1 q2 q3
            exact ⟨G', cs4, acc, ds, k', (l3.trans l4).trans l', q1, r3.le (l4.trans l'), q2, q3, hl⟩
          · rename_i y cs4 e4
            split at hl
            · rename_i hsz
              refine lcT_run hg ht he k4 r4 no e4 h4 g4 a0 f3 (R := fun y H4 => ∃ acc, H4 A = some (.lst acc) ∧ acc.length < sizeLine ∧ _) ?_
              intro G' H'' k' l' q1 q2 q3 w rw'
              refine ⟨acc, q1, by rw [r3.len]; exact hsz, ?_⟩
              exact ⟨G', cs4, acc ++ [w], ds ++ [y], k'.poke q1 q2 a0 q3, (l3.trans l4).trans l', upd_same, (r3.le (l4.trans l')).app (.one rw'), q2, q3, hl⟩
            · cases hl
        · cases hl
      · left
        have ei : i = xs.length := by omega
        refine ⟨f1 ei, ?_⟩
        rw [List.drop_eq_nil_of_le (by omega)] at hl
        cases hl
        exact hQ _ G2 H2 k3 (l1.trans l3) ⟨A, _, rfl, h3, ⟨acc, rfl, r3⟩, g3, a0, f3⟩
variable {pos spos : Pos} {ow : List (Str × Nat)}
theorem ev_lc (hc : X.calm = true) (hN : X.N.Nodup) (hi : EvI X tg iter fi) (ok : BlkOk X.N X.env.scope scope ow) (eo : ow.map (·.2) = own) (hg : BlkX X scope fun Y => EvGc Y own tg h) (ht : BlkX X scope fun Y => EvTs Y ifs t) (he : BlkX X scope fun Y => EvE Y elt f)
    (hs : ∀ x, foldedSetIterable iter X.env x = pure x := by intro _; rfl) : EvE X (.ListComp elt [⟨tg, iter, ifs, 0⟩] scope pos) (lcF fi own h t (asD f)) := by
  intro p G H σ cs z cs' Q k hf hQ
  subst eo
  exact ⟨_, pe_lc hc hN pi_any ok bG_ok bT_ok bE_ok hs, lc_run hi hg ht he k hf hQ⟩
/-- y = [..] -/
theorem es_lc {i : Nat} {y : Str} {py : Pos} (fz : Bool) (hc : X.calm = true) (hN : X.N.Nodup) (hy : X.N[i]? = some y) (hyl : X.env.scope.names.lookup y = some .local) (hsw : swapsWith (.ListComp elt [⟨tg, iter, ifs, 0⟩] scope pos) (some (.Name y py)) spos.line X.env = pure true)
    (hi : EvI X tg iter fi) (ok : BlkOk X.N X.env.scope scope ow) (eo : ow.map (·.2) = own) (hg : BlkX X scope fun Y => EvGc Y own tg h) (ht : BlkX X scope fun Y => EvTs Y ifs t) (he : BlkX X scope fun Y => EvE Y elt f)
    (hs : ∀ x, foldedSetIterable iter X.env x = pure x := by intro _; rfl) : EvS X (.Assign [.Name y py] (.ListComp elt [⟨tg, iter, ifs, 0⟩] scope pos) spos) (if fz then sF i (lcF fi own h t (asD f)) else sR i (lcF fi own h t (asD f))) := by
  intro p G H σ cs o E k hg' q
  subst eo
  refine ⟨_, ps_setLc hc hN hy hyl hsw pi_any ok bG_ok bT_ok bE_ok hs, ?_⟩
  have key : ∀ r cs', lcF fi (ow.map (·.2)) h t (asD f) cs = some (r, cs') → ∃ ys, r = .o (.l ys) := by
    intro r cs' hf
    unfold lcF at hf
    split at hf
    · cases hf
    · split at hf
      · cases hf
      · cases hf; exact ⟨_, rfl⟩
  cases fz with
  | false =>
    rw [if_neg (by simp)] at hg'
    unfold sR at hg'
    split at hg'
    · rename_i x cs' e1
      obtain ⟨ys, e⟩ := key _ _ e1
      cases e
    · rename_i c cs' e1
      cases hg'
      refine lc_run hi hg ht he k e1 fun v G' H' k' l' r' => ?_
      obtain ⟨a, ho, rfl, h1, h2, h3, h4, h5⟩ := r'
      exact q G' H' _ (k'.setO i h1 h2 h3 h4 h5) l'
    · cases hg'
  | true =>
    rw [if_pos rfl] at hg'
    unfold sF sR at hg'
    split at hg'
    · rename_i x cs' e1
      cases hg'
      obtain ⟨x', cs1, g1, g2⟩ := bnd_inv e1
      cases g2
      obtain ⟨r1, cs2, g3, g4⟩ := bnd_inv g1
      obtain ⟨r2, cs3, g5, g6⟩ := bnd_inv g3
      cases g6
      obtain ⟨ys, e⟩ := key _ _ g5
      subst e
      cases g4
      refine lc_run hi hg ht he k g5 fun v G' H' k' l' r' => ?_
      obtain ⟨a, ho, rfl, h1, h2, h3, h4, h5⟩ := r'
      obtain ⟨us, rfl, r6⟩ := h2
      have k2 := k'.fz (ho' := .lst us) h1 h3 h4 h5
      have e : upd H' a (.lst us) = H' := by
        funext b
        by_cases z : b = a
        · subst z; rw [upd_same, h1]
        · rw [upd_ne z]
      rw [e] at k2
      refine q _ H' _ (k2.setD i ?_) (l'.trans (.new h3))
      simp only [O.fz, Rep]
      exact ⟨a, us, rfl, upd_same, r6.le (.new h3)⟩
    · rename_i c cs' e1
      obtain ⟨x', cs1, g1, g2⟩ := bnd_inv e1
      cases g2
    · cases hg'
end
end DS

set_option Elab.async false
set_option linter.all false
set_option maxRecDepth 100000
set_option maxHeartbeats 2000000
set_option autoImplicit false
namespace DS
open PySem PySem.Spec L2

/-! ### two clauses -/
section
variable {K : PySem.W.Frag} {p : Pt} {G H G' H' : Hp} {σ σ' : L2.St} {cs cs' : Cs}
theorem Ok.wiped (k : Ok K p G H σ cs) (vs : List Nat) : Ok K p G H (wipe σ vs) (wipeC cs vs) := by
  refine ⟨by rw [wipe_length, wipeC_len]; exact k.len, fun i c v e1 e2 => ?_, fun i j io io' c c' a e1 e2 e3 e4 => ?_, k.le, k.sub, k.fr, k.dom, k.g0, k.gn, k.ios⟩
  · rcases wipeC_get e1 with rfl | ⟨ni, e1⟩
    · trivial
    · rw [wipe_out ni] at e2
      exact k.cells i c v e1 e2
  · rcases wipeC_get e1 with h | ⟨n1, e1⟩
    · cases h
    rcases wipeC_get e2 with h | ⟨n2, e2⟩
    · cases h
    rw [wipe_out n1] at e3
    rw [wipe_out n2] at e4
    exact k.sep i j io io' c c' a e1 e2 e3 e4
theorem Ok.swap (k : Ok K p G H σ cs) {vs : List Nat} (no : noOw cs vs = true) (k' : Ok K p G' H' σ' cs') (l : Le G G') (hw : wipe σ' vs = wipe σ vs) : Ok K p G' H' σ (reC cs vs cs') := by
  have hl : cs.length = cs'.length := by
    rw [← k.len, ← k'.len, ← wipe_length σ vs, ← wipe_length σ' vs, hw]
  have same : ∀ {i : Nat}, i ∉ vs → σ'[i]? = σ[i]? := fun {i} ni => by
    rw [← wipe_out (σ := σ') ni, hw, wipe_out ni]
  refine ⟨by rw [reC_len, ← hl]; exact k.len, fun i c v e1 e2 => ?_, fun i j io io' c c' a e1 e2 e3 e4 => ?_, k'.le, k'.sub, k'.fr, k'.dom, k'.g0, k'.gn, k.ios⟩
  · rcases reC_get hl e1 with ⟨hi, e1⟩ | ⟨hi, e1⟩
    · have := k.cells i c v e1 e2
      cases c with
      | un => trivial
      | d x =>
        obtain ⟨u, e, r⟩ := this
        exact ⟨u, e, r.le l⟩
      | o io c => exact absurd e1 (noOw_get no hi io c)
    · rw [← same hi] at e2
      exact k'.cells i c v e1 e2
  · rcases reC_get hl e1 with ⟨hi, e1⟩ | ⟨hi, e1⟩
    · exact absurd e1 (noOw_get no hi io c)
    rcases reC_get hl e2 with ⟨hj, e2⟩ | ⟨hj, e2⟩
    · exact absurd e2 (noOw_get no hj io' c')
    rw [← same hi] at e3
    rw [← same hj] at e4
    exact k'.sep i j io io' c c' a e1 e2 e3 e4
/-- the block is left, its names stay -/
theorem Ok.kept (k : Ok K p G H σ cs) (k' : Ok K (blkP p G H σ cs) G' H' σ' cs') (l : Le G G') : Ok K p G' H' σ' cs' := by
  refine ⟨k'.len, fun i c v e1 e2 => ?_, k'.sep, k'.le, k'.sub, fun a o e ni => ?_, fun a e => ?_, k.g0.trans l, fun a e => ?_, k.ios⟩
  · have := k'.cells i c v e1 e2
    cases c with
    | un => trivial
    | d x => exact this
    | o io c =>
      obtain ⟨a, ho, rfl, h1, h2, h3, h4, h5⟩ := this
      refine ⟨a, ho, rfl, h1, h2, h3, h4, fun e => ?_⟩
      rcases blkP_none k (h5 e) with h | h
      · exact k.dom a h
      · exact h
  · have h1 := k.fr a o e ni
    refine k'.fr a o ?_ ni
    cases h : (blkP p G H σ cs).H0 a with
    | none =>
      rcases blkP_none k h with h | h
      · rw [h1] at h; cases h
      · rw [h] at e; cases e
    | some o' =>
      rw [blkP_some h] at h1
      exact h1
  · have h1 := k'.dom a e
    rcases blkP_none k h1 with h | h
    · exact k.dom a h
    · exact h
  · rcases k'.gn a e with h | h
    · exact k.gn a h
    · rcases blkP_none k h with h | h
      · exact .inr (k.dom a h)
      · exact .inr h
theorem Free.kept (k : Ok K p G H σ cs) (k' : Ok K (blkP p G H σ cs) G' H' σ' cs') {a : Addr} {o : HO} (h : H a = some o) (h0 : p.H0 a = none) (f : Free σ cs a) : Free σ' cs' a := by
  intro i io c e1 e2
  obtain ⟨a', ho, e4, _, _, _, h4, h5⟩ := k'.cells i _ _ e1 e2
  cases e4
  cases io with
  | true => exact k.ios i _ (h4 rfl) h0
  | false =>
    have := h5 rfl
    rw [blkP_keep k h f] at this
    cases this
theorem Free.swap (k : Ok K p G H σ cs) {vs : List Nat} (no : noOw cs vs = true) (k' : Ok K p G' H' σ' cs') (hw : wipe σ' vs = wipe σ vs) {a : Addr} (f : Free σ' cs' a) : Free σ (reC cs vs cs') a := by
  have hl : cs.length = cs'.length := by
    rw [← k.len, ← k'.len, ← wipe_length σ vs, ← wipe_length σ' vs, hw]
  intro i io c e1 e2
  rcases reC_get hl e1 with ⟨hi, e1⟩ | ⟨hi, e1⟩
  · exact noOw_get no hi io c e1
  · have e3 : σ'[i]? = some (some (V.ref a)) := by
      rw [← wipe_out (σ := σ') hi, hw, wipe_out hi]; exact e2
    exact f i io c e1 e3
theorem Free.wiped {a : Addr} (f : Free σ cs a) (vs : List Nat) : Free (wipe σ vs) (wipeC cs vs) a := by
  intro i io c e1 e2
  rcases wipeC_get e1 with h | ⟨ni, e1⟩
  · cases h
  · rw [wipe_out ni] at e2
    exact f i io c e1 e2
theorem Ok.enter0 (k : Ok K p G H σ cs) : Ok K (blkP p G H σ cs) G H σ cs := k.enter []
theorem Ok.leave0 (k : Ok K p G H σ cs) (k' : Ok K (blkP p G H σ cs) G' H' σ cs') (l : Le G G') : Ok K p G' H' σ cs' := k.leave (vs := []) rfl k' l rfl
theorem Free.leave0 (k : Ok K p G H σ cs) (k' : Ok K (blkP p G H σ cs) G' H' σ cs') {a : Addr} {o : HO} (h : H a = some o) (h0 : p.H0 a = none) (f : Free σ cs a) : Free σ cs' a := Free.leave (vs := []) k rfl k' rfl h h0 f
theorem wipe_idem (σ : L2.St) (own : List Nat) : wipe (wipe σ own) own = wipe σ own := by
  have : ∀ (vs ws : List Nat), (∀ i ∈ vs, i ∈ ws) → wipe (wipe σ ws) vs = wipe σ ws := by
    intro vs ws hv
    induction vs with
    | nil => rfl
    | cons w vs ih =>
      show (wipe (wipe σ ws) vs).set w none = wipe σ ws
      rw [ih fun i hi => hv i (by simp [hi])]
      have hw := hv w (by simp)
      have : ∀ ws : List Nat, w ∈ ws → (wipe σ ws)[w]? = none ∨ (wipe σ ws)[w]? = some none := by
        intro ws
        induction ws with
        | nil => intro h; simp at h
        | cons y ws ih2 =>
          intro h
          show ((wipe σ ws).set y none)[w]? = none ∨ _
          by_cases e : y = w
          · subst e
            rw [List.getElem?_set]
            by_cases q : y < (wipe σ ws).length
            · right; simp [wipe, q]
            · left; simp [q]
          · have hw2 : w ∈ ws := by
              rcases List.mem_cons.mp h with h | h
              · exact absurd h.symm e
              · exact h
            rw [List.getElem?_set_ne e]
            rcases ih2 hw2 with h | h
            · exact .inl h
            · right
              show ((wipe σ ws).set y none)[w]? = some none
              rw [List.getElem?_set_ne e]; exact h
      rcases this ws hw with h | h
      · apply List.ext_getElem?
        intro j
        by_cases e : w = j
        · subst e
          rw [List.getElem?_set, h]
          have : ¬ w < (wipe σ ws).length := by
            intro q
            rw [List.getElem?_eq_getElem q] at h; cases h
          simp [this]
        · rw [List.getElem?_set_ne e]
      · exact set_at h
  exact this own own fun i hi => hi
end
def lc2T (own : List Nat) (h : D → Cs → Option Cs) (t : M Bool) (fi1 : M (List D)) (vs1 : List Nat) (h1 : D → Cs → Option Cs) (t1 : M Bool) (f : M D) (x : D) (acc : List D) : Cs → Option (List D × Cs) := fun cs => match h x (wipeC cs own) with
  | none => none
  | some cs1 => match t cs1 with
    | none => none
    | some (false, cs2) => some (acc, reC cs own cs2)
    | some (true, cs2) => match fi1 cs2 with
      | none => none
      | some (ys, cs3) => match lcL vs1 h1 t1 f ys acc cs3 with
        | none => none
        | some (acc', cs4) => some (acc', reC cs own cs4)
def lc2L (own : List Nat) (h : D → Cs → Option Cs) (t : M Bool) (fi1 : M (List D)) (vs1 : List Nat) (h1 : D → Cs → Option Cs) (t1 : M Bool) (f : M D) : List D → List D → Cs → Option (List D × Cs)
  | [], acc, cs => some (acc, cs)
  | x :: xs, acc, cs => if noOw cs own then
    (match lc2T own h t fi1 vs1 h1 t1 f x acc cs with
    | none => none
    | some (acc', cs') => lc2L own h t fi1 vs1 h1 t1 f xs acc' cs') else none
def lc2F (fi : M (List D)) (own : List Nat) (h : D → Cs → Option Cs) (t : M Bool) (fi1 : M (List D)) (vs1 : List Nat) (h1 : D → Cs → Option Cs) (t1 : M Bool) (f : M D) : M Res := fun cs => match fi cs with
  | none => none
  | some (xs, cs1) => match lc2L own h t fi1 vs1 h1 t1 f xs [] cs1 with
    | none => none
    | some (ys, cs2) => some (.o (.l ys), cs2)
section
variable {X : Cx} {scope : Scope} {tg iter tg1 iter1 elt : Expr} {ifs ifs1 : List Expr} {own vs1 : List Nat} {h h1 : D → Cs → Option Cs} {t t1 : M Bool} {f : M Res} {fi fi1 : M (List D)}
theorem lc2_run (hi : EvI X tg iter fi) (hg : BlkX X scope fun Y => EvGc Y own tg h) (ht : BlkX X scope fun Y => EvTs Y ifs t) (hi1 : BlkX X scope fun Y => EvI Y tg1 iter1 fi1) (hg1 : BlkX X scope fun Y => EvGc Y vs1 tg1 h1) (ht1 : BlkX X scope fun Y => EvTs Y ifs1 t1)
    (he : BlkX X scope fun Y => EvE Y elt f) {p : Pt} {G H : Hp} {σ : L2.St} {cs cs' : Cs} {z : Res} {Q : VK} (k : Ok X.K p G H σ cs)
    (hf : lc2F fi own h t fi1 vs1 h1 t1 (asD f) cs = some (z, cs')) (hQ : ∀ v G' H', Ok X.K p G' H' σ cs' → Le G G' → ResOk X.K p G' H' σ cs' v z → Q v H') :
    tLc2 (tAnyI X tg iter) (bG X scope tg) (bT X scope ifs) (bI X scope tg1 iter1) (bG X scope tg1) (bT X scope ifs1) (bE X scope elt) own vs1 σ H Q := by
  unfold lc2F at hf
  split at hf
  · cases hf
  · rename_i xs cs1 e1
    split at hf
    · cases hf
    · rename_i ys cs2 e2
      cases hf
      refine hi p G H σ cs xs cs1 _ k e1 fun J G1 H1 k1 l1 fd A hA => ?_
      have k2 : Ok X.K p G1 (upd H1 A (.lst [])) σ cs1 := k1.new hA
      have a0 := k1.dom A hA
      refine ⟨fun i m H2 => ∃ G2 cs3 acc ds, Ok X.K p G2 H2 σ cs3 ∧ Le G1 G2 ∧ H2 A = some (.lst acc) ∧ Reps X.K G2 ds acc ∧ G2 A = none ∧ Free σ cs3 A ∧ lc2L own h t fi1 vs1 h1 t1 (asD f) (xs.drop i) ds cs3 = some (ys, cs') ∧ i + m = xs.length,
        ⟨xs.length, G1, cs1, [], [], k2, .refl _, upd_same, .nil, k1.sub A hA, k1.free_new hA, e2, by omega⟩, ?_⟩
      rintro i m H2 ⟨G2, cs3, acc, ds, k3, l3, h3, r3, g3, f3, hl, em⟩
      obtain ⟨f1, f2⟩ := fd i G2 H2 l3 k3.le
      by_cases hi : i < xs.length
      · right
        have ex : xs[i]? = some xs[i] := List.getElem?_eq_getElem hi
        obtain ⟨go, yl⟩ := f2 _ ex
        refine ⟨go, fun H' => ∃ G' cs4 acc' ds', Ok X.K p G' H' σ cs4 ∧ Le G1 G' ∧ H' A = some (.lst acc') ∧ Reps X.K G' ds' acc' ∧ G' A = none ∧ Free σ cs4 A ∧ lc2L own h t fi1 vs1 h1 t1 (asD f) (xs.drop (i + 1)) ds' cs4 = some (ys, cs'),
          fun H' ⟨G', cs4, acc', ds', q1, q2, q3, q4, q5, q6, q7⟩ => ⟨m - 1, by omega, G', cs4, acc', ds', q1, q2, q3, q4, q5, q6, q7, by omega⟩, fun v H' hy => ?_⟩
        rw [List.drop_eq_getElem_cons hi] at hl
        unfold lc2L at hl
        split at hl
        · rename_i no
          have step : ∃ G4, Ok X.K p G4 H' σ cs3 ∧ Le G2 G4 ∧ Rep X.K G4 xs[i] v ∧ H' A = some (.lst acc) ∧ G4 A = none := by
            rcases yl v H' hy with ⟨rfl, r⟩ | ⟨T, vs, es, e, rfl, hT, rfl, r⟩
            · exact ⟨G2, k3, .refl _, r, h3, g3⟩
            · have ne : A ≠ T := fun q => by subst q; rw [h3] at hT; cases hT
              refine ⟨_, (k3.resTup hT r).1, (k3.resTup hT r).2.1, ?_, by rw [upd_ne ne]; exact h3, by rw [upd_ne ne]; exact g3⟩
              rw [e]
              exact (k3.resTup hT r).2.2
          obtain ⟨G4, k4, l4, r4, h4, g4⟩ := step
          split at hl
          · cases hl
          · rename_i accN csN eT
            unfold lc2T at eT
            split at eT
            · cases eT
            · rename_i cs5 e5
              intro s0 H0 C0 cl0 fp0
              have kw := k4.wiped own
              have fw : Free (wipe σ own) (wipeC cs3 own) A := f3.wiped own
              have kb := kw.enter0
              refine (hg s0 H0 C0 cl0 fp0) _ G4 H' _ _ cs5 xs[i] v _ kb r4 e5 fun σ2 k5 w5 => ?_
              have ww : wipe σ2 own = wipe σ own := w5.trans (wipe_idem σ own)
              refine ⟨ww, ?_⟩
              intro s1 H1' C1 cl1 fp1
              split at eT
              · cases eT
              · rename_i cs6 e6
                cases eT
                refine ht s1 H1' C1 cl1 fp1 _ G4 H' σ2 cs5 _ _ _ k5 e6 fun G6 H6 k6 l6 => ?_
                rw [if_neg (by simp)]
                obtain ⟨q1, q2⟩ := kw.stays k6 h4 g4 a0 fw
                have k7 := kw.kept k6 l6
                have f7 := Free.kept kw k6 h4 a0 fw
                exact ⟨G6, _, acc, ds, k4.swap no k7 l6 ww, (l3.trans l4).trans l6, q1, r3.le (l4.trans l6), q2, Free.swap k4 no k7 ww f7, hl⟩
              · rename_i cs6 e6
                split at eT
                · cases eT
                · rename_i zs cs7 e7
                  split at eT
                  · cases eT
                  · rename_i acc2 cs8 e8
                    cases eT
                    refine ht s1 H1' C1 cl1 fp1 _ G4 H' σ2 cs5 _ _ _ k5 e6 fun G6 H6 k6 l6 => ?_
                    rw [if_pos rfl]
                    intro s2 H2' C2 cl2 fp2
                    refine hi1 s2 H2' C2 cl2 fp2 _ G6 H6 σ2 cs6 zs cs7 _ k6 e7 fun J1 G7 H7 k7 l7 fd1 => ?_
                    obtain ⟨q1, q2⟩ := kw.stays k7 h4 g4 a0 fw
                    have k8 := kw.kept k7 (l6.trans l7)
                    have f8 := Free.kept kw k7 h4 a0 fw
                    refine ⟨fun j n H9 => ∃ G9 cs9 acc9 ds9, Ok X.K p G9 H9 σ2 cs9 ∧ Le G7 G9 ∧ H9 A = some (.lst acc9) ∧ Reps X.K G9 ds9 acc9 ∧ G9 A = none ∧ Free σ2 cs9 A ∧ lcL vs1 h1 t1 (asD f) (zs.drop j) ds9 cs9 = some (accN, cs8) ∧ j + n = zs.length,
                      ⟨zs.length, G7, cs7, acc, ds, k8, .refl _, q1, r3.le (l4.trans (l6.trans l7)), q2, f8, e8, by omega⟩, ?_⟩
                    rintro j n H9 ⟨G9, cs9, acc9, ds9, k9, l9, h9, r9, g9, f9, hl9, en⟩
                    obtain ⟨d1, d2⟩ := fd1 j G9 H9 l9 k9.le
                    by_cases hj : j < zs.length
                    · right
                      have ez : zs[j]? = some zs[j] := List.getElem?_eq_getElem hj
                      obtain ⟨go1, yl1⟩ := d2 _ ez
                      refine ⟨go1, fun H' => ∃ G' cs4 acc' ds', Ok X.K p G' H' σ2 cs4 ∧ Le G7 G' ∧ H' A = some (.lst acc') ∧ Reps X.K G' ds' acc' ∧ G' A = none ∧ Free σ2 cs4 A ∧ lcL vs1 h1 t1 (asD f) (zs.drop (j + 1)) ds' cs4 = some (accN, cs8),
                        fun H' ⟨G', cs4, acc', ds', q1, q2, q3, q4, q5, q6, q7⟩ => ⟨n - 1, by omega, G', cs4, acc', ds', q1, q2, q3, q4, q5, q6, q7, by omega⟩, fun v1 H10 hy1 => ?_⟩
                      rw [List.drop_eq_getElem_cons hj] at hl9
                      unfold lcL at hl9
                      split at hl9
                      · rename_i no1
                        have step1 : ∃ G10, Ok X.K p G10 H10 σ2 cs9 ∧ Le G9 G10 ∧ Rep X.K G10 zs[j] v1 ∧ H10 A = some (.lst acc9) ∧ G10 A = none := by
                          rcases yl1 v1 H10 hy1 with ⟨rfl, r⟩ | ⟨T, vs, es, e, rfl, hT, rfl, r⟩
                          · exact ⟨G9, k9, .refl _, r, h9, g9⟩
                          · have ne : A ≠ T := fun q => by subst q; rw [h9] at hT; cases hT
                            refine ⟨_, (k9.resTup hT r).1, (k9.resTup hT r).2.1, ?_, by rw [upd_ne ne]; exact h9, by rw [upd_ne ne]; exact g9⟩
                            rw [e]
                            exact (k9.resTup hT r).2.2
                        obtain ⟨G10, k10, l10, r10, h10, g10⟩ := step1
                        split at hl9
                        · cases hl9
                        · rename_i cs10 e10
                          refine lcT_run hg1 ht1 he k10 r10 no1 e10 h10 g10 a0 f9 (R := fun y H4 => ∃ acc, H4 A = some (.lst acc) ∧ acc.length < sizeLine ∧ _) ?_
                          intro G' H'' k' l' q1 q2 q3
                          exact ⟨G', cs10, acc9, ds9, k', (l9.trans l10).trans l', q1, r9.le (l10.trans l'), q2, q3, hl9⟩
                        · rename_i y cs10 e10
                          split at hl9
                          · rename_i hsz
                            refine lcT_run hg1 ht1 he k10 r10 no1 e10 h10 g10 a0 f9 (R := fun y H4 => ∃ acc, H4 A = some (.lst acc) ∧ acc.length < sizeLine ∧ _) ?_
                            intro G' H'' k' l' q1 q2 q3 w rw'
                            refine ⟨acc9, q1, by rw [r9.len]; exact hsz, ?_⟩
                            exact ⟨G', cs10, acc9 ++ [w], ds9 ++ [y], k'.poke q1 q2 a0 q3, (l9.trans l10).trans l', upd_same, (r9.le (l10.trans l')).app (.one rw'), q2, q3, hl9⟩
                          · cases hl9
                      · cases hl9
                    · left
                      have ej : j = zs.length := by omega
                      refine ⟨d1 ej, ?_⟩
                      rw [List.drop_eq_nil_of_le (by omega)] at hl9
                      cases hl9
                      have ll := (l4.trans (l6.trans l7)).trans l9
                      exact ⟨G9, _, acc9, accN, k4.swap no k9 ((l6.trans l7).trans l9) ww, l3.trans ll, h9, r9, g9, Free.swap k4 no k9 ww f9, hl⟩
        · cases hl
      · left
        have ei : i = xs.length := by omega
        refine ⟨f1 ei, ?_⟩
        rw [List.drop_eq_nil_of_le (by omega)] at hl
        cases hl
        exact hQ _ G2 H2 k3 (l1.trans l3) ⟨A, _, rfl, h3, ⟨acc, rfl, r3⟩, g3, a0, f3⟩
variable {pos spos : Pos} {ow : List (Str × Nat)}
theorem ev_lc2 (hc : X.calm = true) (hN : X.N.Nodup) (hi : EvI X tg iter fi) (ok : BlkOk X.N X.env.scope scope ow) (eo : ow.map (·.2) = own) (hv : ∀ i ∈ vs1, i ∈ own) (hg : BlkX X scope fun Y => EvGc Y own tg h) (ht : BlkX X scope fun Y => EvTs Y ifs t)
    (hi1 : BlkX X scope fun Y => EvI Y tg1 iter1 fi1) (hg1 : BlkX X scope fun Y => EvGc Y vs1 tg1 h1) (ht1 : BlkX X scope fun Y => EvTs Y ifs1 t1) (he : BlkX X scope fun Y => EvE Y elt f)
    (hs : ∀ x, foldedSetIterable iter X.env x = pure x := by intro _; rfl) (hs1 : ∀ env x, foldedSetIterable iter1 env x = pure x := by intro _ _; rfl) : EvE X (.ListComp elt [⟨tg, iter, ifs, 0⟩, ⟨tg1, iter1, ifs1, 0⟩] scope pos) (lc2F fi own h t fi1 vs1 h1 t1 (asD f)) := by
  intro p G H σ cs z cs' Q k hf hQ
  subst eo
  exact ⟨_, pe_lc2 hc hN pi_any ok hv bG_ok bT_ok bI_ok bG_ok bT_ok bE_ok hs hs1, lc2_run hi hg ht hi1 hg1 ht1 he k hf hQ⟩
/-- y = [.. for .. for ..], frozen -/
theorem es_lc2F {i : Nat} {y : Str} {py : Pos} (hc : X.calm = true) (hN : X.N.Nodup) (hy : X.N[i]? = some y) (hyl : X.env.scope.names.lookup y = some .local) (hsw : swapsWith (.ListComp elt [⟨tg, iter, ifs, 0⟩, ⟨tg1, iter1, ifs1, 0⟩] scope pos) (some (.Name y py)) spos.line X.env = pure true)
    (hi : EvI X tg iter fi) (ok : BlkOk X.N X.env.scope scope ow) (eo : ow.map (·.2) = own) (hv : ∀ i ∈ vs1, i ∈ own) (hg : BlkX X scope fun Y => EvGc Y own tg h) (ht : BlkX X scope fun Y => EvTs Y ifs t)
    (hi1 : BlkX X scope fun Y => EvI Y tg1 iter1 fi1) (hg1 : BlkX X scope fun Y => EvGc Y vs1 tg1 h1) (ht1 : BlkX X scope fun Y => EvTs Y ifs1 t1) (he : BlkX X scope fun Y => EvE Y elt f)
    (hs : ∀ x, foldedSetIterable iter X.env x = pure x := by intro _; rfl) (hs1 : ∀ env x, foldedSetIterable iter1 env x = pure x := by intro _ _; rfl) :
    EvS X (.Assign [.Name y py] (.ListComp elt [⟨tg, iter, ifs, 0⟩, ⟨tg1, iter1, ifs1, 0⟩] scope pos) spos) (sF i (lc2F fi own h t fi1 vs1 h1 t1 (asD f))) := by
  intro p G H σ cs o E k hg' q
  subst eo
  refine ⟨_, ps_setLc2 hc hN hy hyl hsw pi_any ok hv bG_ok bT_ok bI_ok bG_ok bT_ok bE_ok hs hs1, ?_⟩
  have key : ∀ r cs', lc2F fi (ow.map (·.2)) h t fi1 vs1 h1 t1 (asD f) cs = some (r, cs') → ∃ ys, r = .o (.l ys) := by
    intro r cs' hf
    unfold lc2F at hf
    split at hf
    · cases hf
    · split at hf
      · cases hf
      · cases hf; exact ⟨_, rfl⟩
  unfold sF sR at hg'
  split at hg'
  · rename_i x cs' e1
    cases hg'
    obtain ⟨x', cs1, g1, g2⟩ := bnd_inv e1
    cases g2
    obtain ⟨r1, cs2, g3, g4⟩ := bnd_inv g1
    obtain ⟨r2, cs3, g5, g6⟩ := bnd_inv g3
    cases g6
    obtain ⟨ys, e⟩ := key _ _ g5
    subst e
    cases g4
    refine lc2_run hi hg ht hi1 hg1 ht1 he k g5 fun v G' H' k' l' r' => ?_
    obtain ⟨a, ho, rfl, h1, h2, h3, h4, h5⟩ := r'
    obtain ⟨us, rfl, r6⟩ := h2
    have k2 := k'.fz (ho' := .lst us) h1 h3 h4 h5
    have e : upd H' a (.lst us) = H' := by
      funext b
      by_cases z : b = a
      · subst z; rw [upd_same, h1]
      · rw [upd_ne z]
    rw [e] at k2
    refine q _ H' _ (k2.setD i ?_) (l'.trans (.new h3))
    simp only [O.fz, Rep]
    exact ⟨a, us, rfl, upd_same, r6.le (.new h3)⟩
  · rename_i c cs' e1
    obtain ⟨x', cs1, g1, g2⟩ := bnd_inv e1
    cases g2
  · cases hg'
end
end DS

set_option Elab.async false
set_option linter.all false
set_option maxRecDepth 100000
set_option maxHeartbeats 2000000
set_option autoImplicit false
namespace DS
open PySem PySem.Spec L2

/-! ### len -/
def oLen : List D → Option Res
  | [.tup xs] => some (.d (.int xs.length))
  | [.lst xs] => some (.d (.int xs.length))
  | [.str s] => if s.length ≤ sizeLine then some (.d (.int s.length)) else none
  | [.dk m] => some (.d (.int m.length))
  | [.scr ns] => some (.d (.int ns.length))
  | _ => none
section
variable {X : Cx}
def rLenAll (K : PySem.W.Frag) : List V → Hp → VK → Prop := fun xs H Q => (∃ x n, xs = [x] ∧ LenV K x H n ∧ Q (.int n) H) ∨ ∃ a kvs, xs = [V.ref a] ∧ Rd H a (.dK kvs) ∧ Q (.int (kvs.length : Nat)) H
theorem call_lenR : CallR X (.builtin "len") (fun xs H Q => ∃ a kvs, xs = [V.ref a] ∧ Rd H a (.dK kvs) ∧ Q (.int (kvs.length : Nat)) H) := by
  intro pins s σ H xs us Q I r h
  obtain ⟨a, kvs, rfl, hk, q⟩ := h
  obtain ⟨u, rfl, ru⟩ := vals1 r
  cases ru
  exact d_len I hk fun t s' I' => ⟨V.int (kvs.length : Nat), H, I', ⟨t, rfl⟩, q⟩
theorem cr_len : CallR X (.builtin "len") (rLenAll X.K) := call_len.or call_lenR
theorem len_ok : OpN X (rLenAll X.K) oLen := by
  intro p G H σ cs xs vs z Q k r h n
  unfold oLen at h
  split at h
  · cases h
    obtain ⟨v, rfl, rv⟩ := r.one_inv
    obtain ⟨a, us, rfl, h1, h2⟩ := rv.tup k.le
    exact .inl ⟨_, us.length, rfl, .inr ⟨us, h1, rfl⟩, by rw [h2.len]; exact n.int k⟩
  · cases h
    obtain ⟨v, rfl, rv⟩ := r.one_inv
    obtain ⟨a, us, rfl, h1, h2⟩ := rv.lst k.le
    exact .inl ⟨_, us.length, rfl, .inl ⟨us, SqL.of h1, rfl⟩, by rw [h2.len]; exact n.int k⟩
  · split at h
    · rename_i hl
      cases h
      obtain ⟨v, rfl, rv⟩ := r.one_inv
      exact .inl ⟨_, _, rfl, by rw [rv.str]; exact ⟨hl, rfl⟩, n.int k⟩
    · cases h
  · cases h
    obtain ⟨v, rfl, rv⟩ := r.one_inv
    obtain ⟨a, us, rfl, h1, h2⟩ := rv.dk k.le
    exact .inr ⟨a, us, rfl, h1, by rw [h2.len]; exact n.int k⟩
  · cases h
    obtain ⟨v, rfl, rv⟩ := r.one_inv
    obtain ⟨a, rfl, h1⟩ := rv.scr k.le
    exact .inl ⟨_, _, rfl, .inl ⟨_, h1, rfl⟩, by rw [List.length_map]; exact n.int k⟩
  · cases h

/-! ### int, max, min of two, tuple, list -/
def oInt : List D → Option Res
  | [.int i] => some (.d (.int i))
  | [.bl b] => some (.d (.int (if b then 1 else 0)))
  | _ => none
theorem int_ok : OpN X (fun xs H Q => (∃ i, xs = [.int i] ∧ Q (.int i) H) ∨ ∃ k, xs = [.bl k] ∧ Q (.int (if k then 1 else 0)) H) oInt := by
  intro p G H σ cs xs vs z Q k r h n
  unfold oInt at h
  split at h
  · cases h
    obtain ⟨v, rfl, rv⟩ := r.one_inv
    exact .inl ⟨_, by rw [rv.int], n.int k⟩
  · cases h
    obtain ⟨v, rfl, rv⟩ := r.one_inv
    exact .inr ⟨_, by rw [rv.bl], n.int k⟩
  · cases h
def oMax2 : List D → Option Res
  | [.int i, .int j] => some (.d (.int (if j > i then j else i)))
  | _ => none
def oMin2 : List D → Option Res
  | [.int i, .int j] => some (.d (.int (if j < i then j else i)))
  | _ => none
theorem max2_ok : OpN X (fun xs H Q => ∃ i j, xs = [.int i, .int j] ∧ Q (.int (if j > i then j else i)) H) oMax2 := by
  intro p G H σ cs xs vs z Q k r h n
  unfold oMax2 at h
  split at h
  · cases h
    obtain ⟨v, w, rfl, rv, rw'⟩ := r.two_inv
    exact ⟨_, _, by rw [rv.int, rw'.int], n.int k⟩
  · cases h
theorem min2_ok : OpN X (fun xs H Q => ∃ i j, xs = [.int i, .int j] ∧ Q (.int (if j < i then j else i)) H) oMin2 := by
  intro p G H σ cs xs vs z Q k r h n
  unfold oMin2 at h
  split at h
  · cases h
    obtain ⟨v, w, rfl, rv, rw'⟩ := r.two_inv
    exact ⟨_, _, by rw [rv.int, rw'.int], n.int k⟩
  · cases h
def oTuple : List D → Option Res
  | [.lst xs] => some (.d (.tup xs))
  | [.tup xs] => some (.d (.tup xs))
  | _ => none
theorem tuple_ok : OpN X (fun xs H Q => ∃ p ys, xs = [.ref p] ∧ ((SqL X.K H p ys ∧ ∀ l, H l = none → Q (.ref l) (upd H l (.tup ys))) ∨ (SqT X.K H p ys ∧ Q (.ref p) H))) oTuple := by
  intro p G H σ cs xs vs z Q k r h n
  unfold oTuple at h
  split at h
  · cases h
    obtain ⟨v, rfl, rv⟩ := r.one_inv
    obtain ⟨a, us, rfl, h1, h2⟩ := rv.lst k.le
    exact ⟨a, us, rfl, .inl ⟨SqL.of h1, fun l hl => n.tup k hl h2⟩⟩
  · cases h
    obtain ⟨v, rfl, rv⟩ := r.one_inv
    have rv0 := rv
    obtain ⟨a, us, rfl, h1, h2⟩ := rv.tup k.le
    refine ⟨a, us, rfl, .inr ⟨h1, ?_⟩⟩
    rcases rv0 with rv0 | ⟨c, _, _, e1, _⟩
    · exact n.rep k rv0
    · cases c <;> cases e1
  · cases h
/-- list(d), d locked or not -/
theorem call_list_dR (hc : X.calm = true) : CallR X (.type "list") (fun xs H Q => ∃ p kvs, xs = [.ref p] ∧ Rd H p (.dK kvs) ∧ ∀ q, H q = none → Q (.ref q) (upd H q (.lst (kvs.map fun kv => kV kv.1)))) := by
  intro pins s σ H xs us Q I r h
  obtain ⟨p, kvs, e, hk, q⟩ := h
  subst e
  obtain ⟨u, eu, rx⟩ := vals1 r
  subst eu
  obtain rfl : u = Value.ref p := rx
  obtain ⟨z, lo, vs, rk, hd⟩ := dk_rd I.hok hk
  obtain ⟨ep, hat⟩ := hd.dictAt
  have hl : kvs.length = vs.length := Paired.length rk
  refine PySem.W.kdl_call (PySem.W.kdl_dict (knd := mixKind X.prog X.w) (kvs := vs) (ep := ep) lo) (I.ok.hd hc) hat (by rw [← hl]; exact z) fun h' tk acc' c' hkeep hS hacc => ?_
  refine ⟨.ref s.heap.objs.size, upd H s.heap.objs.size (.lst (kvs.map fun kv => kV kv.1)), I.laid hkeep (Nat.le_refl _) (show ObjOk X.prog X.w _ _ _ (.lst (kvs.map fun kv => kV kv.1)) from ⟨?_, acc'.toList, c', ?_, ?_⟩), rfl, q _ (I.hok.fresh (Nat.le_refl _))⟩
  · rw [List.length_map]; exact z
  · have el : acc'.toList.length = acc'.size := by simp
    refine vals_of_at (by rw [List.length_map, el, hacc.1, hl]) fun j x w h1 h2 => ?_
    obtain ⟨k, y, hky, hi⟩ := hacc.2 j w (by rw [← Array.getElem?_toList]; exact h2)
    have e1 : (kvs.map (·.1))[j]? = some k := by
      rw [KV.keys rk, List.getElem?_map, hky] <;> rfl
    have e2 : (kvs.map fun kv => kV kv.1)[j]? = some (kV k) := by
      have e3 : (kvs.map fun kv => kV kv.1) = (kvs.map (·.1)).map kV := by rw [List.map_map] <;> rfl
      rw [e3, List.getElem?_map, e1] <;> rfl
    rw [e2] at h1
    cases h1
    exact keyIs_rel hi
  · simpa using hS
def oList : List D → Option Res
  | [.lst xs] => some (.o (.l xs))
  | [.tup xs] => some (.o (.l xs))
  | [.dk m] => some (.o (.l (m.map fun kv => keyD kv.1)))
  | _ => none
def rListAll (K : PySem.W.Frag) : List V → Hp → VK → Prop := fun xs H Q => (∃ p ys, xs = [.ref p] ∧ (SqL K H p ys ∨ SqT K H p ys) ∧ ∀ l, H l = none → Q (.ref l) (upd H l (.lst ys))) ∨ ∃ p kvs, xs = [.ref p] ∧ Rd H p (.dK kvs) ∧ ∀ q, H q = none → Q (.ref q) (upd H q (.lst (kvs.map fun kv => kV kv.1)))
theorem cr_list (hc : X.calm = true) : CallR X (.type "list") (rListAll X.K) := call_list_of.or (call_list_dR hc)
theorem list_ok : OpN X (rListAll X.K) oList := by
  intro p G H σ cs xs vs z Q k r h n
  unfold oList at h
  split at h
  · cases h
    obtain ⟨v, rfl, rv⟩ := r.one_inv
    obtain ⟨a, us, rfl, h1, h2⟩ := rv.lst k.le
    exact .inl ⟨a, us, rfl, .inl (SqL.of h1), fun l hl => n.new k hl ⟨us, rfl, h2⟩⟩
  · cases h
    obtain ⟨v, rfl, rv⟩ := r.one_inv
    obtain ⟨a, us, rfl, h1, h2⟩ := rv.tup k.le
    exact .inl ⟨a, us, rfl, .inr h1, fun l hl => n.new k hl ⟨us, rfl, h2⟩⟩
  · cases h
    obtain ⟨v, rfl, rv⟩ := r.one_inv
    obtain ⟨a, us, rfl, h1, h2⟩ := rv.dk k.le
    exact .inr ⟨a, us, rfl, h1, fun l hl => n.new k hl ⟨_, rfl, h2.keys⟩⟩
  · cases h

/-! ### any, all, sum -/
def blsD : List D → Option (List Bool)
  | [] => some []
  | .bl b :: xs => match blsD xs with
    | some bs => some (b :: bs)
    | none => none
  | _ => none
theorem blsD_ok {K : PySem.W.Frag} {G : Hp} : ∀ {ds : List D} {vs : List V} {bs : List Bool}, Reps K G ds vs → blsD ds = some bs → vs = bs.map V.bl
  | [], _, _, r, h => by cases h; exact r.nil_inv
  | .bl b :: xs, _, _, r, h => by
    simp only [blsD] at h
    split at h
    · rename_i bs e
      cases h
      obtain ⟨v, r', rfl, r1, r2⟩ := r.cons_inv
      simp only [Rep] at r1
      rw [r1, blsD_ok r2 e]
      rfl
    · cases h
  | .non :: _, _, _, _, h => by cases h
  | .int _ :: _, _, _, _, h => by cases h
  | .str _ :: _, _, _, _, h => by cases h
  | .tup _ :: _, _, _, _, h => by cases h
  | .lst _ :: _, _, _, _, h => by cases h
  | .dk _ :: _, _, _, _, h => by cases h
  | .dt _ :: _, _, _, _, h => by cases h
  | .obj _ :: _, _, _, _, h => by cases h
  | .scr _ :: _, _, _, _, h => by cases h
def intsD : List D → Option (List Int)
  | [] => some []
  | .int b :: xs => match intsD xs with
    | some bs => some (b :: bs)
    | none => none
  | _ => none
theorem intsD_ok {K : PySem.W.Frag} {G : Hp} : ∀ {ds : List D} {vs : List V} {bs : List Int}, Reps K G ds vs → intsD ds = some bs → vs = bs.map V.int
  | [], _, _, r, h => by cases h; exact r.nil_inv
  | .int b :: xs, _, _, r, h => by
    simp only [intsD] at h
    split at h
    · rename_i bs e
      cases h
      obtain ⟨v, r', rfl, r1, r2⟩ := r.cons_inv
      simp only [Rep] at r1
      rw [r1, intsD_ok r2 e]
      rfl
    · cases h
  | .non :: _, _, _, _, h => by cases h
  | .bl _ :: _, _, _, _, h => by cases h
  | .str _ :: _, _, _, _, h => by cases h
  | .tup _ :: _, _, _, _, h => by cases h
  | .lst _ :: _, _, _, _, h => by cases h
  | .dk _ :: _, _, _, _, h => by cases h
  | .dt _ :: _, _, _, _, h => by cases h
  | .obj _ :: _, _, _, _, h => by cases h
  | .scr _ :: _, _, _, _, h => by cases h
def oAny : List D → Option Res
  | [.lst xs] => match blsD xs with
    | some bs => some (.d (.bl (bs.any id)))
    | none => none
  | _ => none
def oAll : List D → Option Res
  | [.lst xs] => match blsD xs with
    | some bs => some (.d (.bl (bs.all id)))
    | none => none
  | _ => none
def oSum : List D → Option Res
  | [.lst xs] => match intsD xs with
    | some bs => some (.d (.int bs.sum))
    | none => none
  | _ => none
theorem any_ok : OpN X (rAny X.K) oAny := by
  intro p G H σ cs xs vs z Q k r h n
  unfold oAny at h
  split at h
  · split at h
    · rename_i e
      cases h
      obtain ⟨v, rfl, rv⟩ := r.one_inv
      obtain ⟨a, us, rfl, h1, h2⟩ := rv.lst k.le
      have := blsD_ok h2 e
      subst this
      exact ⟨a, _, rfl, SqL.of h1, n.bl k⟩
    · cases h
  · cases h
theorem all_ok : OpN X (rAll X.K) oAll := by
  intro p G H σ cs xs vs z Q k r h n
  unfold oAll at h
  split at h
  · split at h
    · rename_i e
      cases h
      obtain ⟨v, rfl, rv⟩ := r.one_inv
      obtain ⟨a, us, rfl, h1, h2⟩ := rv.lst k.le
      have := blsD_ok h2 e
      subst this
      exact ⟨a, _, rfl, SqL.of h1, n.bl k⟩
    · cases h
  · cases h
theorem sum_ok : OpN X (rSum X.K) oSum := by
  intro p G H σ cs xs vs z Q k r h n
  unfold oSum at h
  split at h
  · split at h
    · rename_i e
      cases h
      obtain ⟨v, rfl, rv⟩ := r.one_inv
      obtain ⟨a, us, rfl, h1, h2⟩ := rv.lst k.le
      have := intsD_ok h2 e
      subst this
      exact ⟨a, _, rfl, SqL.of h1, n.int k⟩
    · cases h
  · cases h

/-! ### isinstance -/
inductive Ty where
  | int | bool | str | tuple | list | dict
  deriving DecidableEq
def Ty.nm : Ty → String
  | .int => "int" | .bool => "bool" | .str => "str" | .tuple => "tuple" | .list => "list" | .dict => "dict"
def tyD : D → Option String
  | .non => some "NoneType"
  | .bl _ => some "bool"
  | .int _ => some "int"
  | .str _ => some "str"
  | .tup _ => some "tuple"
  | .lst _ => some "list"
  | .dk _ => some "dict"
  | _ => none
def isTy (x : D) (t : Ty) : Option Bool := match x, t with
  | .bl _, .int => some true
  | .bl _, .bool => some true
  | .int _, .int => some true
  | .str _, .str => some true
  | .tup _, .tuple => some true
  | .lst _, .list => some true
  | .dk _, .dict => some true
  | .dt _, _ => none
  | .obj _, _ => none
  | .scr _, _ => none
  | _, _ => some false
theorem kit_all : (["NoneType", "bool", "int", "str", "tuple", "list", "dict"].all fun a => [Ty.int, .bool, .str, .tuple, .list, .dict].all fun t => kitB a t.nm == some (a == t.nm || (a == "bool" && t.nm == "int"))) = true := by decide +kernel
theorem isTy_kit {x : D} {t : Ty} {b : Bool} (h : isTy x t = some b) : ∃ a, tyD x = some a ∧ kitB a t.nm = some b := by
  have key : ∀ a, a ∈ ["NoneType", "bool", "int", "str", "tuple", "list", "dict"] → kitB a t.nm = some (a == t.nm || (a == "bool" && t.nm == "int")) := by
    intro a ha
    have := List.all_eq_true.mp kit_all a ha
    have := List.all_eq_true.mp this t (by cases t <;> simp)
    simpa using this
  cases x <;> cases t <;> simp only [isTy] at h <;> cases h <;> refine ⟨_, rfl, ?_⟩ <;> rw [key _ (by simp)] <;> decide
theorem tyx_of {p : Pt} {G H : Hp} {σ : L2.St} {cs : Cs} {x : D} {v : V} {a : String} (k : Ok X.K p G H σ cs) (r : VRep X.K G H x v) (h : tyD x = some a) : TyX X.K H v (.type a) := by
  cases x <;> simp only [tyD] at h <;> cases h
  · rw [r.non]; exact .base .non
  · rw [r.bl]; exact .base (.bl _)
  · rw [r.int]; exact .base (.int _)
  · rw [r.str]; exact .base (.str _)
  · obtain ⟨a, vs, rfl, h1, h2⟩ := r.tup k.le
    rcases h1 with (h1 | ⟨o, h1⟩) | ⟨o, its, n, e1, e2, _⟩
    · exact .base (.tup h1)
    · exact .fTuple h1
    · exact .kTuple e1 e2
  · obtain ⟨a, vs, rfl, h1, h2⟩ := r.lst k.le
    exact .base (.lst h1)
  · obtain ⟨a, vs, rfl, h1, h2⟩ := r.dk k.le
    rcases h1 with h1 | ⟨o, h1⟩
    · exact .base (.dK h1)
    · exact .fDict h1
def isi (f : M Res) (t : Ty) : M Res := bnd (asR f) fun r => bnd (vw r) fun x => lft (match isTy x t with
  | some b => some (.d (.bl b))
  | none => none)
theorem ev_isi {e : Expr} {f : M Res} {p q pos : Pos} (t : Ty) {x : Str} (hx : x = Str.ofString t.nm) (he : EvE X e f) (hg : Gl X "isinstance") (hm : X.mg "isinstance" = none) (hg2 : Gl X x) (hm2 : X.mg x = none)
    (hv2 : bootBuiltins x = some (.type t.nm)) (hn2 : x ≠ "__name__") (hd2 : (x == ("__debug__" : Str)) = false) (h1 : starEach [e, .Name x q] X.env = (false, eval e X.env) :: starEach [.Name x q] X.env := by rfl) (h2 : starEach [.Name x q] X.env = (false, eval (.Name x q) X.env) :: starEach [] X.env := by rfl)
    (hpl : (backTo pos (starEach [.Name x q] X.env)).any (·.1) = false := by rfl) : EvE X (.Call (.Name "isinstance" p) [e, .Name x q] [] pos) (isi f t) := by
  intro P G H σ cs z cs' Q k hf hQ
  refine ⟨_, pe_callB call_isi hg hm (by decide +kernel) (pa_cons pe_any (pa_cons (pe_bltn (v := .ty t.nm) hg2 hm2 hv2 rfl hn2 hd2) pa_nil h2) h1) (by decide) (by decide) h1 hpl, ?_⟩
  obtain ⟨r1, cs1, g1, hf1⟩ := bnd_inv hf
  obtain ⟨y, cs3, g3', hf2⟩ := bnd_inv hf1
  obtain ⟨g3, e3⟩ := vw_inv g3'
  subst e3
  obtain ⟨g5, e5⟩ := lft_inv hf2
  subst e5
  refine he.r P G H σ cs _ _ _ k g1 fun v G1 H1 k1 l1 a1 => ?_
  split at g5
  · rename_i b eb
    cases g5
    obtain ⟨a, ea, kb⟩ := isTy_kit eb
    exact ⟨v, .ty t.nm, .type a, .type t.nm, b, rfl, .ty _, tyx_of k1 (a1.view k1 g3) ea, kit_ty kb, hQ _ G1 H1 k1 l1 res_bl⟩
  · cases g5
end
end DS

set_option Elab.async false
set_option linter.all false
set_option maxRecDepth 100000
set_option maxHeartbeats 2000000
set_option autoImplicit false
namespace DS
open PySem PySem.Spec L2
open PyProof.Rows (envOfC)

theorem u65 {k : Nat} {A : Around} (hr : Room k A) : A.units + 65 < cLine := by
  have := hr.un
  omega
/-! ### a slot is frozen as it is read, if it is not yet -/
def fzV2 (i : Nat) : M Res := fun cs => match cs[i]? with
  | some (.o false c) => some (.d c.fz, cs.set i (.d c.fz))
  | some (.d x) => some (.d x, cs)
  | _ => none
section
variable {X : Cx} {pos : Pos}
theorem ev_fz (i : Nat) {x : Str} (hN : X.N[i]? = some x := by rfl) (hv : Vis X.env.scope x := by first | exact Or.inl rfl | exact Or.inr (Or.inl rfl) | exact Or.inr (Or.inr rfl)) (hd : (x == ("__debug__" : Str)) = false := by decide)
    (hcd : (x == ("__classdict__" : Str)) = false := by decide) : EvE X (.Name x pos) (fzV2 i) := by
  intro p G H σ cs r cs' Q k hf hQ
  unfold fzV2 at hf
  split at hf
  · rename_i c e
    cases hf
    exact ev_fzV i hN hv hd hcd p G H σ cs _ _ Q k (by unfold fzV; rw [e]) hQ
  · rename_i x e
    cases hf
    exact ev_var i hN hv hd hcd p G H σ cs _ _ Q k (by unfold getV; rw [e]) hQ
  · cases hf
end

/-! ### a def that is never called with success -/
theorem fn_none {P : Program} {w : World} {K : PySem.W.Frag} {mg : Str → Option Value} {base : Heap} {k : Nat} {f : Addr} {fd : FuncData} {ps : List Str} {n : Nat} : FnOk P w K mg base CX0 k f fd ps (spD K n fun _ => none) where
  len := fun vs H Q E ⟨_, _, _, _, _, _, h, _⟩ => by cases h
  run := fun _ _ _ _ _ _ _ _ _ _ _ _ _ ⟨_, _, _, _, _, _, h, _⟩ => by cases h

/-! ### a slot's object is lent -/
def flat : D → Bool
  | .non | .bl _ | .int _ | .str _ => true
  | _ => false
theorem flat_rep {K : PySem.W.Frag} {G G' : Hp} {x : D} {v : V} (h : flat x = true) (r : Rep K G x v) : Rep K G' x v := by
  cases x <;> simp only [Rep] at r ⊢ <;> first | exact r | cases h
def msk : Cell → Cell
  | .o _ _ => .un
  | c => c
def lent (cs : Cs) (i : Nat) (x : D) : Cs := (cs.map msk).set i (.d x)
def bor (i : Nat) (f : M Res) : M Res := fun cs => match cs[i]? with
  | some (.o _ c) => (match f (lent cs i c.fz) with
    | some (.d x, _) => if flat x = true then some (.d x, cs) else none
    | _ => none)
  | _ => f cs
section
variable {K : PySem.W.Frag} {p : Pt} {G G' H H' : Hp} {σ : L2.St} {cs : Cs}
theorem Ok.grow (k : Ok K p G H σ cs) (l : Le H H') : Ok K p G H' σ cs where
  len := k.len
  cells i c v e1 e2 := by
    have := k.cells i c v e1 e2
    cases c with
    | un => trivial
    | d x => exact this
    | o io c =>
      obtain ⟨a, ho, e, h1, h2, h3, h4⟩ := this
      exact ⟨a, ho, e, l _ _ h1, h2, h3, h4⟩
  sep := k.sep
  le := k.le.trans l
  sub a e := by
    refine k.sub a ?_
    cases h : H a with
    | none => rfl
    | some u => rw [l _ _ h] at e; cases e
  fr a o e ni := l _ _ (k.fr a o e ni)
  dom a e := by
    refine k.dom a ?_
    cases h : H a with
    | none => rfl
    | some u => rw [l _ _ h] at e; cases e
  g0 := k.g0
  gn := k.gn
  ios := k.ios
theorem Ok.lent (k : Ok K p G H σ cs) {i : Nat} {io : Bool} {c : O} {a : Addr} {ho ho' : HO} (e : cs[i]? = some (.o io c)) (es : σ[i]? = some (some (.ref a))) (h : H a = some ho) (hg : G a = none) (r : RepO K G c ho) (od : Obj) (q : ho' = Fz c od ho) :
    Ok K ⟨upd G a ho', upd H a ho', fun _ => none⟩ (upd G a ho') (upd H a ho') σ (lent cs i c.fz) where
  len := by simp [DS.lent, k.len]
  cells j cj v e1 e2 := by
    rcases get_set e1 with ⟨rfl, rfl⟩ | ⟨n, e1⟩
    · rw [es] at e2; cases e2
      exact ⟨_, rfl, r.fz (.new hg) (by rw [upd_same, q])⟩
    · rw [List.getElem?_map] at e1
      cases e3 : cs[j]? with
      | none => rw [e3] at e1; cases e1
      | some c0 =>
        rw [e3] at e1
        cases e1
        have := k.cells j c0 v e3 e2
        cases c0 with
        | un => trivial
        | o io c => trivial
        | d x =>
          obtain ⟨u, e, r⟩ := this
          exact ⟨u, e, r.le (.new hg)⟩
  sep x y io io' c c' ad e1 e2 e3 e4 := by
    rcases get_set e1 with ⟨_, z⟩ | ⟨n, e1⟩
    · cases z
    · rw [List.getElem?_map] at e1
      cases e3 : cs[x]? with
      | none => rw [e3] at e1; cases e1
      | some c0 => rw [e3] at e1; cases c0 <;> cases e1
  le := k.le.both
  sub b e := by
    by_cases z : b = a
    · subst z; rw [upd_same] at e; cases e
    · rw [upd_ne z] at e ⊢; exact k.sub b e
  fr b o e _ := e
  dom b e := e
  g0 := .refl _
  gn b e := .inl e
  ios _ _ e := nomatch e
theorem pe_lock {X : Cx} {e : Expr} {t : TE} (h : PE X e t) :
    PE X e (fun σ H Q => ∃ d u, H d = some u ∧ Mut (some u) ∧ ∀ od, t σ (upd H d (.frz od u)) (fun v H' => H' d = some (.frz od u) ∧ Q v (upd H' d u))) := by
  refine ⟨fun pins s σ H Q I ⟨d, u, hd, mu, q⟩ => ?_⟩
  obtain ⟨od, I2⟩ := I.lock hd mu
  exact thn (h.run pins s σ _ _ I2 (q od)) fun z s' ⟨v, H', I3, rv, e, q'⟩ => ⟨v, _, I3.unlock e (I.nofrz hd mu), rv, q'⟩
theorem ev_bor {X : Cx} {e : Expr} {f : M Res} (i : Nat) (h : EvE X e f) : EvE X e (bor i f) := by
  intro p G H σ cs r cs' Q k hf hQ
  unfold bor at hf
  split at hf
  · rename_i io c e1
    split at hf
    · rename_i x cs2 e2
      split at hf
      · rename_i fl
        cases hf
        obtain ⟨a, ho, es, h1, h2, h3⟩ := k.own e1
        have fin : ∀ od v G' H', Ok X.K ⟨upd G a (Fz c od ho), upd H a (Fz c od ho), fun _ => none⟩ G' H' σ cs2 → Rep X.K G' x v → H' a = some (Fz c od ho) ∧ Q v (upd H' a ho) := by
          intro od v G' H' k' r'
          have hh : ∀ b u, upd H a (Fz c od ho) b = some u → H' b = some u := fun b u e => k'.fr b u e (fun i => nofun)
          refine ⟨hh a _ upd_same, hQ v G _ (k.grow fun b u e => ?_) (.refl _) (flat_rep fl r')⟩
          by_cases z : b = a
          · subst z; rw [upd_same]; rw [h1] at e; exact e
          · rw [upd_ne z]; exact hh b u (by rw [upd_ne z]; exact e)
        have lst : Fz c default ho = ho → tAny X e σ H Q := fun z => by
          have key := h _ _ _ σ _ _ _ Q (k.lent e1 es h1 h3 h2 default rfl) e2 (fun v G' H' k' l' r' => by
            obtain ⟨q1, q2⟩ := fin _ v G' H' k' r'
            have e0 : upd H' a ho = H' := by
              funext b
              by_cases zz : b = a
              · subst zz; rw [upd_same, q1, z]
              · rw [upd_ne zz]
            rw [e0] at q2
            exact q2)
          have e0 : upd H a (Fz c default ho) = H := by
            funext b
            by_cases zz : b = a
            · subst zz; rw [upd_same, h1, z]
            · rw [upd_ne zz]
          rw [e0] at key
          exact key
        have dct : (∀ od, Fz c od ho = .frz od ho) → tAny X e σ H Q := fun z => by
          refine ⟨_, pe_lock pe_any, a, ho, h1, mut_of h2, fun od => ?_⟩
          have key := h _ _ _ σ _ _ _ (fun v H' => H' a = some (Fz c od ho) ∧ Q v (upd H' a ho)) (k.lent e1 es h1 h3 h2 od rfl) e2 (fun v G' H' k' l' r' => fin _ v G' H' k' r')
          rw [z] at key
          exact key
        cases c with
        | l xs => exact lst rfl
        | k m => exact dct fun _ => rfl
        | t m => exact dct fun _ => rfl
      · cases hf
    · cases hf
  · exact h p G H σ cs r cs' Q k hf hQ
end
end DS

set_option Elab.async false
set_option linter.all false
set_option maxRecDepth 100000
set_option maxHeartbeats 2000000
set_option autoImplicit false
namespace DS
open PySem PySem.Spec L2
open Sem (wp)

section
variable {prog : Program} {w : World} {A : Around} {E : Value → Shared → Prop} {s : Shared}
theorem wpAny_dictPut {d : Addr} {kvs : List (Key × Value)} {k : Key} {key v : Value} {Q : Unit → Shared → Prop} (hkey : (mixKind prog w).is k key = true) (hm : s.heap.DictOf (mixKind prog w) d kvs)
    (hQ : ∀ h', h'.DictOf (mixKind prog w) d (stored kvs k v) → Heap.SameBut d s.heap h' → Q () { s with heap := h' })
    (hsz : kvs.length ≤ sizeLine) :
    wpAny (model prog w) A (dictPut d ((mixKind prog w).hash k) key v) Q E s := by
  obtain ⟨o, es, ep, ho, hc, hd, hk, hp, hn⟩ := hm
  have hes : es.size ≤ sizeLine := by
    have e1 := hp.length
    have e2 : es.toList.length = es.size := by simp
    omega
  unfold dictPut
  refine wpAny_bind (wpAny_dictFind_of hkey ho hd hk ?_)
  have hidx : (es.findIdx? fun e => (mixKind prog w).is k e.key) = kvs.findIdx? fun kv => decide (kv.1 = k) := by
    rw [← hp.findIdx k]; obtain ⟨l⟩ := es; simp
  cases hi : es.findIdx? fun e => (mixKind prog w).is k e.key with
  | some i =>
    refine (wpAny_updateDict ho hd ((hQ _ ⟨_, _, ep, Heap.get?_update_self _ ho (Obj.isFreed_of_dict (Obj.data_mapDict hd _)),
      hc.mapDict _, Obj.data_mapDict hd _, hk.modify _ _, ?_, ?_⟩ (Heap.SameBut.update ..))))
    · rw [stored, if_pos (any_of_findIdx_some (hidx ▸ hi))]
      have hl : (es.toList.findIdx? fun e => (mixKind prog w).is k e.key) = some i := by rw [← hi]; obtain ⟨l⟩ := es; simp
      have := hp.modify hn hl v
      obtain ⟨l⟩ := es
      simpa using this
    · rw [stored, if_pos (any_of_findIdx_some (hidx ▸ hi)), keys_map_store]; exact hn
  | none =>
    have hnot : k ∉ kvs.map (·.1) := not_mem_of_findIdx_none (hidx ▸ hi)
    have hany : ¬ (kvs.any fun kv => decide (kv.1 = k)) = true := by
      rw [List.any_eq_true]; rintro ⟨kv, hkv, he⟩
      exact hnot (List.mem_map.mpr ⟨kv, hkv, of_decide_eq_true he⟩)
    refine (wpAny_updateDictKeys (hz := hes) ho hd (hQ _ ⟨_, _, ep + 1, Heap.get?_update_self _ ho (Obj.isFreed_of_dict (Obj.data_mapDictKeys hd _)),
      hc.mapDictKeys _, Obj.data_mapDictKeys hd _, hk.push hkey _, ?_, ?_⟩ (Heap.SameBut.update ..)))
    · rw [stored, if_neg hany]
      have := hp.append hkey ((mixKind prog w).hash k) v
      obtain ⟨l⟩ := es
      simpa using this
    · rw [stored, if_neg hany, List.map_append, List.nodup_append]
      refine ⟨hn, by simp, ?_⟩
      intro a ha b hb
      simp only [List.map_cons, List.map_nil, List.mem_singleton] at hb
      subst hb
      exact fun e => hnot (e ▸ ha)
theorem notRef {k : Key} {v : Value} (h : (mixKind prog w).is k v = true) : ∀ a, v ≠ .ref a := by
  rcases keyIs_shape h with ⟨i, t, rfl, rfl⟩ | ⟨x, t, rfl, rfl⟩ <;> exact fun a e => nomatch e
theorem wpAny_mergeMapping {d o : Addr} {kvs more : List (Key × Value)} {Q : Unit → Shared → Prop} (hdo : d ≠ o) (hoS : (o == sysModules) = false)
    (hd : s.heap.DictOf (mixKind prog w) d kvs) (ho : s.heap.DictOf (mixKind prog w) o more)
    (hQ : ∀ h', h'.DictOf (mixKind prog w) d (merged kvs more) → h'.DictOf (mixKind prog w) o more → Heap.SameBut d s.heap h' → Q () { s with heap := h' })
    (hsz : kvs.length + more.length ≤ sizeLine) :
    wpAny (model prog w) A (mergeMapping d (.ref o) false) Q E s := by
  obtain ⟨od, esd, epd, hod, hcd, hdd, hkd, hpd, hnd⟩ := id hd
  obtain ⟨oo, eso, epo, hoo, hco, hdo', hko, hpo, hno⟩ := id ho
  have hlen : more.length = eso.size := by rw [← hpo.length]; simp
  have loop : wpAny (model prog w) A (do
        let l ← dictEntries o
        let epoch ← dictEpoch o
        forIn (List.range l.size) PUnit.unit fun i (_ : PUnit) => (do
            let l' ← dictEntries o
            match l'[i]? with
              | some e => do
                holding [e.key, e.val]
                    (if false = true then do
                      let f ← dictFind d e.key e.hash
                      if f.isSome = true then do
                          rule "dict.merge.duplicate-key"
                          let x ← newExc (Value.type "KeyError") [e.key]
                          (raiseNew x : Sem PUnit)
                          dictPut d e.hash e.key e.val
                        else dictPut d e.hash e.key e.val
                    else dictPut d e.hash e.key e.val)
                let ep' ← dictEpoch o
                if (ep' != epoch) = true then do
                    (unsupported "dict.changed-during-merge" : Sem PUnit)
                    pure (ForInStep.yield PUnit.unit)
                  else pure (ForInStep.yield PUnit.unit)
              | _ => do
                (unsupported "dict.changed-during-merge" : Sem PUnit)
                pure (ForInStep.yield PUnit.unit) : Sem (ForInStep PUnit))
        pure ()) Q E s := by
    refine wpAny_bind (wpAny_dictEntries hoo hdo' ?_)
    refine wpAny_bind (wpAny_dictEpoch hoo hdo' ?_)
    refine wpAny_bind ?_
    rw [List.range_eq_range']
    refine wpAny_forIn_list _
      (fun rest _ s' => ∃ h' i, s' = { s with heap := h' } ∧ rest = List.range' i (eso.size - i) ∧ i ≤ eso.size ∧ h'.DictOf (mixKind prog w) d (merged kvs (more.take i)) ∧ h'.get? o = some oo ∧ Heap.SameBut d s.heap h')
      _ ?_ ?_ _ _ ⟨s.heap, 0, rfl, by simp, Nat.zero_le _, by simpa [merged] using hd, hoo, Heap.SameBut.refl _ _⟩
    · rintro x rest b s' ⟨h', i, rfl, hr, hi, hd', hoo', hs'⟩
      have hlt : i < eso.size := by
        rcases Nat.lt_or_ge i eso.size with h | h
        · exact h
        · rw [Nat.sub_eq_zero_of_le h] at hr; simp at hr
      obtain ⟨rfl, hrest⟩ : x = i ∧ rest = List.range' (i + 1) (eso.size - (i + 1)) := by
        have e : eso.size - i = (eso.size - (i + 1)) + 1 := by omega
        rw [e, List.range'_succ] at hr
        injection hr with h1 h2
        exact ⟨h1, h2⟩
      refine wpAny_bind (wpAny_dictEntries hoo' hdo' ?_)
      rw [Array.getElem?_eq_getElem hlt]
      obtain ⟨kv, hkv⟩ : ∃ kv, more[x]? = some kv := ⟨more[x]'(by rw [hlen]; exact hlt), List.getElem?_eq_getElem _⟩
      obtain ⟨k, v⟩ := kv
      obtain ⟨hkey, hval⟩ := hpo.get? (e := eso[x]) (by simp [hlt]) hkv
      obtain ⟨k', hkey', hhash⟩ := hko eso[x] (Array.getElem_mem hlt)
      obtain rfl : k' = k := (mixKind prog w).inj _ _ _ hkey' hkey
      dsimp only
      rw [if_neg (by decide)]
      rw [hhash, hval]
      have hmx : (merged kvs (more.take x)).length ≤ sizeLine := by
        have e1 := merged_length_le kvs (more.take x)
        have e2 : (more.take x).length ≤ more.length := by rw [List.length_take]; omega
        omega
      refine wpAny_bind (wpAny_holding (wpAny_dictPut (hsz := hmx) hkey hd' fun h'' hd'' hs'' => ?_))
      have hoo'' : h''.get? o = some oo := (hs''.2 o (Ne.symm hdo)).trans hoo'
      refine wpAny_bind (wpAny_dictEpoch hoo'' hdo' ?_)
      rw [if_neg (by simp)]
      exact wpAny_pure ⟨h'', x + 1, rfl, hrest, hlt, by rw [merged_take_succ kvs more x (k', v) hkv]; exact hd'', hoo'', hs'.trans hs''⟩
    · rintro b s' ⟨h', i, rfl, hr, hi, hd', hoo', hs'⟩
      have hin : i = eso.size := by
        rcases Nat.lt_or_ge i eso.size with h | h
        · have e : eso.size - i = (eso.size - (i + 1)) + 1 := by omega
          rw [e, List.range'_succ] at hr; exact nomatch hr
        · exact Nat.le_antisymm hi h
      refine wpAny_pure (hQ h' ?_ ⟨oo, eso, epo, hoo', hco, hdo', hko, hpo, hno⟩ hs')
      rw [hin, ← hlen, List.take_length] at hd'; exact hd'
  unfold mergeMapping
  refine wpAny_bind (wpAny_isInstance ho.typeIs isSubtype_dict_dict ?_)
  simp only [if_true]
  refine wpAny_bind (wpAny_specialOf ho.typeIs F.slot_dict_iter.lookup (wpAny_bind (wpAny_pure ?_)))
  simp only [beq_self_eq_true]
  rw [if_neg (by rw [hoS]; exact Bool.false_ne_true)]
  refine wpAny_bind (wpAny_dictEntries hod hdd ?_)
  split
  · refine wpAny_bind (wpAny_dictEntries hoo hdo' ?_)
    refine wpAny_bind ?_
    refine wpAny_of_eq (a := PUnit.unit) ?_ loop
    rw [← Array.forIn_toList]
    refine forIn_yield_id _ fun e he c => ?_
    obtain ⟨k, hkey, _⟩ := hko e (Array.mem_toList_iff.mp he)
    have := notRef hkey
    cases hk : e.key <;> first | rfl | exact absurd hk (this _)
  · exact loop
end
end DS

set_option Elab.async false
set_option linter.all false
set_option maxRecDepth 100000
set_option maxHeartbeats 2000000
set_option autoImplicit false
namespace DS
open PySem PySem.Spec L2
open Sem (wp)
open Heap

/-! ### displays of dicts with stars -/
def tStarP (te tk tv : TE) : TE := fun σ H Q => ∀ p, H p = none → te σ (upd H p (.dK [])) fun v H1 => H1 p = some (.dK []) ∧ ∃ a more, v = .ref a ∧ a ≠ p ∧ Rd H1 a (.dK more) ∧
  ∀ q, (upd H1 p (.dK (mergeK [] more))) q = none → tk σ (upd (upd H1 p (.dK (mergeK [] more))) q (.dK [])) fun kv H2 => tv σ H2 fun vv H3 => H3 q = some (.dK []) ∧ H3 p = some (.dK (mergeK [] more)) ∧ (mergeK [] more).length + 1 ≤ sizeLine ∧
    ∃ k, kv = kV k ∧ Q (.ref p) (upd (upd H3 q (.dK [(k, vv)])) p (.dK (mergeK (mergeK [] more) [(k, vv)])))
def tStars (te tf : TE) : TE := fun σ H Q => ∀ p, H p = none → te σ (upd H p (.dK [])) fun v H1 => H1 p = some (.dK []) ∧ ∃ a more, v = .ref a ∧ a ≠ p ∧ Rd H1 a (.dK more) ∧
  tf σ (upd H1 p (.dK (mergeK [] more))) fun v2 H2 => H2 p = some (.dK (mergeK [] more)) ∧ ∃ b more2, v2 = .ref b ∧ b ≠ p ∧ Rd H2 b (.dK more2) ∧ (mergeK [] more).length + more2.length ≤ sizeLine ∧
    Q (.ref p) (upd H2 p (.dK (mergeK (mergeK [] more) more2)))
section
variable {X : Cx} {pins : List (Addr × Obj)} {σ : L2.St} {H : Hp} {s : Shared} {A : Around} {E : Value → Shared → Prop}
/-- a dict is merged into another -/
theorem merge_run {p a : Addr} {kvs more : List (Key × V)} {Q : Unit → Shared → Prop} (I : Inv X pins σ H s) (ep : H p = some (.dK kvs)) (ne : a ≠ p) (ea : Rd H a (.dK more)) (hz : kvs.length + more.length ≤ sizeLine)
    (h : ∀ s', Inv X pins σ (upd H p (.dK (mergeK kvs more))) s' → Q () s') : wpAny (model X.prog X.w) A (mergeMapping p (.ref a) false) Q E s := by
  obtain ⟨_, hd, vs, rel, dd⟩ := dk_of I.hok ep
  obtain ⟨_, hd', vs', rel', dd'⟩ := dk_rd I.hok ea
  refine wpAny_mergeMapping (Ne.symm ne) hd' dd dd' (fun h' d1 d2 hs => ?_) (by rw [← rel.length, ← rel'.length]; exact hz)
  have he : ∃ q, h'.get? p = some q := let ⟨q, _, _, hq, _⟩ := d1; ⟨q, hq⟩
  exact h _ (d_write (t' := s.toks) I (by rw [ep]; exact True.intro) hs he (dk_new (Nat.le_trans (length_mergeK _ _) hz) hd (KV.merge rel' rel) d1))
theorem new_dict (I : Inv X pins σ H s) : H s.heap.objs.size = none ∧ Inv X pins σ (upd H s.heap.objs.size (.dK [])) { s with heap := s.heap.push { cls := .type "dict", data := .dict #[] } } :=
  ⟨I.hok.fresh (Nat.le_refl s.heap.objs.size), I.laid (a := s.heap.objs.size) (o := .dK []) (h' := s.heap.push { cls := .type "dict", data := .dict #[] }) (t' := s.toks) (fun _ _ q => Heap.get?_push_of_some _ q) (Nat.le_refl _) (dk_empty s.heap I.big)⟩
theorem pe_starP {pos : Pos} {e ke ve : Expr} {te tk tv : TE} (he : PE X e te) (hk : PE X ke tk) (hv : PE X ve tv) : PE X (.Dict [none, some ke] [e, ve] pos) (tStarP te tk tv) := by
  refine ⟨fun pins s σ H Q I q => ?_⟩
  rw [arm_eval_Dict]
  refine wpAny_bind (wpAny_standAt ?_)
  show wpAny _ _ (dictDisplay [(none, do let x ← eval e X.env; standAt pos; pure x), (some (eval ke X.env), do let x ← eval ve X.env; standAt pos; pure x)]) _ _ _
  unfold dictDisplay
  dsimp only
  simp only [List.forIn_cons, List.forIn_nil, List.isEmpty_nil, if_true, pure_bind, bind_assoc]
  refine wpAny_bind (wpAny_alloc ?_)
  obtain ⟨hn, I1⟩ := new_dict I
  refine wpAny_bind (wpAny_holding (wpAny_bind (thn (he.run pins _ σ _ _ I1 (q _ hn)) fun u s1 ⟨v, H1, I2, rv, ep, a, more, ev, ne, ea, q1⟩ => wpAny_bind (wpAny_standAt (wpAny_pure ?_)))))
  subst ev
  obtain rfl : u = Value.ref a := rv
  refine wpAny_bind (wpAny_onRaise (wpAny_tryCatch (wpAny_onRaise (wpAny_holding (merge_run I2 ep ne ea (by rw [List.length_nil, Nat.zero_add]; exact (dk_rd I2.hok ea).1) fun s2 I3 => ?_)))))
  rw [if_neg (by simp)]
  simp only [pure_bind, List.nil_append, List.isEmpty_cons, Bool.false_eq_true, if_false]
  refine wpAny_bind (wpAny_bind (wpAny_holding ?_))
  obtain ⟨hn2, I4⟩ := new_dict I3
  refine wpAny_subDict (knd := mixKind X.prog X.w) (by simp) ?_
  refine evalPairs_cons (thn (hk.run pins _ σ _ _ I4 (q1 _ hn2)) fun ku s3 ⟨kv, H2, I5, rk, q2⟩ => ?_)
  refine wpAny_bind (thn (hv.run pins _ σ _ _ I5 q2) fun vu s4 ⟨vv, H3, I6, rv, eq, ep2, hz, k, ek, q3⟩ => wpAny_bind (wpAny_standAt (wpAny_pure (evalPairs_nil ?_))))
  subst ek
  obtain ⟨z, hd, vs0, r0, dd⟩ := dk_of I6.hok eq
  cases r0
  refine ⟨[(k, vu)], ⟨kV_is rk, rfl, trivial⟩, dd, fun h' dd' hs => ?_⟩
  have e1 : h'.DictOf (mixKind X.prog X.w) s2.heap.objs.size [(k, vu)] := dd'
  have he' : ∃ q, h'.get? s2.heap.objs.size = some q := let ⟨q, _, _, hq, _⟩ := dd'; ⟨q, hq⟩
  have I7 := d_write (t' := s4.toks + ([(ku, vu)] : List (Value × Value)).length) I6 (by rw [eq]; exact True.intro) hs he' (dk_new (kvs := [(k, vv)]) (vs := [(k, vu)]) (by rw [sizeLine_eq]; simp) hd (.cons ⟨rfl, rv⟩ .nil) e1)
  have nq : s2.heap.objs.size ≠ s.heap.objs.size := fun z => by rw [z, upd_same] at hn2; cases hn2
  refine wpAny_bind (wpAny_onRaise (wpAny_holding (merge_run I7 (kvs := mergeK [] more) (more := [(k, vv)]) (by rw [upd_ne (Ne.symm nq)]; exact ep2) nq (.inl upd_same) hz fun s5 I8 => ?_)))
  exact wpAny_pure (wpAny_pure ⟨.ref s.heap.objs.size, _, I8, rfl, q3⟩)
theorem pe_stars {pos : Pos} {e f : Expr} {te tf : TE} (he : PE X e te) (hf : PE X f tf) : PE X (.Dict [none, none] [e, f] pos) (tStars te tf) := by
  refine ⟨fun pins s σ H Q I q => ?_⟩
  rw [arm_eval_Dict]
  refine wpAny_bind (wpAny_standAt ?_)
  show wpAny _ _ (dictDisplay [(none, do let x ← eval e X.env; standAt pos; pure x), (none, do let x ← eval f X.env; standAt pos; pure x)]) _ _ _
  unfold dictDisplay
  dsimp only
  simp only [List.forIn_cons, List.forIn_nil, List.isEmpty_nil, if_true, pure_bind, bind_assoc]
  refine wpAny_bind (wpAny_alloc ?_)
  obtain ⟨hn, I1⟩ := new_dict I
  refine wpAny_bind (wpAny_holding (wpAny_bind (thn (he.run pins _ σ _ _ I1 (q _ hn)) fun u s1 ⟨v, H1, I2, rv, ep, a, more, ev, ne, ea, q1⟩ => wpAny_bind (wpAny_standAt (wpAny_pure ?_)))))
  subst ev
  obtain rfl : u = Value.ref a := rv
  refine wpAny_bind (wpAny_onRaise (wpAny_tryCatch (wpAny_onRaise (wpAny_holding (merge_run I2 ep ne ea (by rw [List.length_nil, Nat.zero_add]; exact (dk_rd I2.hok ea).1) fun s2 I3 => ?_)))))
  refine wpAny_bind (wpAny_holding (wpAny_bind (thn (hf.run pins _ σ _ _ I3 q1) fun u2 s3 ⟨v2, H2, I4, rv2, ep2, b, more2, ev2, ne2, eb, hz, q2⟩ => wpAny_bind (wpAny_standAt (wpAny_pure ?_)))))
  subst ev2
  obtain rfl : u2 = Value.ref b := rv2
  refine wpAny_bind (wpAny_onRaise (wpAny_tryCatch (wpAny_onRaise (wpAny_holding (merge_run I4 ep2 ne2 eb hz fun s5 I8 => ?_)))))
  exact wpAny_pure ⟨.ref s.heap.objs.size, _, I8, rfl, q2⟩
end
/-! ### as data -/
def dMerge (m n : List (Key × D)) : List (Key × D) := n.foldl (fun acc kv => dPut acc kv.1 kv.2) m
theorem RepK.merge {K : PySem.W.Frag} {G : Hp} : ∀ {n : List (Key × D)} {m : List (Key × D)} {vs ws : List (Key × V)}, RepK K G m vs → RepK K G n ws → RepK K G (dMerge m n) (mergeK vs ws)
  | [], _, _, _, h, h' => by
    simp only [RepK] at h'
    subst h'
    exact h
  | (k, d) :: n, _, _, _, h, h' => by
    simp only [RepK] at h'
    obtain ⟨v, r, rfl, h1, h2⟩ := h'
    show RepK K G (dMerge (dPut _ k d) n) (mergeK (putK _ k v) r)
    exact RepK.merge (n := n) (h.put h1) h2
def dkOf : Option D → Option (List (Key × D))
  | some (.dk m) => some m
  | _ => none
theorem dkOf_some {o : Option D} {m : List (Key × D)} (h : dkOf o = some m) : o = some (.dk m) := by
  unfold dkOf at h
  split at h
  · cases h; rfl
  · cases h
def starP (f g h : M Res) : M Res := bnd (asR f) fun r cs => match dkOf (view cs r) with
  | some m => (bnd (asD g) fun kd => bnd (asD h) fun vd => match dKey kd with
      | some k => if (dMerge [] m).length + 1 ≤ sizeLine then ret (.o (.k (dMerge (dMerge [] m) [(k, vd)]))) else fun _ => none
      | none => fun _ => none) cs
  | none => none
def stars (f g : M Res) : M Res := bnd (asR f) fun r cs => match dkOf (view cs r) with
  | some m => (bnd (asR g) fun r2 cs2 => match dkOf (view cs2 r2) with
      | some n => if (dMerge [] m).length + n.length ≤ sizeLine then some (.o (.k (dMerge (dMerge [] m) n)), cs2) else none
      | none => none) cs
  | none => none
section
variable {X : Cx} {pos : Pos} {e ke ve : Expr} {f g h : M Res}
theorem RepK.length {K : PySem.W.Frag} {G : Hp} : ∀ {m : List (Key × D)} {vs : List (Key × V)}, RepK K G m vs → vs.length = m.length
  | [], _, h => by simp only [RepK] at h; subst h; rfl
  | (k, d) :: m, _, h => by
    simp only [RepK] at h
    obtain ⟨v, r, rfl, _, h2⟩ := h
    simp [RepK.length h2]
theorem arg_ne {K : PySem.W.Frag} {G : Hp} {σ : L2.St} {cs : Cs} {a q : Addr} {r : Res} {m : List (Key × D)} (f : Free σ cs q) (hg : G q = none) (h : ArgOk K G σ (.ref a) r) (e : view cs r = some (.dk m)) : a ≠ q := by
  rintro rfl
  cases r with
  | d x =>
    cases e
    have h' : Rep K G (.dk m) (.ref a) := h
    simp only [Rep] at h'
    obtain ⟨b, o, vs, e1, e2, _⟩ := h'
    cases e1
    rw [hg] at e2
    cases e2
  | o c => exact h
  | s i =>
    unfold DS.view at e
    dsimp only at e
    split at e
    · rename_i io c ec
      exact f i io c ec h
    · cases e
theorem ev_starP (he : EvE X e f) (hk : EvE X ke g) (hv : EvE X ve h) : EvE X (.Dict [none, some ke] [e, ve] pos) (starP f g h) := by
  intro p G H σ cs r cs' Q k0 hf hQ
  obtain ⟨r1, cs1, h1, h2⟩ := bnd_inv hf
  cases hm : dkOf (view cs1 r1) with
  | none => rw [hm] at h2; cases h2
  | some m =>
    rw [hm] at h2
    replace hm := dkOf_some hm
    obtain ⟨kd, cs2, h3, h4⟩ := bnd_inv h2
    obtain ⟨vd, cs3, h5, h6⟩ := bnd_inv h4
    cases ek : dKey kd with
    | none => rw [ek] at h6; cases h6
    | some k =>
      rw [ek] at h6
      dsimp only at h6
      split at h6
      · rename_i hz
        cases h6
        refine ⟨_, pe_starP pe_any pe_any pe_any, fun q hq => ?_⟩
        have k1 := k0.new (o := .dK []) hq
        have fq := k0.free_new hq
        refine he.r (blkP p G _ σ cs) G _ σ cs _ _ _ (k1.enter []) h1 fun v G1 H1 k2 l1 a1 => ?_
        obtain ⟨s1, s2⟩ := k1.stays k2 upd_same (k0.sub q hq) (k0.dom q hq) fq
        obtain ⟨a, vs, ev, rd, rk⟩ := (ArgOk.view k2 a1 hm).dk k2.le
        have k3 : Ok X.K p G1 H1 σ cs1 := k1.leave (vs := []) rfl k2 l1 rfl
        have f3 : Free σ cs1 q := Free.leave k1 (vs := []) rfl k2 rfl upd_same (k0.dom q hq) fq
        refine ⟨s1, a, vs, ev, ?_, rd, fun b hb => ?_⟩
        · subst ev; exact arg_ne f3 s2 a1 hm
        have k4 := k3.poke (o' := .dK (mergeK [] vs)) s1 s2 (k0.dom q hq) f3
        have k5 := k4.new (o := .dK []) hb
        have fb := k4.free_new hb
        have nb : b ≠ q := fun z => by rw [z, upd_same] at hb; cases hb
        refine hk.d (blkP p G1 _ σ cs1) G1 _ σ cs1 _ _ _ (k5.enter []) h3 fun kv G2 H2 k6 l2 rkv => ?_
        refine hv.d (blkP p G1 _ σ cs1) G2 H2 σ cs2 _ _ _ k6 h5 fun vv G3 H3 k7 l3 rvv => ?_
        obtain ⟨s3, s4⟩ := k5.stays k7 (a := b) upd_same (k4.sub b hb) (k4.dom b hb) fb
        obtain ⟨s5, s6⟩ := k5.stays k7 (a := q) (by rw [upd_ne (Ne.symm nb), upd_same]) s2 (k0.dom q hq) f3
        have k8 : Ok X.K p G3 H3 σ cs' := k5.leave (vs := []) rfl k7 (l2.trans l3) rfl
        have f8 : Free σ cs' q := Free.leave k5 (vs := []) rfl k7 rfl (by rw [upd_ne (Ne.symm nb), upd_same]) (k0.dom q hq) f3
        have f9 : Free σ cs' b := Free.leave k5 (vs := []) rfl k7 rfl upd_same (k4.dom b hb) fb
        have k9 := k8.poke (o' := .dK [(k, vv)]) s3 s4 (k4.dom b hb) f9
        have k10 := k9.poke (a := q) (o := .dK (mergeK [] vs)) (o' := .dK (mergeK (mergeK [] vs) [(k, vv)])) (by rw [upd_ne (Ne.symm nb)]; exact s5) s6 (k0.dom q hq) f8
        have rm : RepK X.K G1 (dMerge [] m) (mergeK [] vs) := RepK.merge (by simp only [RepK]) rk
        refine ⟨s3, s5, by rw [rm.length]; exact hz, k, ?_, hQ _ _ _ k10 (l1.trans (l2.trans l3)) ⟨q, _, rfl, upd_same, ⟨_, rfl, ?_⟩, s6, k0.dom q hq, f8⟩⟩
        · exact dKey_rep (H := H2) ek (.inl rkv)
        · exact RepK.merge (rm.le (l2.trans l3)) (by simp only [RepK]; exact ⟨vv, [], rfl, rvv, rfl⟩)
      · cases h6
theorem ev_stars {e f : Expr} {g h : M Res} (he : EvE X e g) (hk : EvE X f h) : EvE X (.Dict [none, none] [e, f] pos) (stars g h) := by
  intro p G H σ cs r cs' Q k0 hf hQ
  obtain ⟨r1, cs1, h1, h2⟩ := bnd_inv hf
  cases hm : dkOf (view cs1 r1) with
  | none => rw [hm] at h2; cases h2
  | some m =>
    rw [hm] at h2
    replace hm := dkOf_some hm
    obtain ⟨r2, cs2, h3, h4⟩ := bnd_inv h2
    cases hn : dkOf (view cs2 r2) with
    | none => rw [hn] at h4; cases h4
    | some n =>
      rw [hn] at h4
      replace hn := dkOf_some hn
      dsimp only at h4
      split at h4
      · rename_i hz
        cases h4
        refine ⟨_, pe_stars pe_any pe_any, fun q hq => ?_⟩
        have k1 := k0.new (o := .dK []) hq
        have fq := k0.free_new hq
        refine he.r (blkP p G _ σ cs) G _ σ cs _ _ _ (k1.enter []) h1 fun v G1 H1 k2 l1 a1 => ?_
        obtain ⟨s1, s2⟩ := k1.stays k2 upd_same (k0.sub q hq) (k0.dom q hq) fq
        obtain ⟨a, vs, ev, rd, rk⟩ := (ArgOk.view k2 a1 hm).dk k2.le
        have k3 : Ok X.K p G1 H1 σ cs1 := k1.leave (vs := []) rfl k2 l1 rfl
        have f3 : Free σ cs1 q := Free.leave k1 (vs := []) rfl k2 rfl upd_same (k0.dom q hq) fq
        refine ⟨s1, a, vs, ev, ?_, rd, ?_⟩
        · subst ev; exact arg_ne f3 s2 a1 hm
        have k4 := k3.poke (o' := .dK (mergeK [] vs)) s1 s2 (k0.dom q hq) f3
        refine hk.r (blkP p G1 _ σ cs1) G1 _ σ cs1 _ _ _ (k4.enter []) h3 fun v2 G2 H2 k6 l2 a2 => ?_
        obtain ⟨s3, s4⟩ := k4.stays k6 upd_same s2 (k0.dom q hq) f3
        obtain ⟨b, ws, ev2, rd2, rk2⟩ := (ArgOk.view k6 a2 hn).dk k6.le
        have k8 : Ok X.K p G2 H2 σ cs' := k4.leave (vs := []) rfl k6 l2 rfl
        have f8 : Free σ cs' q := Free.leave k4 (vs := []) rfl k6 rfl upd_same (k0.dom q hq) f3
        have rm : RepK X.K G1 (dMerge [] m) (mergeK [] vs) := RepK.merge (by simp only [RepK]) rk
        refine ⟨s3, b, ws, ev2, ?_, rd2, by rw [rm.length, rk2.length]; exact hz, hQ _ _ _ (k8.poke s3 s4 (k0.dom q hq) f8) (l1.trans l2) ⟨q, _, rfl, upd_same, ⟨_, rfl, RepK.merge (rm.le l2) rk2⟩, s4, k0.dom q hq, f8⟩⟩
        subst ev2; exact arg_ne f8 s4 a2 hn
      · cases h4
end
end DS

set_option Elab.async false
set_option linter.all false
set_option maxRecDepth 100000
set_option maxHeartbeats 2000000
set_option autoImplicit false
/-! dict(zip(xs, ys)) of two tuples. The steps of zip's __next__ over tuples while the last pair is held are the library's steps for lists, turned to tuples. -/
namespace DS
open PySem PySem.Spec L2
open PySem.Sem (wp)
open PySem.W (KdxIt kdx_alive)
section
variable {prog : Program} {w : World} {A : Around} {E : Value → Shared → Prop} {s : Shared}
theorem zt_item {z TI TO T i1 i2 l1 l2 : Addr} {f : Bool} {oT : Obj} {k1 k2 : Nat} {xs ys : Array Value} {x y : Value} {Q : Value → Shared → Prop} (D : ZipApart z TI TO i1 i2 l1 l2)
    (hz : IsZipHeld s.heap z TI TO T f) (hT : s.heap.get? T = some oT) (hTI : IsPair s.heap TI (.ref i1) (.ref i2))
    (h1 : s.heap.IsTupleIter i1 l1 k1) (h2 : s.heap.IsTupleIter i2 l2 k2) (hl1 : s.heap.IsTuple l1 xs) (hl2 : s.heap.IsTuple l2 ys) (hx : xs[k1]? = some x) (hy : ys[k2]? = some y)
    (hQ : ∀ h', IsZipHeld h' z TI TO T true → h'.IsTupleIter i1 l1 (k1 + 1) → h'.IsTupleIter i2 l2 (k2 + 1) → IsPair h' s.heap.objs.size x y → h'.objs.size = s.heap.objs.size + 1 →
      (∀ c o, c ≠ z → c ≠ i1 → c ≠ i2 → s.heap.get? c = some o → h'.get? c = some o) → Q (.ref s.heap.objs.size) { s with heap := h' }) :
    wpAny (model prog w) A (Builtin.«zip.__next__» ⟨[.ref z], []⟩) (fun fin s' => ∃ v, fin = .done (.ret v) ∧ Q v s') E s := by
  show wpAny _ _ (field (.ref z) 2 >>= _) _ _ _
  refine wpAny_bind (wpAny_field hz rfl (x := .bool false) rfl ?_)
  show wpAny _ _ (field (.ref z) 3 >>= _) _ _ _
  refine wpAny_bind (wpAny_field hz rfl (x := .ref TI) rfl ?_)
  refine wpAny_bind (wpAny_seqItems hTI rfl ?_)
  show wpAny _ _ (Builtin.SmallTypes.ownedTupleIsFree (.ref z) >>= _) _ _ _
  refine wpAny_bind (wpAny_tupleHeld_zip hz hT fun h₁ hz₁ hs₁ => ?_)
  simp only [Bool.false_eq_true, if_false]
  refine wpAny_bind ?_
  rw [← Array.forIn_toList]
  simp only [List.forIn_cons, List.forIn_nil]
  refine wpAny_bind (wpAny_bind (wpAny_holding ?_))
  show wpAny _ _ (Builtin.SmallTypes.nextOf (.ref i1) >>= _) _ _ _
  refine wpAny_bind (RZ.nextOf_tuple_item (s := { s with heap := h₁ }) (h1.extBut hs₁.extBut D.i1z) (hl1.extBut hs₁.extBut D.l1z) hx fun h₂ h1₂ hs₂ => wpAny_pure ?_)
  refine wpAny_pure ?_
  refine wpAny_bind (wpAny_bind (wpAny_holding ?_))
  show wpAny _ _ (Builtin.SmallTypes.nextOf (.ref i2) >>= _) _ _ _
  refine wpAny_bind (RZ.nextOf_tuple_item (s := { s with heap := h₂ }) ((h2.extBut hs₁.extBut D.i2z).extBut hs₂.extBut D.i12.symm) ((hl2.extBut hs₁.extBut D.l2z).extBut hs₂.extBut D.l2i1) hy fun h₃ h2₃ hs₃ => wpAny_pure ?_)
  refine wpAny_pure (wpAny_pure ?_)
  show wpAny _ _ (newTuple [x, y] >>= _) _ _ _
  refine wpAny_bind (wpAny_newTuple ?_)
  have hsz : h₃.objs.size = s.heap.objs.size := by rw [hs₃.1, hs₂.1, hs₁.1]
  have hz₃ : IsZipHeld h₃ z TI TO T true := hs₃.extBut _ _ D.i2z.symm (hs₂.extBut _ _ D.i1z.symm hz₁)
  have hk : ∀ c o, c ≠ z → c ≠ i1 → c ≠ i2 → s.heap.get? c = some o → h₃.get? c = some o := fun c o c1 c2 c3 e => hs₃.extBut _ _ c3 (hs₂.extBut _ _ c2 (hs₁.extBut _ _ c1 e))
  have h1₃ : h₃.IsTupleIter i1 l1 (k1 + 1) := h1₂.extBut hs₃.extBut D.i12
  refine wpAny_pure ⟨_, rfl, ?_⟩
  show Q (.ref h₃.objs.size) _
  have hp : IsPair (h₃.push { cls := .type "tuple", data := .seq #[x, y] }) h₃.objs.size x y := Heap.get?_push_size _ rfl
  have hz4 : (h₃.push { cls := .type "tuple", data := .seq #[x, y] }).objs.size = h₃.objs.size + 1 := Heap.size_push ..
  rw [hsz] at hp hz4 ⊢
  exact hQ _ (Heap.get?_push_of_some _ hz₃) (h1₃.at fun o e => Heap.get?_push_of_some _ e) (h2₃.at fun o e => Heap.get?_push_of_some _ e) hp hz4 fun c o c1 c2 c3 e => Heap.get?_push_of_some _ (hk c o c1 c2 c3 e)

theorem zt_end {z TI TO T i1 i2 l1 l2 : Addr} {f : Bool} {oT : Obj} {k1 k2 : Nat} {xs ys : Array Value} {Q : PySem.Fin → Shared → Prop} (hh : A.handled = none) (D : ZipApart z TI TO i1 i2 l1 l2)
    (hz : IsZipHeld s.heap z TI TO T f) (hT : s.heap.get? T = some oT) (hTI : IsPair s.heap TI (.ref i1) (.ref i2))
    (h1 : s.heap.IsTupleIter i1 l1 k1) (h2 : s.heap.IsTupleIter i2 l2 k2) (hl1 : s.heap.IsTuple l1 xs) (hl2 : s.heap.IsTuple l2 ys) (hend : xs[k1]? = none ∨ ys[k2]? = none)
    (hE : ∀ h' e, (∀ c o, c ≠ z → c ≠ i1 → c ≠ i2 → s.heap.get? c = some o → h'.get? c = some o) → (∃ o, h'.get? e = some o ∧ o.cls = .type "StopIteration") → E (.ref e) { s with heap := h' }) :
    wpAny (model prog w) A (Builtin.«zip.__next__» ⟨[.ref z], []⟩) Q E s := by
  show wpAny _ _ (field (.ref z) 2 >>= _) _ _ _
  refine wpAny_bind (wpAny_field hz rfl (x := .bool false) rfl ?_)
  show wpAny _ _ (field (.ref z) 3 >>= _) _ _ _
  refine wpAny_bind (wpAny_field hz rfl (x := .ref TI) rfl ?_)
  refine wpAny_bind (wpAny_seqItems hTI rfl ?_)
  show wpAny _ _ (Builtin.SmallTypes.ownedTupleIsFree (.ref z) >>= _) _ _ _
  refine wpAny_bind (wpAny_tupleHeld_zip hz hT fun h₁ hz₁ hs₁ => ?_)
  simp only [Bool.false_eq_true, if_false]
  refine wpAny_bind ?_
  rw [← Array.forIn_toList]
  simp only [List.forIn_cons, List.forIn_nil]
  refine wpAny_bind (wpAny_bind (wpAny_holding ?_))
  show wpAny _ _ (Builtin.SmallTypes.nextOf (.ref i1) >>= _) _ _ _
  cases hx : xs[k1]? with
  | none =>
    refine wpAny_bind (RZ.nextOf_tuple_end (s := { s with heap := h₁ }) hh (h1.extBut hs₁.extBut D.i1z) (hl1.extBut hs₁.extBut D.l1z) hx fun h₂ e hs₂ he => ?_)
    exact hE h₂ e (fun c o c1 c2 _ x => hs₂ _ _ c2 (hs₁.extBut _ _ c1 x)) he
  | some x =>
    have hy : ys[k2]? = none := by rcases hend with h | h; rw [hx] at h; cases h; exact h
    refine wpAny_bind (RZ.nextOf_tuple_item (s := { s with heap := h₁ }) (h1.extBut hs₁.extBut D.i1z) (hl1.extBut hs₁.extBut D.l1z) hx fun h₂ h1₂ hs₂ => wpAny_pure ?_)
    refine wpAny_pure ?_
    refine wpAny_bind (wpAny_bind (wpAny_holding ?_))
    show wpAny _ _ (Builtin.SmallTypes.nextOf (.ref i2) >>= _) _ _ _
    refine wpAny_bind (RZ.nextOf_tuple_end (s := { s with heap := h₂ }) hh ((h2.extBut hs₁.extBut D.i2z).extBut hs₂.extBut D.i12.symm) ((hl2.extBut hs₁.extBut D.l2z).extBut hs₂.extBut D.l2i1) hy fun h₃ e hs₃ he => ?_)
    exact hE h₃ e (fun c o c1 c2 c3 x => hs₃ _ _ c3 (hs₂.extBut _ _ c2 (hs₁.extBut _ _ c1 x))) he

theorem zt_next {z TI TO T i1 i2 l1 l2 : Addr} {f : Bool} {oT : Obj} {k1 k2 : Nat} {xs ys : Array Value} {x y : Value} {Q : Option Value → Shared → Prop} (D : ZipApart z TI TO i1 i2 l1 l2)
    (hz : IsZipHeld s.heap z TI TO T f) (hT : s.heap.get? T = some oT) (hTI : IsPair s.heap TI (.ref i1) (.ref i2))
    (h1 : s.heap.IsTupleIter i1 l1 k1) (h2 : s.heap.IsTupleIter i2 l2 k2) (hl1 : s.heap.IsTuple l1 xs) (hl2 : s.heap.IsTuple l2 ys) (hx : xs[k1]? = some x) (hy : ys[k2]? = some y)
    (hQ : ∀ h', IsZipHeld h' z TI TO T true → h'.IsTupleIter i1 l1 (k1 + 1) → h'.IsTupleIter i2 l2 (k2 + 1) → IsPair h' s.heap.objs.size x y → h'.objs.size = s.heap.objs.size + 1 →
      (∀ c o, c ≠ z → c ≠ i1 → c ≠ i2 → s.heap.get? c = some o → h'.get? c = some o) → Q (some (.ref s.heap.objs.size)) { s with heap := h' }) :
    wpAny (model prog w) A (pyNext (.ref z)) Q E s := by
  have hTy : s.TypeIs (.ref z) "zip" := ⟨_, hz, rfl⟩
  unfold pyNext
  exact wpAny_bind (wpAny_attempt (wpAny_callSpecial?_slot (name := Str.ofString "__next__") hTy F.slot_zip_next
    (wpAny_call_entry F.slot_zip_next hTy F.entry_zip_next
      (zt_item D hz hT hTI h1 h2 hl1 hl2 hx hy fun h' a1 a3 a4 a5 a6 a7 => wpAny_pure (hQ h' a1 a3 a4 a5 a6 a7)) (F.args_zip_next_1 _))))
theorem zt_stop {z TI TO T i1 i2 l1 l2 : Addr} {f : Bool} {oT : Obj} {k1 k2 : Nat} {xs ys : Array Value} {Q : Option Value → Shared → Prop} (hh : A.handled = none) (D : ZipApart z TI TO i1 i2 l1 l2)
    (hz : IsZipHeld s.heap z TI TO T f) (hT : s.heap.get? T = some oT) (hTI : IsPair s.heap TI (.ref i1) (.ref i2))
    (h1 : s.heap.IsTupleIter i1 l1 k1) (h2 : s.heap.IsTupleIter i2 l2 k2) (hl1 : s.heap.IsTuple l1 xs) (hl2 : s.heap.IsTuple l2 ys) (hend : xs[k1]? = none ∨ ys[k2]? = none)
    (hQ : ∀ h', (∀ c o, c ≠ z → c ≠ i1 → c ≠ i2 → s.heap.get? c = some o → h'.get? c = some o) → Q none { s with heap := h' }) : wpAny (model prog w) A (pyNext (.ref z)) Q E s := by
  have hTy : s.TypeIs (.ref z) "zip" := ⟨_, hz, rfl⟩
  unfold pyNext
  refine wpAny_bind (wpAny_attempt (wpAny_callSpecial?_slot (name := Str.ofString "__next__") hTy F.slot_zip_next
    (wpAny_call_entry F.slot_zip_next hTy F.entry_zip_next (zt_end hh D hz hT hTI h1 h2 hl1 hl2 hend fun h' e hk he => ?_) (F.args_zip_next_1 _))))
  obtain ⟨o, ho, hc⟩ := he
  refine wpAny_bind (wpAny_isInstance (T := "StopIteration") (b := true) ⟨o, ho, hc⟩ isSubtype_stop ?_)
  exact wpAny_pure (hQ _ hk)
end
section
variable {prog : Program} {w : World}
theorem zt_arg (z TI TO i1 i2 l1 l2 : Addr) (D : ZipApart z TI TO i1 i2 l1 l2) (xs ys : Array Value) :
    PairArg prog w "zip" z [z, TI, TO, i1, i2, l1, l2] [z, TO, i1, i2] (min xs.size ys.size) (fun i k v => xs[i]? = some k ∧ ys[i]? = some v)
      (fun h => IsZip h z TI TO .none ∧ IsPair h TI (.ref i1) (.ref i2) ∧ (∃ a b, IsPair h TO a b) ∧ h.IsTupleIter i1 l1 0 ∧ h.IsTupleIter i2 l2 0 ∧ h.IsTuple l1 xs ∧ h.IsTuple l2 ys) where
  type := fun s ok => ⟨_, ok.1, rfl⟩
  notDict := by decide
  keep := fun h h' ok hk => by
    obtain ⟨hz, hTI, ⟨a, b, hTO⟩, h1, h2, hl1, hl2⟩ := ok
    exact ⟨hk _ _ hz, hk _ _ hTI, ⟨a, b, hk _ _ hTO⟩, h1.at fun o e => hk _ o e, h2.at fun o e => hk _ o e, hl1.at fun o e => hk _ o e, hl2.at fun o e => hk _ o e⟩
  there := fun h ok b hb => by
    obtain ⟨hz, hTI, ⟨a, c, hTO⟩, ⟨o1, h1, _⟩, ⟨o2, h2, _⟩, ⟨o3, hl1, _⟩, ⟨o4, hl2, _⟩⟩ := ok
    simp only [List.mem_cons, List.not_mem_nil, or_false] at hb
    rcases hb with rfl | rfl | rfl | rfl | rfl | rfl | rfl
    all_goals first | exact ⟨_, hz⟩ | exact ⟨_, hTI⟩ | exact ⟨_, hTO⟩ | exact ⟨_, h1⟩ | exact ⟨_, h2⟩ | exact ⟨_, hl1⟩ | exact ⟨_, hl2⟩
  sub := fun b hb => by simp at hb ⊢; rcases hb with rfl | rfl | rfl | rfl <;> simp
  noKeys := fun A s Q E hA ok h => getAttrOr_miss_zip ok.1 rfl rfl rfl zip_no_keys (by decide +kernel) hA h
  iter := fun A s d Q E hA ok hd hdf h => by
    obtain ⟨hz, hTI, ⟨a, b, hTO⟩, h1, h2, hl1, hl2⟩ := ok
    simp only [List.mem_cons, List.not_mem_nil, or_false, not_or] at hdf
    obtain ⟨dz, dTI, dTO, di1, di2, dl1, dl2⟩ := hdf
    refine wpAny_pyIter_zip hz (h z [z, TO, i1, i2] (fun i h => IsPair h TI (.ref i1) (.ref i2) ∧ h.IsTupleIter i1 l1 i ∧ h.IsTupleIter i2 l2 i ∧ h.IsTuple l1 xs ∧ h.IsTuple l2 ys ∧
      ((IsZip h z TI TO .none ∧ ∃ a b, IsPair h TO a b) ∨ ∃ T f oT, IsZipHeld h z TI TO T f ∧ h.get? T = some oT ∧ T ≠ z ∧ T ≠ i1 ∧ T ≠ i2 ∧ T ≠ d)) s.heap s.toks ?_
      ⟨hTI, h1, h2, hl1, hl2, .inl ⟨hz, a, b, hTO⟩⟩ (fun _ _ e => e) fun b hb => .inl hb)
    exact {
      off := fun hm => by
        simp only [List.mem_cons, List.not_mem_nil, or_false] at hm
        rcases hm with e | e | e | e
        · exact dz e
        · exact dTO e
        · exact di1 e
        · exact di2 e
      frame := fun i h₁ h₂ st hk => by
        obtain ⟨hTI, h1, h2, hl1, hl2, hz⟩ := st
        refine ⟨hk _ _ (Ne.symm dTI) hTI, h1.at fun o e => hk _ o (Ne.symm di1) e, h2.at fun o e => hk _ o (Ne.symm di2) e, hl1.at fun o e => hk _ o (Ne.symm dl1) e, hl2.at fun o e => hk _ o (Ne.symm dl2) e, ?_⟩
        rcases hz with ⟨hz, a, b, hTO⟩ | ⟨T, f, oT, hz, hT, r1, r2, r3, r4⟩
        · exact .inl ⟨hk _ _ (Ne.symm dz) hz, a, b, hk _ _ (Ne.symm dTO) hTO⟩
        · exact .inr ⟨T, f, oT, hk _ _ (Ne.symm dz) hz, hk _ _ r4 hT, r1, r2, r3, r4⟩
      item := fun i s₁ Q₁ E₁ hi st hds hQ => by
        obtain ⟨hTI, h1, h2, hl1, hl2, hz⟩ := st
        have hix : i < xs.size := Nat.lt_of_lt_of_le hi (Nat.min_le_left ..)
        have hiy : i < ys.size := Nat.lt_of_lt_of_le hi (Nat.min_le_right ..)
        have ex := Array.getElem?_eq_getElem hix
        have ey := Array.getElem?_eq_getElem hiy
        have lt : ∀ {c o}, s₁.heap.get? c = some o → s₁.heap.objs.size ≠ c := fun e => Nat.ne_of_gt (Heap.lt_size e)
        have n1 : s₁.heap.objs.size ≠ i1 := let ⟨_, e, _⟩ := h1; lt e
        have n2 : s₁.heap.objs.size ≠ i2 := let ⟨_, e, _⟩ := h2; lt e
        rcases hz with ⟨hz, a, b, hTO⟩ | ⟨T, f, oT, hz, hT, r1, r2, r3, r4⟩
        · refine RZ.pyNext_zipT_item D hz hTI hTO h1 h2 hl1 hl2 ex ey fun h' a1 a2 a3 a4 a5 a6 hk => ?_
          exact hQ s₁.heap.objs.size _ _ h' s₁.toks ⟨ex, ey⟩ (.inl ⟨_, a5, rfl, _, rfl⟩)
            ⟨hk _ _ D.TIz D.TITO D.TIi1 D.TIi2 hTI, a3, a4, hl1.at fun o e => hk _ o D.l1z D.l1TO D.l1i1 D.l1i2 e, hl2.at fun o e => hk _ o D.l2z D.l2TO D.l2i1 D.l2i2 e,
              .inr ⟨s₁.heap.objs.size, false, _, a1, a5, lt hz, n1, n2, Nat.ne_of_gt hds⟩⟩
            fun c o hc e => hk c o (fun x => hc (by simp [x])) (fun x => hc (by simp [x])) (fun x => hc (by simp [x])) (fun x => hc (by simp [x])) e
        · refine zt_next D hz hT hTI h1 h2 hl1 hl2 ex ey fun h' a1 a3 a4 a5 a6 hk => ?_
          exact hQ s₁.heap.objs.size _ _ h' s₁.toks ⟨ex, ey⟩ (.inl ⟨_, a5, rfl, _, rfl⟩)
            ⟨hk _ _ D.TIz D.TIi1 D.TIi2 hTI, a3, a4, hl1.at fun o e => hk _ o D.l1z D.l1i1 D.l1i2 e, hl2.at fun o e => hk _ o D.l2z D.l2i1 D.l2i2 e,
              .inr ⟨T, true, oT, a1, hk _ _ r1 r2 r3 hT, r1, r2, r3, r4⟩⟩
            fun c o hc e => hk c o (fun x => hc (by simp [x])) (fun x => hc (by simp [x])) (fun x => hc (by simp [x])) e
      done := fun s₁ Q₁ E₁ st hQ => by
        obtain ⟨hTI, h1, h2, hl1, hl2, hz⟩ := st
        have hend : xs[min xs.size ys.size]? = none ∨ ys[min xs.size ys.size]? = none := by
          rcases Nat.le_total xs.size ys.size with h | h
          · exact .inl (Array.getElem?_eq_none (by rw [Nat.min_eq_left h]; exact Nat.le_refl _))
          · exact .inr (Array.getElem?_eq_none (by rw [Nat.min_eq_right h]; exact Nat.le_refl _))
        rcases hz with ⟨hz, a, b, hTO⟩ | ⟨T, f, oT, hz, hT, r1, r2, r3, r4⟩
        · exact RZ.pyNext_zipT_end hA D hz hTI hTO h1 h2 hl1 hl2 hend fun h' hk => hQ h' s₁.toks fun c o hc e => hk c o (fun x => hc (by simp [x])) (fun x => hc (by simp [x])) (fun x => hc (by simp [x])) (fun x => hc (by simp [x])) e
        · exact zt_stop hA D hz hT hTI h1 h2 hl1 hl2 hend fun h' hk => hQ h' s₁.toks fun c o hc e => hk c o (fun x => hc (by simp [x])) (fun x => hc (by simp [x])) (fun x => hc (by simp [x])) e }
end
theorem vals_at {i : Nat} {v : V} : ∀ {vs : List V} {us : List Value}, Vals vs us → vs[i]? = some v → ∃ u, us[i]? = some u ∧ RelV v u := by
  intro vs us r
  induction r generalizing i with
  | nil => intro e; cases e
  | cons h t ih =>
    intro e
    cases i with
    | zero => cases e; exact ⟨_, rfl, h⟩
    | succ i => exact ih e
theorem kv_zip {ys : List V} {us : List Value} (r : Vals ys us) : ∀ {ks : List Key}, KV (ks.zip ys) (ks.zip us) := by
  induction r with
  | nil => intro ks; cases ks <;> exact .nil
  | cons h t ih =>
    intro ks
    cases ks with
    | nil => exact .nil
    | cons k ks => exact .cons ⟨rfl, h⟩ ih
section
variable {X : Cx}
/-- dict(zip(e, f)) over two tuples -/
def tDictZip (ta : TA) (K : PySem.W.Frag) : TE := fun σ H Q => ta σ H fun vs H1 => ∃ (a b : Addr) (ks : List Key) (ys : List V), vs = [.ref a, .ref b] ∧ SqT K H1 a (ks.map kV) ∧ SqT K H1 b ys ∧ ∀ p, H1 p = none → Q (.ref p) (upd H1 p (.dK (mergeK [] (ks.zip ys))))
theorem pe_dictzip {e f : Expr} {ta : TA} {p q pos zpos : Pos} (hcalm : X.calm = true) (hd : Gl X "dict") (hdm : X.mg "dict" = none) (hg : Gl X "zip") (hm : X.mg "zip" = none) (ha : PA X [e, f] ta)
    (hs : starEach [e, f] X.env = (false, eval e X.env) :: starEach [f] X.env := by rfl) (hpl : (backTo zpos (starEach [f] X.env)).any (·.1) = false := by rfl) :
    PE X (.Call (.Name "dict" p) [.Call (.Name "zip" q) [e, f] [] zpos] [] pos) (tDictZip ta X.K) := by
  refine ⟨fun pins s σ H Q I h => ?_⟩
  refine PyProof.Rows.Call_ (ld_blt I hd hdm PyProof.Rows.boot_dict (PyProof.Rows.callWith_type1 ?_ rfl rfl))
  show wpAny _ _ (spliced [(false, eval (.Call (.Name "zip" q) [e, f] [] zpos) X.env)]) _ _ _
  unfold spliced
  refine wpAny_bind ?_
  refine PyProof.Rows.Call_ (ld_blt I hg hm PyProof.Rows.boot_zip (PyProof.Rows.callWith_type1 (thn (ha.run zpos pins s σ H _ I h) fun us s1 ⟨vs, H1, I1, r1, q1⟩ => ?_) hs hpl))
  obtain ⟨a, b, ks, ys, ex, ta, tb, q1⟩ := q1
  subst ex
  cases r1 with
  | cons r rr =>
    cases rr with
    | cons r' rr =>
      cases rr
      cases r
      cases r'
      obtain ⟨its, rv, p1, z1⟩ := I1.tuple ta
      obtain ⟨its2, rv2, p2, z2⟩ := I1.tuple tb
      obtain ⟨o1, ho1, _⟩ := id p1
      obtain ⟨o2, ho2, _⟩ := id p2
      refine RZ.call_zipT (show s1.heap.IsTuple a its.toArray from p1) (show s1.heap.IsTuple b its2.toArray from p2) fun h' hz hTI hTO h1 h2 hsz hk => ?_
      simp only [Bool.false_eq_true, if_false, spliced, pure_bind]
      refine wpAny_bind (wpAny_pure (wpAny_pure ?_))
      have n1 : its.length = ks.length := by rw [← rv.length, List.length_map]
      have n2 : its2.length = ys.length := by rw [← rv2.length]
      have hz1 : its.length ≤ sizeLine := by rw [n1]; rw [List.length_map] at z1; exact z1
      have kk : ∀ b o, s1.heap.get? b = some o → h'.get? b = some o := hk
      refine PySem.call_dict_pairs (s := { s1 with heap := h' }) (knd := mixKind X.prog X.w) (kvs := ks.zip its2) (zt_arg _ _ _ _ _ _ _ (PySem.W.ktu_apart s1.heap.objs.size a b (Heap.lt_size ho1) (Heap.lt_size ho2)) its.toArray its2.toArray) (I1.ok.hd hcalm)
        ⟨hz, hTI, ⟨_, _, hTO⟩, h1, h2, (show Heap.IsTuple h' a its.toArray from PyProof.Rows.IsTup.keeps (h' := h') p1 kk), (show Heap.IsTuple h' b its2.toArray from PyProof.Rows.IsTup.keeps (h' := h') p2 kk)⟩ ⟨by simp [n1], fun i key v ⟨e1, e2⟩ => ?_⟩ (by simp only [List.size_toArray]; omega) fun h'' tk hd' hk' => ?_
      · have e1' : its[i]? = some key := by simpa using e1
        have e2' : its2[i]? = some v := by simpa using e2
        have hi : i < ks.length := by rw [← n1]; exact (List.getElem?_eq_some_iff.mp e1').1
        have ek : (ks.map kV)[i]? = some (kV ks[i]) := by rw [List.getElem?_map, List.getElem?_eq_getElem hi]; rfl
        obtain ⟨u, eu, ru⟩ := vals_at rv ek
        rw [e1'] at eu
        cases eu
        exact ⟨ks[i], by rw [List.getElem?_zip_eq_some]; exact ⟨List.getElem?_eq_getElem hi, e2'⟩, kV_is ru⟩
      · have hlt : ∀ b o, s1.heap.get? b = some o → h''.get? b = some o := fun b o e => hk' b o (fun hm => by
          have := Heap.lt_size e
          simp only [List.mem_cons, List.not_mem_nil, or_false] at hm
          rcases hm with z | z | z | z <;> rw [z] at this <;> exact absurd this (Nat.not_lt.mpr (by first | exact Nat.le_refl _ | exact Nat.le_add_right _ _))) (kk b o e)
        have hp : s1.heap.objs.size ≤ h'.objs.size := by rw [hsz]; exact Nat.le_add_right _ _
        have rel : KV (ks.zip ys) (ks.zip its2) := kv_zip rv2
        have hm : (h'.objs.size == sysModules) = false := beq_eq_false_iff_ne.mpr (Nat.ne_of_gt (Nat.lt_of_lt_of_le I1.big hp))
        have hlen : (mergeK [] (ks.zip ys)).length ≤ sizeLine := by
          refine Nat.le_trans (length_mergeK _ []) ?_
          rw [List.length_nil, Nat.zero_add, List.length_zip]
          omega
        exact ⟨.ref h'.objs.size, upd H1 h'.objs.size (.dK (mergeK [] (ks.zip ys))), I1.laid (t' := tk) hlt hp (show ObjOk X.prog X.w _ _ _ (.dK (mergeK [] (ks.zip ys))) from ⟨hlen, hm, merged [] (ks.zip its2), KV.merge rel .nil, hd'⟩), rfl, q1 _ (I1.hok.fresh hp)⟩
end
end DS

set_option Elab.async false
set_option linter.all false
set_option maxRecDepth 100000
set_option maxHeartbeats 2000000
set_option autoImplicit false
namespace DS
open PySem PySem.Spec L2
open PySem.W (EachIs dataLe alike alikeAll AllAlike Sortable)

/-! ### sorted of alike data -/
def pd (x : D) : PyData := (pyD x).getD .none
def isTup1 : PyData → Bool
  | .tuple (_ :: _) => true
  | _ => false
def isFlat : PyData → Bool
  | .none => false
  | .tuple _ => false
  | _ => true
/-- the data can be sorted -/
def srtOk (xs : List D) : Bool := xs.all (fun x => (pyD x).isSome && decide ((pd x).depth ≤ 60)) && (xs.all fun x => xs.all fun y => alike (pd x) (pd y)) && ((xs.all fun x => isTup1 (pd x)) || (xs.all fun x => isFlat (pd x)))
noncomputable def srtD (xs : List D) : List D := xs.mergeSort (dataLe false pd)
noncomputable def oSortL (xs : List D) : Option Res := if xs.length < 2 then some (.o (.l xs)) else if srtOk xs = true then some (.o (.l (srtD xs))) else none
noncomputable def oSorted : List D → Option Res
  | [.lst xs] => oSortL xs
  | _ => none
theorem srtOk_inv {xs : List D} (h : srtOk xs = true) : (∀ x ∈ xs, pyD x = some (pd x)) ∧ (∀ x ∈ xs, (pd x).depth ≤ 60) ∧ AllAlike (xs.map pd) ∧ Sortable (xs.map pd) := by
  unfold srtOk at h
  simp only [Bool.and_eq_true, Bool.or_eq_true, List.all_eq_true, decide_eq_true_eq] at h
  obtain ⟨⟨h1, h2⟩, h3⟩ := h
  refine ⟨fun x hx => ?_, fun x hx => (h1 x hx).2, ?_, ?_⟩
  · have := (h1 x hx).1
    unfold pd
    cases e : pyD x with
    | none => rw [e] at this; cases this
    | some y => rfl
  · intro d hd d' hd'
    obtain ⟨b, hb, rfl⟩ := List.mem_map.mp hd
    obtain ⟨b', hb', rfl⟩ := List.mem_map.mp hd'
    exact h2 b hb b' hb'
  · rcases h3 with h3 | h3
    · left
      intro d hd
      obtain ⟨b, hb, rfl⟩ := List.mem_map.mp hd
      have := h3 b hb
      unfold isTup1 at this
      split at this
      · rename_i x r e; exact ⟨x, r, e⟩
      · cases this
    · right
      intro d hd
      obtain ⟨b, hb, rfl⟩ := List.mem_map.mp hd
      have := h3 b hb
      unfold isFlat at this
      split at this
      · cases this
      · cases this
      · rename_i n1 n2
        exact ⟨n1, n2⟩
def rSortD (K : PySem.W.Frag) : List V → Hp → VK → Prop := fun vs H Q => ∃ (a : Addr) (ys : List V) (xs : List D) (G : Hp), vs = [V.ref a] ∧ SqL K H a ys ∧ Reps K G xs ys ∧ Le G H ∧
  ((xs.length < 2 ∧ ∀ p, H p = none → Q (.ref p) (upd H p (.lst ys))) ∨ (srtOk xs = true ∧ ∀ ys' p, Reps K G (srtD xs) ys' → H p = none → Q (.ref p) (upd H p (.lst ys'))))
theorem reps_each {K : PySem.W.Frag} {G : Hp} : ∀ {xs : List D} {ys : List V} {us : List Value}, Reps K G xs ys → Vals ys us → EachIs (fun u x => ∃ v, RelV v u ∧ Rep K G x v) us xs
  | [], _, us, h, r => by
    rw [h.nil_inv] at r
    cases r
    exact .nil
  | x :: xs, _, us, h, r => by
    obtain ⟨v, q, rfl, h1, h2⟩ := h.cons_inv
    cases r with
    | cons a b => exact .cons ⟨v, a, h1⟩ (reps_each h2 b)
theorem each_reps {K : PySem.W.Frag} {G : Hp} : ∀ {xs : List D} {us : List Value}, EachIs (fun u x => ∃ v, RelV v u ∧ Rep K G x v) us xs → ∃ ys, Vals ys us ∧ Reps K G xs ys
  | _, _, .nil => ⟨[], .nil, .nil⟩
  | _, _, .cons ⟨v, r, h⟩ t => by
    obtain ⟨ys, a, b⟩ := each_reps t
    exact ⟨v :: ys, .cons r a, .cons h b⟩
section
variable {X : Cx}
theorem each_reads {pins : List (Addr × Obj)} {σ : L2.St} {H G : Hp} {s : Shared} (I : Inv X pins σ H s) (l : Le G H) : ∀ {xs : List D} {ys : List V} {us : List Value}, (∀ x ∈ xs, pyD x = some (pd x)) → Reps X.K G xs ys → Vals ys us → EachIs (fun u x => ∃ as, Reads s.heap u (pd x) as) us xs
  | [], _, us, _, h, r => by
    rw [h.nil_inv] at r
    cases r
    exact .nil
  | x :: xs, _, us, q, h, r => by
    obtain ⟨v, z, rfl, h1, h2⟩ := h.cons_inv
    cases r with
    | cons a b => exact .cons (Dp.reads I _ _ _ (h1.dp l (q x List.mem_cons_self)) a) (each_reads I l (fun y hy => q y (List.mem_cons_of_mem _ hy)) h2 b)
theorem cr_sortD (hu : X.A.units + 65 < cLine) : CallR X (.builtin "sorted") (rSortD X.K) := by
  intro pins s σ H vs us Q I r h
  obtain ⟨a, ys, xs, G, rfl, hs, rp, l, h⟩ := h
  obtain ⟨its, rv, hl, hz⟩ := I.list hs
  rw [Vals.ref1 r]
  rcases h with ⟨h2, q⟩ | ⟨ho, q⟩
  · have n2 : its.length < 2 := by rw [← rv.length, rp.len]; exact h2
    refine SrtO.sorted_ord (ltv := fun _ _ => false) ⟨fun _ _ h => (nomatch h), fun _ _ _ _ _ => rfl⟩ hl.isList (by rw [← rv.length]; exact hz) (fun h2 => by omega) fun out h1 h2 => ?_
    have e : out = its := by
      have p := h2.perm
      match its, n2, p with
      | [], _, p => exact p.eq_nil
      | [x], _, p => exact List.perm_singleton.mp p
      | _ :: _ :: _, h, _ => simp at h; omega
    subst e
    obtain ⟨ep, he'⟩ := PyProof.Rows.sortedAll_at s.heap out out.toArray
    exact ⟨.ref _, upd H (s.heap.objs.size + 1) (.lst ys), I.laid (t' := s.toks) (fun _ _ => PyProof.Rows.sortedAll_old) (Nat.le_succ _) ⟨hz, out, ep, rv, he'⟩, rfl, q _ (I.hok.fresh (Nat.le_succ _))⟩
  · obtain ⟨o1, o2, o3, o4⟩ := srtOk_inv ho
    refine PySem.W.sorted_data (enc := pd) (bs := xs) hl.isList (reps_each rp rv) (each_reads I l o1 rp rv) o3 o4 (by rw [← rp.len]; exact hz) (fun b hb => by have := o2 b hb; omega) fun out hlen e => ?_
    obtain ⟨ys', rv', rp'⟩ := each_reps e
    obtain ⟨ep, he'⟩ := PyProof.Rows.sortedAll_at s.heap its out.toArray
    have hz' : ys'.length ≤ sizeLine := by rw [rv'.length, hlen, ← rp.len]; exact hz
    exact ⟨.ref _, upd H (s.heap.objs.size + 1) (.lst ys'), I.laid (t' := s.toks) (fun _ _ => PyProof.Rows.sortedAll_old) (Nat.le_succ _) ⟨hz', out, ep, rv', he'⟩, rfl, q ys' _ rp' (I.hok.fresh (Nat.le_succ _))⟩
theorem sortD_ok : OpN X (rSortD X.K) oSorted := by
  intro p G H σ cs xs vs z Q k r h n
  unfold oSorted at h
  split at h
  · rename_i xs
    unfold oSortL at h
    obtain ⟨v, rfl, rv⟩ := r.one_inv
    obtain ⟨a, us, rfl, h1, h2⟩ := rv.lst k.le
    split at h
    · rename_i hl
      cases h
      exact ⟨a, us, xs, G, rfl, SqL.of h1, h2, k.le, .inl ⟨hl, fun q hq => n.new k hq ⟨us, rfl, h2⟩⟩⟩
    · split at h
      · rename_i ho
        cases h
        exact ⟨a, us, xs, G, rfl, SqL.of h1, h2, k.le, .inr ⟨ho, fun ys' q rp hq => n.new k hq ⟨ys', rfl, rp⟩⟩⟩
      · cases h
  · cases h
end
end DS

set_option Elab.async false
set_option linter.all false
set_option maxRecDepth 100000
set_option maxHeartbeats 2000000
set_option autoImplicit false
namespace DS
open PySem PySem.Spec L2

/-! ### dict(zip(xs, ys)) of tuples -/
def keysD : List D → Option (List Key)
  | [] => some []
  | x :: xs => match dKey x, keysD xs with
    | some k, some ks => some (k :: ks)
    | _, _ => none
def oDictZip : List D → Option Res
  | [.tup xs, .tup ys] => match keysD xs with
    | some ks => some (.o (.k (dMerge [] (ks.zip ys))))
    | none => none
  | _ => none
section
variable {K : PySem.W.Frag} {G : Hp}
theorem keysD_rep : ∀ {xs : List D} {vs : List V} {ks : List Key}, Reps K G xs vs → keysD xs = some ks → vs = ks.map kV
  | [], _, _, h, e => by simp only [keysD] at e; cases e; rw [h.nil_inv]; rfl
  | x :: xs, _, _, h, e => by
    obtain ⟨v, r, rfl, h1, h2⟩ := h.cons_inv
    simp only [keysD] at e
    split at e
    · rename_i k ks e1 e2
      cases e
      rw [keysD_rep h2 e2, dKey_rep (H := G) e1 (.inl h1)]
      rfl
    · cases e
theorem RepK.zip : ∀ {ys : List D} {us : List V} (ks : List Key), Reps K G ys us → RepK K G (ks.zip ys) (ks.zip us)
  | [], _, ks, h => by rw [h.nil_inv]; simp [RepK]
  | y :: ys, _, [], h => by simp [RepK]
  | y :: ys, _, k :: ks, h => by
    obtain ⟨v, r, rfl, h1, h2⟩ := h.cons_inv
    simp only [List.zip_cons_cons, RepK]
    exact ⟨v, _, rfl, h1, RepK.zip ks h2⟩
end
section
variable {X : Cx} {p0 q0 pos zpos : Pos} {e f : Expr} {fs : M (List Res)}
theorem ev_dictzip (hcalm : X.calm = true) (hd : Gl X "dict") (hdm : X.mg "dict" = none) (hg : Gl X "zip") (hm : X.mg "zip" = none) (ha : EvX X [e, f] fs)
    (hs : starEach [e, f] X.env = (false, eval e X.env) :: starEach [f] X.env := by rfl) (hpl : (backTo zpos (starEach [f] X.env)).any (·.1) = false := by rfl) :
    EvE X (.Call (.Name "dict" p0) [.Call (.Name "zip" q0) [e, f] [] zpos] [] pos) (fn fs oDictZip) := by
  intro p G H σ cs z cs' Q k hf hQ
  refine ⟨_, pe_dictzip hcalm hd hdm hg hm pa_any hs hpl, ?_⟩
  obtain ⟨rs, cs1, h1, h2⟩ := bnd_inv hf
  obtain ⟨xs, cs2, h3, h4⟩ := bnd_inv h2
  obtain ⟨h5, rfl⟩ := vws_inv h3
  obtain ⟨h6, rfl⟩ := lft_inv h4
  refine ha p G H σ cs _ _ _ k h1 fun vs G1 H1 k1 l1 a1 => ?_
  have rv := a1.views k1 h5
  unfold oDictZip at h6
  split at h6
  · rename_i xs ys
    split at h6
    · rename_i ks ek
      cases h6
      obtain ⟨v, w, rfl, rv1, rv2⟩ := rv.two_inv
      obtain ⟨a, us, rfl, t1, r1⟩ := rv1.tup k1.le
      obtain ⟨b, ws, rfl, t2, r2⟩ := rv2.tup k1.le
      refine ⟨a, b, ks, ws, rfl, by rw [← keysD_rep r1 ek]; exact t1, t2, fun q hq => ?_⟩
      have := k1.resNew (c := .k (dMerge [] (ks.zip ys))) (ho := .dK (mergeK [] (ks.zip ws))) hq ⟨_, rfl, RepK.merge (by simp only [RepK]) (RepK.zip ks r2)⟩
      exact hQ _ _ _ this.1 l1 this.2
    · cases h6
  · cases h6

/-! ### d.get -/
def oGet1 : List D → Option Res
  | [.dk m, x] => match dKey x with
    | some k => some (.d ((dGet m k).getD .non))
    | none => none
  | _ => none
def oGet2 : List D → Option Res
  | [.dk m, x, y] => match dKey x with
    | some k => some (.d ((dGet m k).getD y))
    | none => none
  | _ => none
/-- a method that reads: the object, then its arguments -/
def rdM (f : M Res) (fs : M (List Res)) (op : List D → Option Res) : M Res := bnd (asR f) fun r => bnd (vw r) fun _ => bnd fs fun rs => bnd (vws (r :: rs)) fun xs => lft (op xs)
theorem isD_view {K : PySem.W.Frag} {G H : Hp} {m : List (Key × D)} {v : V} (l : Le G H) (h : VRep K G H (.dk m) v) : ∃ a, v = .ref a ∧ IsD H a := by
  obtain ⟨a, vs, rfl, h1, _⟩ := h.dk l
  exact ⟨a, rfl, .inl ⟨vs, h1⟩⟩
def dkq (r : Res) : M Unit := fun cs => match dkOf (view cs r) with
  | some _ => some ((), cs)
  | none => none
def get1 (f g : M Res) : M Res := bnd (asR f) fun r => bnd (dkq r) fun _ => bnd (asR g) fun r2 => bnd (vws [r, r2]) fun xs => lft (oGet1 xs)
def get2 (f g h : M Res) : M Res := bnd (asR f) fun r => bnd (dkq r) fun _ => bnd (asR g) fun r2 => bnd (asD h) fun y => bnd (vws [r, r2]) fun xs => lft (oGet2 (xs ++ [y]))
theorem dkq_inv {r : Res} {cs cs' : Cs} {u : Unit} (h : dkq r cs = some (u, cs')) : (∃ m, view cs r = some (.dk m)) ∧ cs' = cs := by
  unfold dkq at h
  cases e : dkOf (view cs r) with
  | none => rw [e] at h; cases h
  | some m => rw [e] at h; cases h; exact ⟨⟨m, dkOf_some e⟩, rfl⟩
theorem VReps.two {K : PySem.W.Frag} {G H : Hp} {x y : D} {v w : V} (h : VRep K G H x v) (h2 : VRep K G H y w) : VReps K G H [x, y] [v, w] := ⟨v, [w], rfl, h, w, [], rfl, h2, rfl⟩
theorem views_two {cs : Cs} {r r2 : Res} {xs : List D} (h : views cs [r, r2] = some xs) : ∃ x y, xs = [x, y] := by
  simp only [views] at h
  split at h
  · split at h
    · cases h; rename_i x _ ys e
      split at e
      · cases e; exact ⟨_, _, rfl⟩
      · cases e
    · cases h
  · cases h
variable {o e1 e2 : Expr} {apos cpos : Pos} {fo f1 f2 : M Res}
theorem arg_le {K : PySem.W.Frag} {G G' : Hp} {σ : L2.St} {r : Res} {v : V} (l : Le G G') (h : ArgOk K G σ v r) : ArgOk K G' σ v r := h.le l
theorem ev_get1 (hu : X.A.units + 65 < cLine) (ho : EvE X o fo) (h1 : EvE X e1 f1) (m : M1 X o "get" apos e1 cpos) : EvE X (.Call (.Attribute o "get" apos) [e1] [] cpos) (get1 fo f1) := by
  intro p G H σ cs z cs' Q k hf hQ
  obtain ⟨r, c1, q1, q2⟩ := bnd_inv hf
  obtain ⟨u, c2, q3, q4⟩ := bnd_inv q2
  obtain ⟨⟨md, hm⟩, rfl⟩ := dkq_inv q3
  obtain ⟨r2, c3, q5, q6⟩ := bnd_inv q4
  obtain ⟨xs, c4, q7, q8⟩ := bnd_inv q6
  obtain ⟨q9, rfl⟩ := vws_inv q7
  obtain ⟨q10, rfl⟩ := lft_inv q8
  refine ⟨_, pe_dget1 (by omega) pe_any pe_any m, ?_⟩
  refine ho.r p G H σ cs _ _ _ k q1 fun v G1 H1 k1 l1 a1 => ?_
  obtain ⟨a, rfl, isd⟩ := isD_view k1.le (ArgOk.view k1 a1 hm)
  refine ⟨a, rfl, isd, ?_⟩
  refine h1.r p G1 H1 σ c2 _ _ _ k1 q5 fun w G2 H2 k2 l2 a2 => ?_
  have rv := ArgsOk.views k2 (rs := [r, r2]) (vs := [.ref a, w]) ⟨_, _, rfl, a1.le l2, _, _, rfl, a2, rfl⟩ q9
  unfold oGet1 at q10
  split at q10
  · rename_i mm x
    split at q10
    · rename_i kk ek
      cases q10
      obtain ⟨v', w', e, rv1, rv2⟩ := rv.two_inv
      cases e
      obtain ⟨a', vs, e, rd, rk⟩ := rv1.dk k2.le
      cases e
      have ew := dKey_rep ek rv2
      refine ⟨valV vs kk, .inl ⟨vs, kk, rd, ew, rfl⟩, hQ _ _ _ k2 (l1.trans l2) ?_⟩
      rcases RepK.get kk rk with ⟨d, v, g1, g2, g3⟩ | ⟨g1, g2⟩
      · rw [g1, g2]; exact g3
      · rw [g1, g2]; show Rep X.K G2 .non .non; simp only [Rep]
    · cases q10
  · cases q10
theorem ev_get2 (hu : X.A.units + 65 < cLine) (ho : EvE X o fo) (h1 : EvE X e1 f1) (h2 : EvE X e2 f2) (m : M2 X o "get" apos e1 e2 cpos) : EvE X (.Call (.Attribute o "get" apos) [e1, e2] [] cpos) (get2 fo f1 f2) := by
  intro p G H σ cs z cs' Q k hf hQ
  obtain ⟨r, c1, q1, q2⟩ := bnd_inv hf
  obtain ⟨u, c2, q3, q4⟩ := bnd_inv q2
  obtain ⟨⟨md, hm⟩, rfl⟩ := dkq_inv q3
  obtain ⟨r2, c3, q5, q6⟩ := bnd_inv q4
  obtain ⟨y, c5, q11, q12⟩ := bnd_inv q6
  obtain ⟨xs, c4, q7, q8⟩ := bnd_inv q12
  obtain ⟨q9, rfl⟩ := vws_inv q7
  obtain ⟨q10, rfl⟩ := lft_inv q8
  refine ⟨_, pe_dget2 (by omega) pe_any pe_any pe_any m, ?_⟩
  refine ho.r p G H σ cs _ _ _ k q1 fun v G1 H1 k1 l1 a1 => ?_
  obtain ⟨a, rfl, isd⟩ := isD_view k1.le (ArgOk.view k1 a1 hm)
  refine ⟨a, rfl, isd, ?_⟩
  refine h1.r p G1 H1 σ c2 _ _ _ k1 q5 fun w G2 H2 k2 l2 a2 => ?_
  refine h2.d p G2 H2 σ c3 _ _ _ k2 q11 fun y' G3 H3 k3 l3 a3 => ?_
  have rv := ArgsOk.views k3 (rs := [r, r2]) (vs := [.ref a, w]) ⟨_, _, rfl, (a1.le l2).le l3, _, _, rfl, a2.le l3, rfl⟩ q9
  obtain ⟨x1, x, rfl⟩ := views_two q9
  unfold oGet2 at q10
  dsimp only [List.cons_append, List.nil_append] at q10
  split at q10
  · rename_i mm x y heq
    cases heq
    split at q10
    · rename_i kk ek
      cases q10
      obtain ⟨v', w', e, rv1, rv2⟩ := rv.two_inv
      cases e
      obtain ⟨a', vs, e, rd, rk⟩ := rv1.dk k3.le
      cases e
      have ew := dKey_rep ek rv2
      refine ⟨valV vs kk, .inl ⟨vs, kk, rd, ew, rfl⟩, hQ _ _ _ k3 ((l1.trans l2).trans l3) ?_⟩
      rcases RepK.get kk rk with ⟨d, v, g1, g2, g3⟩ | ⟨g1, g2⟩
      · rw [g1, g2]; exact g3
      · rw [g1, g2]; exact a3
    · cases q10
  · cases q10
end
end DS

set_option Elab.async false
set_option linter.all false
set_option maxRecDepth 100000
set_option maxHeartbeats 2000000
set_option autoImplicit false
namespace DS
open PySem PySem.Spec L2
open PySem.SeqAt (EqIn EqAt)
open PySem.W (EqTree)

/-! ### data with dicts, over a heap -/
mutual
def hrOk : D → Bool
  | .non | .bl _ | .int _ | .str _ => true
  | .tup xs => hrOks xs
  | .lst xs => hrOks xs
  | .dk m => hrOkK m
  | _ => false
def hrOks : List D → Bool
  | [] => true
  | x :: xs => hrOk x && hrOks xs
def hrOkK : List (Key × D) → Bool
  | [] => true
  | (_, x) :: xs => hrOk x && hrOkK xs
end
section
variable (P : Program) (w : World) (h : Heap)
mutual
def HR : D → Value → Prop
  | .non, u => u = .none
  | .bl b, u => u = .bool b
  | .int i, u => ∃ t, u = .int i t
  | .str x, u => ∃ t, u = .str x t
  | .tup ds, u => ∃ a its, u = .ref a ∧ h.IsTuple a its ∧ HRs ds its.toList
  | .lst ds, u => ∃ a its, u = .ref a ∧ h.IsList a its ∧ HRs ds its.toList
  | .dk m, u => ∃ a vs, u = .ref a ∧ (a == sysModules) = false ∧ h.DictOf (mixKind P w) a vs ∧ HRK m vs
  | .dt _, _ => False
  | .obj _, _ => False
  | .scr _, _ => False
def HRs : List D → List Value → Prop
  | [], us => us = []
  | d :: ds, us => ∃ u r, us = u :: r ∧ HR d u ∧ HRs ds r
def HRK : List (Key × D) → List (Key × Value) → Prop
  | [], us => us = []
  | (k, d) :: ds, us => ∃ u r, us = (k, u) :: r ∧ HR d u ∧ HRK ds r
end
end
section
variable {X : Cx} {pins : List (Addr × Obj)} {σ : L2.St} {H G : Hp} {s : Shared}
mutual
theorem Rep.hr (I : Inv X pins σ H s) (l : Le G H) : ∀ {d : D} {v : V} {u : Value}, Rep X.K G d v → RelV v u → hrOk d = true → HR X.prog X.w s.heap d u
  | .non, _, _, h, r, _ => by simp only [Rep] at h; subst h; simp only [HR]; exact r
  | .bl _, _, _, h, r, _ => by simp only [Rep] at h; subst h; simp only [HR]; exact r
  | .int _, _, _, h, r, _ => by simp only [Rep] at h; subst h; simp only [HR]; exact r
  | .str _, _, _, h, r, _ => by simp only [Rep] at h; subst h; simp only [HR]; exact r
  | .tup ds, _, _, h, r, q => by
    simp only [Rep] at h
    obtain ⟨a, vs, rfl, h1, h2⟩ := h
    simp only [hrOk] at q
    cases r
    obtain ⟨its, rv, p, _⟩ := I.tuple (l.sqT h1)
    simp only [HR]
    exact ⟨a, _, rfl, p, by simpa using Reps.hr I l h2 rv q⟩
  | .lst ds, _, _, h, r, q => by
    simp only [Rep] at h
    obtain ⟨a, vs, rfl, h1, h2⟩ := h
    simp only [hrOk] at q
    cases r
    obtain ⟨its, rv, p, _⟩ := I.list (SqL.of (l _ _ h1))
    simp only [HR]
    exact ⟨a, _, rfl, p.isList, by simpa using Reps.hr I l h2 rv q⟩
  | .dk m, _, _, h, r, q => by
    simp only [Rep] at h
    obtain ⟨a, o, vs, rfl, h1, h2⟩ := h
    simp only [hrOk] at q
    cases r
    obtain ⟨_, hd, us, rel, dd⟩ := dk_rd I.hok (.inr ⟨o, l _ _ h1⟩)
    simp only [HR]
    exact ⟨a, us, rfl, hd, dd, RepK.hr I l h2 rel q⟩
  | .dt _, _, _, _, _, q => by simp only [hrOk] at q; cases q
  | .obj _, _, _, _, _, q => by simp only [hrOk] at q; cases q
  | .scr _, _, _, _, _, q => by simp only [hrOk] at q; cases q
theorem Reps.hr (I : Inv X pins σ H s) (l : Le G H) : ∀ {ds : List D} {vs : List V} {us : List Value}, Reps X.K G ds vs → Vals vs us → hrOks ds = true → HRs X.prog X.w s.heap ds us
  | [], _, _, h, r, _ => by
    rw [h.nil_inv] at r
    cases r
    simp only [HRs]
  | d :: ds, _, _, h, r, q => by
    obtain ⟨v, z, rfl, h1, h2⟩ := h.cons_inv
    simp only [hrOks, Bool.and_eq_true] at q
    cases r with
    | cons a b =>
      simp only [HRs]
      exact ⟨_, _, rfl, Rep.hr I l h1 a q.1, Reps.hr I l h2 b q.2⟩
theorem RepK.hr (I : Inv X pins σ H s) (l : Le G H) : ∀ {ds : List (Key × D)} {vs : List (Key × V)} {us : List (Key × Value)}, RepK X.K G ds vs → KV vs us → hrOkK ds = true → HRK X.prog X.w s.heap ds us
  | [], _, _, h, r, _ => by
    simp only [RepK] at h
    subst h
    cases r
    simp only [HRK]
  | (k, d) :: ds, _, _, h, r, q => by
    simp only [RepK] at h
    obtain ⟨v, z, rfl, h1, h2⟩ := h
    simp only [hrOkK, Bool.and_eq_true] at q
    cases r with
    | @cons p1 p2 _ _ a b =>
      obtain ⟨k', u⟩ := p2
      obtain ⟨e, a⟩ := a
      simp only at e a
      subst e
      simp only [HRK]
      exact ⟨u, _, rfl, Rep.hr I l h1 a q.1, RepK.hr I l h2 b q.2⟩
end
theorem VRep.hr (I : Inv X pins σ H s) (l : Le G H) {d : D} {v : V} {u : Value} (h : VRep X.K G H d v) (r : RelV v u) (q : hrOk d = true) : HR X.prog X.w s.heap d u := by
  rcases h with h | ⟨c, a, ho, rfl, rfl, h1, h2⟩
  · exact h.hr I l r q
  · cases r
    cases c with
    | l xs =>
      obtain ⟨vs, rfl, rp⟩ := h2
      simp only [O.fz, hrOk] at q
      obtain ⟨its, rv, p, _⟩ := I.list (SqL.of h1)
      simp only [O.fz, HR]
      exact ⟨a, _, rfl, p.isList, by simpa using rp.hr I l rv q⟩
    | k m =>
      obtain ⟨vs, rfl, rp⟩ := h2
      simp only [O.fz, hrOk] at q
      obtain ⟨_, hd, us, rel, dd⟩ := dk_rd I.hok (.inl h1)
      simp only [O.fz, HR]
      exact ⟨a, us, rfl, hd, dd, RepK.hr I l rp rel q⟩
    | t m => simp only [O.fz, hrOk] at q; cases q
end
end DS

set_option Elab.async false
set_option linter.all false
set_option maxRecDepth 100000
set_option maxHeartbeats 2000000
set_option autoImplicit false
namespace DS
open PySem PySem.Spec L2
open PySem.SeqAt (EqIn EqAt)
open PySem.W (EqTree)

/-! ### == of data with dicts -/
section
variable {P : Program} {w : World} {h : Heap}
mutual
theorem HR.reads : ∀ {d : D} {u : Value} {e : PyData}, HR P w h d u → pyD d = some e → ∃ as, Reads h u e as
  | .non, _, _, q, r => by simp only [HR] at q; simp only [pyD] at r; cases r; subst q; exact ⟨_, .none⟩
  | .bl _, _, _, q, r => by simp only [HR] at q; simp only [pyD] at r; cases r; subst q; exact ⟨_, .bool _⟩
  | .int _, _, _, q, r => by simp only [HR] at q; simp only [pyD] at r; cases r; obtain ⟨t, rfl⟩ := q; exact ⟨_, .int _ _⟩
  | .str _, _, _, q, r => by simp only [HR] at q; simp only [pyD] at r; cases r; obtain ⟨t, rfl⟩ := q; exact ⟨_, .str _ _⟩
  | .tup xs, _, _, q, r => by
    simp only [HR] at q; simp only [pyD] at r
    obtain ⟨a, its, rfl, ⟨o, ho, hc, n, hd⟩, hr⟩ := q
    cases e : pyDs xs with
    | none => rw [e] at r; cases r
    | some es =>
      rw [e] at r; cases r
      obtain ⟨as, q⟩ := HRs.reads hr e
      exact ⟨_, .tuple ho hc hd q⟩
  | .lst xs, _, _, q, r => by
    simp only [HR] at q; simp only [pyD] at r
    obtain ⟨a, its, rfl, ⟨o, ho, hc, n, hd⟩, hr⟩ := q
    cases e : pyDs xs with
    | none => rw [e] at r; cases r
    | some es =>
      rw [e] at r; cases r
      obtain ⟨as, q⟩ := HRs.reads hr e
      exact ⟨_, .list ho hc hd q⟩
  | .dk _, _, _, _, r => by simp only [pyD] at r; cases r
  | .dt _, _, _, _, r => by simp only [pyD] at r; cases r
  | .obj _, _, _, _, r => by simp only [pyD] at r; cases r
  | .scr _, _, _, _, r => by simp only [pyD] at r; cases r
theorem HRs.reads : ∀ {ds : List D} {us : List Value} {es : List PyData}, HRs P w h ds us → pyDs ds = some es → ∃ as, ReadsAll h us es as
  | [], _, _, q, r => by simp only [HRs] at q; subst q; simp only [pyDs] at r; cases r; exact ⟨_, .nil⟩
  | d :: ds, _, _, q, r => by
    simp only [HRs] at q
    obtain ⟨u, z, rfl, h1, h2⟩ := q
    simp only [pyDs] at r
    cases e1 : pyD d with
    | none => rw [e1] at r; cases r
    | some y =>
      cases e2 : pyDs ds with
      | none => rw [e1, e2] at r; cases r
      | some ys =>
        rw [e1, e2] at r; cases r
        obtain ⟨as, q1⟩ := HR.reads h1 e1
        obtain ⟨bs, q2⟩ := HRs.reads h2 e2
        exact ⟨_, .cons q1 q2⟩
end
theorem HRs.get : ∀ {ds : List D} {us : List Value} {i : Nat}, HRs P w h ds us → (h2 : i < us.length) → ∃ d, ds[i]? = some d ∧ HR P w h d us[i]
  | [], _, _, q, hi => by simp only [HRs] at q; subst q; simp at hi
  | d :: ds, _, i, q, hi => by
    simp only [HRs] at q
    obtain ⟨u, z, rfl, h1, h2⟩ := q
    cases i with
    | zero => exact ⟨d, rfl, h1⟩
    | succ i => exact HRs.get (i := i) h2 (by simpa using hi)
theorem HRs.len : ∀ {ds : List D} {us : List Value}, HRs P w h ds us → us.length = ds.length
  | [], _, q => by simp only [HRs] at q; subst q; rfl
  | d :: ds, _, q => by
    simp only [HRs] at q
    obtain ⟨u, z, rfl, h1, h2⟩ := q
    simp [HRs.len h2]
theorem HRK.len : ∀ {ds : List (Key × D)} {us : List (Key × Value)}, HRK P w h ds us → us.length = ds.length
  | [], _, q => by simp only [HRK] at q; subst q; rfl
  | (k, d) :: ds, _, q => by
    simp only [HRK] at q
    obtain ⟨u, z, rfl, h1, h2⟩ := q
    simp [HRK.len h2]
theorem HRK.keys : ∀ {ds : List (Key × D)} {us : List (Key × Value)}, HRK P w h ds us → us.map (·.1) = ds.map (·.1)
  | [], _, q => by simp only [HRK] at q; subst q; rfl
  | (k, d) :: ds, _, q => by
    simp only [HRK] at q
    obtain ⟨u, z, rfl, h1, h2⟩ := q
    simp [HRK.keys h2]
theorem HRK.val : ∀ {ds : List (Key × D)} {us : List (Key × Value)} (k : Key), HRK P w h ds us → (∃ d u, dGet ds k = some d ∧ valueAt us k = some u ∧ HR P w h d u) ∨ (dGet ds k = none ∧ valueAt us k = none)
  | [], _, _, q => by simp only [HRK] at q; subst q; exact .inr ⟨rfl, rfl⟩
  | (j, d) :: ds, _, k, q => by
    simp only [HRK] at q
    obtain ⟨u, z, rfl, h1, h2⟩ := q
    by_cases e : j = k
    · left
      exact ⟨d, u, by simp [dGet, e], by simp [valueAt, e], h1⟩
    · rcases HRK.val k h2 with ⟨d', u', q1, q2, q3⟩ | ⟨q1, q2⟩
      · left
        exact ⟨d', u', by simpa [dGet, e] using q1, by simpa [valueAt, e] using q2, q3⟩
      · right
        exact ⟨by simpa [dGet, e] using q1, by simpa [valueAt, e] using q2⟩
theorem HRK.mem : ∀ {ds : List (Key × D)} {us : List (Key × Value)} {k : Key} {u : Value}, HRK P w h ds us → (k, u) ∈ us → ∃ d, (k, d) ∈ ds ∧ HR P w h d u
  | [], _, _, _, q, m => by simp only [HRK] at q; subst q; simp at m
  | (j, d) :: ds, _, k, u, q, m => by
    simp only [HRK] at q
    obtain ⟨u', z, rfl, h1, h2⟩ := q
    rcases List.mem_cons.mp m with e | m
    · cases e; exact ⟨d, List.mem_cons_self, h1⟩
    · obtain ⟨d', m', h3⟩ := HRK.mem h2 m
      exact ⟨d', List.mem_cons_of_mem _ m', h3⟩
theorem dGet_mem : ∀ {ds : List (Key × D)} {k : Key} {d : D}, (ds.map (·.1)).Nodup → (k, d) ∈ ds → dGet ds k = some d
  | [], _, _, _, m => by simp at m
  | (j, x) :: ds, k, d, n, m => by
    rw [List.map_cons, List.nodup_cons] at n
    rcases List.mem_cons.mp m with e | m
    · cases e; simp [dGet]
    · have : j ≠ k := fun e => n.1 (e ▸ List.mem_map.mpr ⟨(k, d), m, rfl⟩)
      have := dGet_mem n.2 m
      simpa [dGet, *] using this
end
mutual
theorem pyD_plain : ∀ {d : D} {e : PyData}, pyD d = some e → e.plain = true
  | .non, _, r => by simp only [pyD] at r; cases r; rfl
  | .bl _, _, r => by simp only [pyD] at r; cases r; rfl
  | .int _, _, r => by simp only [pyD] at r; cases r; rfl
  | .str _, _, r => by simp only [pyD] at r; cases r; rfl
  | .tup xs, _, r => by
    simp only [pyD] at r
    cases e : pyDs xs with
    | none => rw [e] at r; cases r
    | some es => rw [e] at r; cases r; simp only [PyData.plain]; exact pyDs_plain e
  | .lst xs, _, r => by
    simp only [pyD] at r
    cases e : pyDs xs with
    | none => rw [e] at r; cases r
    | some es => rw [e] at r; cases r; simp only [PyData.plain]; exact pyDs_plain e
  | .dk _, _, r => by simp only [pyD] at r; cases r
  | .dt _, _, r => by simp only [pyD] at r; cases r
  | .obj _, _, r => by simp only [pyD] at r; cases r
  | .scr _, _, r => by simp only [pyD] at r; cases r
theorem pyDs_plain : ∀ {ds : List D} {es : List PyData}, pyDs ds = some es → PyData.plainAll es = true
  | [], _, r => by simp only [pyDs] at r; cases r; rfl
  | d :: ds, _, r => by
    simp only [pyDs] at r
    cases e1 : pyD d with
    | none => rw [e1] at r; cases r
    | some y =>
      cases e2 : pyDs ds with
      | none => rw [e1, e2] at r; cases r
      | some ys =>
        rw [e1, e2] at r; cases r
        simp only [PyData.plainAll, Bool.and_eq_true]
        exact ⟨pyD_plain e1, pyDs_plain e2⟩
end
def leafEq (x y : D) : Option Bool := match pyD x, pyD y with
  | some a, some b => if min a.depth b.depth ≤ 50 then some (PyData.eqv a b) else none
  | _, _ => none
def dictEq (f : D → D → Option Bool) (m m' : List (Key × D)) : Option Bool :=
  if (m.all fun p => match dGet m' p.1 with
    | some y => (f p.2 y).isSome
    | none => true) = true then some (m.length == m'.length && m.all fun p => match dGet m' p.1 with
    | some y => (f p.2 y).getD false
    | none => false) else none
def seqEq (f : D → D → Option Bool) : List D → List D → Option Bool
  | x :: xs, y :: ys => match f x y, seqEq f xs ys with
    | some a, some b => some (a && b)
    | _, _ => none
  | [], [] => some true
  | _, _ => none
def deq : Nat → D → D → Option Bool
  | 0, x, y => leafEq x y
  | n + 1, x, y => match leafEq x y with
    | some b => some b
    | none => match x, y with
      | .dk m, .dk m' => dictEq (deq n) m m'
      | .lst xs, .lst ys => if xs.length = ys.length then seqEq (deq n) xs ys else some false
      | .tup xs, .tup ys => if xs.length = ys.length then seqEq (deq n) xs ys else none
      | _, _ => none
def deqT (x y : D) : Option Bool := if hrOk x = true ∧ hrOk y = true then deq 10 x y else none
section
variable {P : Program} {w : World} {s : Shared}
theorem leaf_tree {n : Nat} {x y : D} {u v : Value} {b : Bool} (hx : HR P w s.heap x u) (hy : HR P w s.heap y v) (e : leafEq x y = some b) (hn : 50 ≤ n) : EqTree P w s n u v b := by
  unfold leafEq at e
  split at e
  · rename_i a c e1 e2
    split at e
    · rename_i hd
      cases e
      obtain ⟨as, r1⟩ := hx.reads e1
      obtain ⟨bs, r2⟩ := hy.reads e2
      exact .leaf fun A hu => PySem.SeqAt.eqAt_plain a c A s u v as bs r1 r2 (pyD_plain e1) (pyD_plain e2) (by omega)
    · cases e
  · cases e
theorem leaf_same {x y : D} {u : Value} {b : Bool} (hx : HR P w s.heap x u) (hy : HR P w s.heap y u) (e : leafEq x y = some b) : b = true := by
  unfold leafEq at e
  split at e
  · rename_i a c e1 e2
    split at e
    · cases e
      obtain ⟨as, r1⟩ := hx.reads e1
      obtain ⟨bs, r2⟩ := hy.reads e2
      have := PySem.SeqAt.plain_unique a c u as bs (pyD_plain e1) r1 r2
      subst this
      exact PySem.SeqAt.eqv_refl_plain a (pyD_plain e1)
    · cases e
  · cases e
theorem seq_same {f : D → D → Option Bool} (ih : ∀ {x y : D} {u : Value} {b : Bool}, HR P w s.heap x u → HR P w s.heap y u → f x y = some b → b = true) :
    ∀ {xs ys : List D} {us : List Value} {b : Bool}, HRs P w s.heap xs us → HRs P w s.heap ys us → seqEq f xs ys = some b → b = true
  | [], [], _, _, _, _, e => by cases e; rfl
  | x :: xs, y :: ys, us, b, h1, h2, e => by
    simp only [HRs] at h1 h2
    obtain ⟨u, z, rfl, a1, a2⟩ := h1
    obtain ⟨u', z', e0, b1, b2⟩ := h2
    cases e0
    simp only [seqEq] at e
    split at e
    · rename_i p q e1 e2
      cases e
      rw [ih a1 b1 e1, seq_same ih a2 b2 e2]; rfl
    · cases e
  | [], _ :: _, _, _, _, _, e => by cases e
  | _ :: _, [], _, _, _, _, e => by cases e
theorem seq_tree {f : D → D → Option Bool} {n : Nat} (ih : ∀ {x y : D} {u v : Value} {b : Bool}, HR P w s.heap x u → HR P w s.heap y v → f x y = some b → EqTree P w s n u v b) :
    ∀ {xs ys : List D} {us vs : List Value} {b : Bool}, HRs P w s.heap xs us → HRs P w s.heap ys vs → seqEq f xs ys = some b → ∃ e : Nat → Bool, (∀ j (h1 : j < us.length) (h2 : j < vs.length), EqTree P w s n us[j] vs[j] (e j)) ∧ (List.range us.length).all e = b ∧ us.length = vs.length
  | [], [], us, vs, _, h1, h2, e => by
    simp only [HRs] at h1 h2
    subst h1; subst h2
    cases e
    exact ⟨fun _ => true, fun j h1 _ => absurd h1 (by simp), rfl, rfl⟩
  | x :: xs, y :: ys, us, vs, b, h1, h2, e => by
    simp only [HRs] at h1 h2
    obtain ⟨u, z, rfl, a1, a2⟩ := h1
    obtain ⟨v, z', rfl, b1, b2⟩ := h2
    simp only [seqEq] at e
    split at e
    · rename_i p q e1 e2
      cases e
      obtain ⟨g, g1, g2, g3⟩ := seq_tree ih a2 b2 e2
      refine ⟨fun j => match j with
        | 0 => p
        | j + 1 => g j, fun j h1 h2 => ?_, ?_, by simp [g3]⟩
      · cases j with
        | zero => exact ih a1 b1 e1
        | succ j => exact g1 j (by simpa using h1) (by simpa using h2)
      · rw [List.length_cons, List.range_succ_eq_map, List.all_cons, List.all_map]
        rw [← g2]
        rfl
    · cases e
  | [], _ :: _, _, _, _, _, _, e => by cases e
  | _ :: _, [], _, _, _, _, _, e => by cases e
theorem dict_nodup {a : Addr} {vs : List (Key × Value)} (d : s.heap.DictOf (mixKind P w) a vs) : (vs.map (·.1)).Nodup := by
  obtain ⟨_, _, _, _, _, _, _, _, n⟩ := d
  exact n
theorem dict_inj {a : Addr} {vs us : List (Key × Value)} (d : s.heap.DictOf (mixKind P w) a vs) (d' : s.heap.DictOf (mixKind P w) a us) : vs = us := by
  obtain ⟨o, es, ep, ho, _, hd, _, hp, n1⟩ := d
  obtain ⟨o', es', ep', ho', _, hd', _, hp', n2⟩ := d'
  clear n1 n2
  rw [ho] at ho'; cases ho'
  rw [hd] at hd'; cases hd'
  generalize es.toList = l at hp hp'
  induction hp generalizing us with
  | nil => cases hp'; rfl
  | cons h1 h2 t ih =>
    cases hp' with
    | cons h1' h2' t' =>
      rw [ih t', Prod.ext ((mixKind P w).inj _ _ _ h1 h1') (h2.symm.trans h2')]
theorem deq_same : ∀ (n : Nat) {x y : D} {u : Value} {b : Bool}, HR P w s.heap x u → HR P w s.heap y u → deq n x y = some b → b = true
  | 0, _, _, _, _, hx, hy, e => leaf_same hx hy e
  | n + 1, x, y, u, b, hx, hy, e => by
    simp only [deq] at e
    split at e
    · rename_i b' e'
      cases e
      exact leaf_same hx hy e'
    · split at e
      · rename_i m m' _
        unfold dictEq at e
        split at e
        · rename_i hall
          cases e
          simp only [HR] at hx hy
          obtain ⟨a, vs, rfl, _, d1, k1⟩ := hx
          obtain ⟨a', vs', e', _, d2, k2⟩ := hy
          cases e'
          have ev := dict_inj d1 d2
          subst ev
          have nd := dict_nodup d1
          have nd1 : (m.map (·.1)).Nodup := by rw [← k1.keys]; exact nd
          have hl : m.length = m'.length := by rw [← k1.len, ← k2.len]
          simp only [hl, beq_self_eq_true, Bool.true_and, List.all_eq_true]
          rintro ⟨k, d⟩ hm
          rw [List.all_eq_true] at hall
          have h0 := hall _ hm
          have g1 := dGet_mem nd1 hm
          rcases k1.val k with ⟨d', u, q1, q2, q3⟩ | ⟨q1, _⟩
          · rw [g1] at q1; cases q1
            rcases k2.val k with ⟨d2, u2, p1, p2, p3⟩ | ⟨p1, p2⟩
            · rw [q2] at p2; cases p2
              simp only [p1] at h0 ⊢
              cases ef : deq n d d2 with
              | none => rw [ef] at h0; cases h0
              | some c => rw [deq_same n q3 p3 ef]; rfl
            · rw [q2] at p2; cases p2
          · rw [g1] at q1; cases q1
        · cases e
      · rename_i xs ys _
        simp only [HR] at hx hy
        obtain ⟨a, us, rfl, ⟨o, ho, _, k, hd⟩, h1⟩ := hx
        obtain ⟨a', us', e', ⟨o', ho', _, k', hd'⟩, h2⟩ := hy
        cases e'
        rw [ho] at ho'; cases ho'
        rw [hd] at hd'; cases hd'
        split at e
        · exact seq_same (deq_same n) h1 h2 e
        · rename_i hl
          exact absurd (by rw [← h1.len, ← h2.len]) hl
      · rename_i xs ys _
        simp only [HR] at hx hy
        obtain ⟨a, us, rfl, ⟨o, ho, _, k, hd⟩, h1⟩ := hx
        obtain ⟨a', us', e', ⟨o', ho', _, k', hd'⟩, h2⟩ := hy
        cases e'
        rw [ho] at ho'; cases ho'
        rw [hd] at hd'; cases hd'
        split at e
        · exact seq_same (deq_same n) h1 h2 e
        · cases e
      · cases e
theorem deq_tree : ∀ (n : Nat) {x y : D} {u v : Value} {b : Bool}, HR P w s.heap x u → HR P w s.heap y v → deq n x y = some b → EqTree P w s (50 + n) u v b
  | 0, _, _, _, _, _, hx, hy, e => leaf_tree hx hy e (by omega)
  | n + 1, x, y, u, v, b, hx, hy, e => by
    have hsame := deq_same (P := P) (w := w) (s := s) (n + 1) (x := x) (y := y) (u := u) (b := b)
    have e0 := e
    simp only [deq] at e
    split at e
    · rename_i b' e'
      cases e
      exact leaf_tree hx hy e' (by omega)
    · by_cases huv : u = v
      · subst huv
        rw [hsame hx hy e0]
        exact .same
      clear hsame e0
      split at e
      · rename_i m m' _
        unfold dictEq at e
        split at e
        · rename_i hall
          cases e
          simp only [HR] at hx hy
          obtain ⟨a, vs, rfl, s1, d1, k1⟩ := hx
          obtain ⟨a', vs', rfl, s2, d2, k2⟩ := hy
          have ne : a ≠ a' := fun z => huv (by rw [z])
          have nd := dict_nodup d1
          have nd1 : (m.map (·.1)).Nodup := by rw [← k1.keys]; exact nd
          rw [List.all_eq_true] at hall
          have key := EqTree.dicts (n := 50 + n) (e := fun k => match dGet m k, dGet m' k with
            | some x, some y => (deq n x y).getD false
            | _, _ => false) ne s1 s2 d1 d2 (fun k v y hm hy => by
              obtain ⟨d, hd, hr⟩ := k1.mem hm
              have g1 := dGet_mem nd1 hd
              rcases k2.val k with ⟨d2, u2, p1, p2, p3⟩ | ⟨p1, p2⟩
              · rw [hy] at p2; cases p2
                have h0 := hall _ hd
                simp only [p1] at h0
                simp only [g1, p1]
                cases ef : deq n d d2 with
                | none => rw [ef] at h0; cases h0
                | some c => exact deq_tree n hr p3 ef
              · rw [hy] at p2; cases p2)
          have e1 : (vs.length == vs'.length && vs.all fun p => (valueAt vs' p.1).isSome && (match dGet m p.1, dGet m' p.1 with
            | some x, some y => (deq n x y).getD false
            | _, _ => false)) = (m.length == m'.length && m.all fun p => match dGet m' p.1 with
            | some y => (deq n p.2 y).getD false
            | none => false) := by
            rw [k1.len, k2.len]
            congr 1
            rw [Bool.eq_iff_iff, List.all_eq_true, List.all_eq_true]
            constructor
            · rintro hh ⟨k, d⟩ hm
              have g1 := dGet_mem nd1 hm
              rcases k1.val k with ⟨d', u, q1, q2, q3⟩ | ⟨q1, _⟩
              · obtain ⟨v, hv⟩ : ∃ v, (k, v) ∈ vs := by
                  have : k ∈ vs.map (·.1) := by rw [k1.keys]; exact List.mem_map.mpr ⟨_, hm, rfl⟩
                  obtain ⟨⟨k', v⟩, h1, h2⟩ := List.mem_map.mp this
                  cases h2
                  exact ⟨v, h1⟩
                have := hh _ hv
                simp only [g1, Bool.and_eq_true] at this
                have h2 := this.2
                cases eg : dGet m' k with
                | none => rw [eg] at h2; cases h2
                | some y => rw [eg] at h2; simp only [eg]; exact h2
              · rw [g1] at q1; cases q1
            · rintro hh ⟨k, v⟩ hm
              obtain ⟨d, hd, hr⟩ := k1.mem hm
              have g1 := dGet_mem nd1 hd
              have h0 := hh _ hd
              simp only [g1, Bool.and_eq_true]
              rcases k2.val k with ⟨d2, u2, p1, p2, p3⟩ | ⟨p1, p2⟩
              · simp only [p1] at h0
                simp only [p1, p2]
                exact ⟨rfl, h0⟩
              · simp only [p1] at h0
                cases h0
          rw [e1] at key
          exact key
        · cases e
      · rename_i xs ys _
        simp only [HR] at hx hy
        obtain ⟨a, us, rfl, p1, h1⟩ := hx
        obtain ⟨a', us', rfl, p2, h2⟩ := hy
        have ne : a ≠ a' := fun z => huv (by rw [z])
        split at e
        · obtain ⟨g, g1, g2, g3⟩ := seq_tree (deq_tree n) h1 h2 e
          have hz : us.size = us'.size := by simpa using g3
          have key := EqTree.lists (n := 50 + n) (e := g) ne p1 p2 hz (fun j a1 a2 => by have := g1 j (by simpa using a1) (by simpa using a2); rwa [Array.getElem_toList, Array.getElem_toList] at this)
          have e2 : (List.range us.size).all g = b := by rw [← g2]; simp
          rw [e2] at key
          exact key
        · rename_i hl
          cases e
          refine EqTree.listsLen ne p1 p2 ?_
          rw [bne_iff_ne]
          intro z
          apply hl
          rw [← h1.len, ← h2.len]
          simpa using z
      · rename_i xs ys _
        simp only [HR] at hx hy
        obtain ⟨a, us, rfl, p1, h1⟩ := hx
        obtain ⟨a', us', rfl, p2, h2⟩ := hy
        have ne : a ≠ a' := fun z => huv (by rw [z])
        split at e
        · obtain ⟨g, g1, g2, g3⟩ := seq_tree (deq_tree n) h1 h2 e
          have hz : us.size = us'.size := by simpa using g3
          have key := EqTree.tuples (n := 50 + n) (e := g) ne p1 p2 (fun j a1 a2 => by have := g1 j (by simpa using a1) (by simpa using a2); rwa [Array.getElem_toList, Array.getElem_toList] at this)
          have e2 : ((List.range (min us.size us'.size)).all g && us.size == us'.size) = b := by rw [← g2, hz]; simp [hz]
          rw [e2] at key
          exact key
        · cases e
      · cases e
end
end DS

set_option Elab.async false
set_option linter.all false
set_option maxRecDepth 100000
set_option maxHeartbeats 2000000
set_option autoImplicit false
namespace DS
open PySem PySem.Spec L2
open PySem.SeqAt (EqIn EqAt)
open PySem.W (EqTree)
open AutoSeq1 (wpAny_loadPart')
open MeetsSeq MeetsSeq2 MeetsSeq3 SeqRoads2

/-! ### x in xs, xs a list of data with dicts -/
section
variable {prog : Program} {w : World}
theorem has_loop (l : Addr) (items : Array Value) (n : Nat) (dd : Option Addr) (sl : Array (Option Value)) (x : Value) (e : Nat → Bool) (k : Nat) :
    ∀ i : Nat, items.size - i = k → MeetsIn prog w (Builtin.«list.__contains__.loop» ⟨[.ref l, x, rawInt i], []⟩)
      (fun A R s => s.heap.get? l = some { cls := .type "list", dict := dd, data := .seq items n, slots := sl } ∧ (∀ j (h : j < items.size), EqIn prog w A.in1 s items[j] x (e j)) ∧ R (.ok (.ret (.bool (((List.range items.size).drop i).any e)))) s) := by
  induction k with
  | zero =>
    intro i hk A R s h
    obtain ⟨hp, g, d, tk, os⟩ := s; obtain ⟨hl, he, h⟩ := h
    wp_walk using wpAny_loadPart' hl
    have hi : items[((i : Nat) : Int).toNat]? = none := by simp; omega
    have hd : (List.range items.size).drop i = [] := by simp; omega
    rw [hd] at h
    rw [hi]
    wp_walk
    exact h
  | succ k ih =>
    intro i hk A R s h
    obtain ⟨hp, g, d, tk, os⟩ := s; obtain ⟨hl, he, h⟩ := h
    wp_walk using wpAny_loadPart' hl
    have hlt : i < items.size := by omega
    have hi : items[((i : Nat) : Int).toNat]? = some items[i] := by simp [hlt]
    have hd : (List.range items.size).drop i = i :: (List.range items.size).drop (i + 1) := by simp [List.drop_eq_getElem_cons, hlt]
    rw [hd, List.any_cons] at h
    rw [hi]
    refine wpAny_bind (he _ hlt _ _ ?_)
    cases hb : e i with
    | true =>
      rw [hb] at h
      wp_walk
      exact h
    | false =>
      rw [hb] at h
      have hc : ((i : Int) + 1) = ((i + 1 : Nat) : Int) := by push_cast; rfl
      wp_walk
      rw [hc]
      exact ⟨plainId_quiet plain_contains_loop _, codeAny_builtin entry_contains_loop (by
        rw [Around.under_plainId plain_contains_loop _]
        exact ih (i + 1) (by omega) A R _ ⟨hl, he, by simpa using h⟩)⟩
theorem list_has (l : Addr) (items : Array Value) (n : Nat) (dd : Option Addr) (sl : Array (Option Value)) (x : Value) (e : Nat → Bool) :
    MeetsIn prog w (Builtin.«list.__contains__» ⟨[.ref l, x], []⟩)
      (fun A R s => s.heap.get? l = some { cls := .type "list", dict := dd, data := .seq items n, slots := sl } ∧ (∀ j (h : j < items.size), EqIn prog w A.in1 s items[j] x (e j)) ∧ R (.ok (.ret (.bool ((List.range items.size).any e)))) s) := by
  intro A R s h
  obtain ⟨hp, g, d, tk, os⟩ := s; obtain ⟨hl, he, h⟩ := h
  wp_walk using wpAny_loadPart' hl
  exact ⟨plainId_quiet plain_contains_loop _, codeAny_builtin entry_contains_loop (by
    rw [Around.under_plainId plain_contains_loop _]
    exact has_loop l items n dd sl x e _ 0 rfl A R _ ⟨hl, he, by simpa using h⟩)⟩
variable {A : Around} {E : Value → Shared → Prop} {s : Shared}
theorem in_list_in {l : Addr} {items : Array Value} {x : Value} {g : Bool → Bool} {op : CmpOp} {Q : Value → Shared → Prop} (e : Nat → Bool) (hl : s.heap.IsList l items) (he : ∀ j (h : j < items.size), EqIn prog w A.in1 s items[j] x (e j))
    (ho : (op = .In ∧ g = id) ∨ (op = .NotIn ∧ g = (!·))) (h : Q (.bool (g ((List.range items.size).any e))) s) : wpAny (model prog w) A (compareOp op x (.ref l)) Q E s := by
  obtain ⟨⟨cls, dd, data, sl⟩, hO, hc, n, hd⟩ := id hl
  simp only at hc hd
  subst hc hd
  have key : wpAny (model prog w) A (contains (.ref l) x) (fun b s' => Q (.bool (g b)) s') E s :=
    wpAny_contains_slot ⟨_, hO, rfl⟩ F.slot_list_contains (wpAny_mono (call_meetsIn (Q := fun v s' => ∃ b, v = .bool b ∧ Q (.bool (g b)) s') F.slot_list_contains ⟨_, hO, rfl⟩ F.entry_list_contains (F.args_list_contains_2 _ _) (list_has l items n dd sl x e) ⟨hO, he, _, rfl, h⟩) (fun v s' ⟨b, hb, q⟩ => by subst hb; exact wpAny_truthy_bool q) fun _ _ e => e)
  rcases ho with ⟨rfl, rfl⟩ | ⟨rfl, rfl⟩
  · show wpAny _ A (do return .bool (← contains (.ref l) x)) Q E s
    exact wpAny_bind (wpAny_mono key (fun b s' q => wpAny_pure q) fun _ _ e => e)
  · show wpAny _ A (do return .bool (!(← contains (.ref l) x))) Q E s
    exact wpAny_bind (wpAny_mono key (fun b s' q => wpAny_pure q) fun _ _ e => e)
end
def anyEq (x : D) : List D → Option Bool
  | [] => some false
  | y :: ys => match deqT y x, anyEq x ys with
    | some a, some b => some (a || b)
    | _, _ => none
def oInQ (x y : D) : Option Res := match y with
  | .lst ys => (anyEq x ys).map fun b => .d (.bl b)
  | _ => none
def oNotInQ (x y : D) : Option Res := match y with
  | .lst ys => (anyEq x ys).map fun b => .d (.bl (!b))
  | _ => none
def rInQ (K : PySem.W.Frag) (g : Bool → Bool) : R2 := fun x y H Q => ∃ (G : Hp) (d : D) (es : List D) (b : Bool), Le G H ∧ VRep K G H d x ∧ VRep K G H (.lst es) y ∧ anyEq d es = some b ∧ Q (.bl (g b)) H
section
variable {X : Cx}
theorem any_tree {pins : List (Addr × Obj)} {σ : L2.St} {H G : Hp} {s : Shared} (I : Inv X pins σ H s) (l : Le G H) {d : D} {v : V} {u : Value} (hd : VRep X.K G H d v) (r : RelV v u) :
    ∀ {es : List D} {vs : List V} {us : List Value} {b : Bool}, Reps X.K G es vs → Vals vs us → anyEq d es = some b → ∃ e : Nat → Bool, (∀ j (h : j < us.length), EqTree X.prog X.w s 60 us[j] u (e j)) ∧ (List.range us.length).any e = b
  | [], _, us, _, h, rv, e => by
    rw [h.nil_inv] at rv
    cases rv
    cases e
    exact ⟨fun _ => false, fun j h => absurd h (by simp), rfl⟩
  | y :: ys, _, us, _, h, rv, e => by
    obtain ⟨v', z, rfl, h1, h2⟩ := h.cons_inv
    cases rv with
    | cons a c =>
      simp only [anyEq] at e
      split at e
      · rename_i p q e1 e2
        cases e
        obtain ⟨g, g1, g2⟩ := any_tree I l hd r h2 c e2
        unfold deqT at e1
        split at e1
        · rename_i hok
          have t := deq_tree 10 (h1.hr I l a hok.1) (hd.hr I l r hok.2) e1
          refine ⟨fun j => match j with
            | 0 => p
            | j + 1 => g j, fun j h => ?_, ?_⟩
          · cases j with
            | zero => exact t
            | succ j => exact g1 j (by simpa using h)
          · rw [List.length_cons, List.range_succ_eq_map, List.any_cons, List.any_map, ← g2]
            rfl
        · cases e1
      · cases e
theorem or_inQ' {op : CmpOp} {g : Bool → Bool} (ho : (op = .In ∧ g = id) ∨ (op = .NotIn ∧ g = (!·))) (hu : X.A.units + 65 < cLine) : OpR X (compareOp op) (rInQ X.K g) := by
  intro pins s σ H x y v u Q I rx ry h
  obtain ⟨G, d, es, b, l, hd, hes, e, q⟩ := h
  obtain ⟨a, vs, rfl, h1, h2⟩ := hes.lst l
  cases ry
  obtain ⟨its, rv, pl, _⟩ := I.list (SqL.of h1)
  obtain ⟨g', g1, g2⟩ := any_tree I l hd rx h2 rv e
  refine in_list_in g' pl.isList (fun j hj => ?_) ho ?_
  · have := (g1 j (by simpa using hj)).at X.A.in1 (by show X.A.units + 1 + 60 < cLine; omega)
    simpa using this
  · rw [show its.toArray.size = its.length by simp, g2]
    exact ⟨.bl _, H, I, rfl, q⟩
theorem or_inQ (hu : X.A.units + 65 < cLine) : OpR X (compareOp .In) (rInQ X.K id) := or_inQ' (.inl ⟨rfl, rfl⟩) hu
theorem or_notInQ (hu : X.A.units + 65 < cLine) : OpR X (compareOp .NotIn) (rInQ X.K (!·)) := or_inQ' (.inr ⟨rfl, rfl⟩) hu
theorem inQ_ok : Op2 X (rInQ X.K id) oInQ := by
  intro p G H σ cs x y v w z Q k rx ry h n
  unfold oInQ at h
  split at h
  · rename_i ys
    cases e : anyEq x ys with
    | none => rw [e] at h; cases h
    | some b => rw [e] at h; cases h; exact ⟨G, x, ys, b, k.le, rx, ry, e, n.bl k⟩
  · cases h
theorem notInQ_ok : Op2 X (rInQ X.K (!·)) oNotInQ := by
  intro p G H σ cs x y v w z Q k rx ry h n
  unfold oNotInQ at h
  split at h
  · rename_i ys
    cases e : anyEq x ys with
    | none => rw [e] at h; cases h
    | some b => rw [e] at h; cases h; exact ⟨G, x, ys, b, k.le, rx, ry, e, n.bl k⟩
  · cases h
end
end DS

set_option Elab.async false
set_option linter.all false
set_option maxRecDepth 100000
set_option maxHeartbeats 2000000
set_option autoImplicit false
namespace DS
open PySem PySem.Spec L2
open PyProof.Rows (envOfC)

/-! ### defs with one star parameter -/
def spS (K : PySem.W.Frag) (F : Fd) : Sp := fun vs H Q E => vs.length ≤ sizeLine ∧ ∀ p, H p = none → spD K 1 F [V.ref p] (upd H p (.tup vs)) Q E
section
variable {P : Program} {w : World} {K : PySem.W.Frag} {mg : Str → Option Value} {base : Heap}
theorem fun_star {x qual pv : Str} {st : Stmt} {f : Addr} {fd : FuncData} {N : List Str} {k : Nat} {g : S} (F : Fun K x qual st f fd) (S : FnScope N [pv] (defScope st))
    (hb : ∀ (kV doc pm : Value) (an : Option Addr) (cdv ct : Value) (us : List Value), bindArgs (PySem.W.fnOf x qual (defArgs st) (defBody st) (defScope st) .none kV doc pm an cdv ct) ⟨us, []⟩ = (newTuple us >>= fun t => pure [(pv, t)]))
    (hbody : ∀ (cdv : Value) (A : Around) (outer : List Env) (s : Shared) (H : Hp) (E : XK), Room k (A.deeper (envOfC qual (defScope st) s.heap.objs.size f cdv)) →
      EvB (cxOf CX0 P w K mg base N qual (defScope st) f cdv A outer s H E).nox (defBody st) g) :
    FnR P w K mg base CX0 (k + 1) f (spS K (bodyF N.length g)) := by
  obtain ⟨oc, od, kV, doc, pm, an, cdv, ct, osl, rfl, lk, hcd⟩ := F.ex
  have key := StX.fn_star (P := P) (w := w) (mg := mg) (base := base) (ps := []) (pv := pv) (k := k) (N := N) (sp := spD K 1 (bodyF N.length g)) lk hcd S StX.cxUp_none (fun us rest h => by
    cases us with
    | nil => exact hb kV doc pm an cdv ct rest
    | cons a b => cases h) (fun A outer s H vs Q E hr h => by
    obtain ⟨G, cs, r, cs', hl, k0, hf, hQ⟩ := h
    have hb := hbody cdv A outer s H E hr
    suffices q : tAnySs (cxOf CX0 P w K mg base N qual (defScope st) f cdv A outer s H E).nox (defBody st) { nx := fun _ H' => Q .non H', rt := Q } (L2.start N vs) H by
      obtain ⟨t, ht, q⟩ := q
      exact ⟨t, ht.nox, q⟩
    unfold bodyF at hf
    split at hf
    · rename_i q cs1 e1
      refine hb (ent G H vs cs) G H (L2.start N vs) _ _ _ (k0.start N) e1 ?_
      intro v G' H' σ' k' l' rr
      obtain ⟨k2, r2⟩ := fin_run k0 hf k' l' rr
      exact hQ v G' H' k2 l' r2
    · rename_i cs1 e1
      refine hb (ent G H vs cs) G H (L2.start N vs) _ _ _ (k0.start N) e1 ?_
      intro G' H' σ' k' l'
      obtain ⟨k2, r2⟩ := fin_run k0 hf (v := .non) k' l' (show Rep K G' .non .non by simp only [Rep])
      exact hQ _ G' H' k2 l' r2
    · cases hf)
  exact key.imp fun vs H Q E ⟨h1, h2⟩ => ⟨[], vs, rfl, rfl, h1, h2⟩
end
def callSt (F : Fd) (fs : M (List Res)) : M Res := bnd fs fun rs => match datas rs with
  | some xs => if xs.length ≤ sizeLine then callF F (ret [.d (.tup xs)]) else fun _ => none
  | none => fun _ => none
section
variable {X : Cx} {k : Nat} {f : Addr} {sp : Sp} {x : Str} {e : Expr} {es : List Expr} {t : TA} {p pos : Pos} {F : Fd} {fs : M (List Res)}
theorem pe_callR (Fo : FnR X.prog X.w X.K X.mg X.base CX0 k f sp) (hr : Room k X.A) (hg : Gl X x) (hm : X.mg x = some (.ref f)) (hk : PySem.W.keepIn X.K (.ref f) = true) (ha : PA X (e :: es) t)
    (hdb : (x == ("__debug__" : Str)) = false := by decide) (he : starEach (e :: es) X.env = (false, eval e X.env) :: starEach es X.env := by rfl) (hpl : (backTo pos (starEach es X.env)).any (·.1) = false := by rfl) :
    PE X (.Call (.Name x p) (e :: es) [] pos) (fun σ H Q => t σ H fun vs H1 => sp vs H1 Q E0) := by
  refine ⟨fun pins s σ H Q I h => ?_⟩
  refine wpAny_Call_Name_kw (ld_glob I hg hm ?_ hdb)
  refine PySem.W.callWith_K (h₀ := X.base) I.ok.mod.kin hk (thn (ha.run pos pins s σ H _ I h) fun us s1 ⟨vs, H1, I1, r, q⟩ => ⟨I1.kIn, ?_⟩) he hpl
  refine wpAny_call (codeAny_mono (run_fnR Fo hr pass0 I1 r q) fun r s' hq => ?_)
  cases r with
  | error e => exact hq
  | ok fl =>
    cases fl with
    | ret u => exact hq
    | next => exact False.elim hq
    | brk => exact False.elim hq
    | cont => exact False.elim hq
theorem ev_callSt (Fo : FnR X.prog X.w X.K X.mg X.base CX0 k f (spS X.K F)) (hr : Room k X.A) (hg : Gl X x) (hm : X.mg x = some (.ref f)) (hk : PySem.W.keepIn X.K (.ref f) = true) (ha : EvX X (e :: es) fs)
    (hdb : (x == ("__debug__" : Str)) = false := by decide) (he : starEach (e :: es) X.env = (false, eval e X.env) :: starEach es X.env := by rfl) (hpl : (backTo pos (starEach es X.env)).any (·.1) = false := by rfl) :
    EvE X (.Call (.Name x p) (e :: es) [] pos) (callSt F fs) := by
  intro pt G H σ cs z cs' Q k0 hf hQ
  obtain ⟨rs, cs1, h1, h2⟩ := bnd_inv hf
  cases ed : datas rs with
  | none => rw [ed] at h2; cases h2
  | some xs =>
    rw [ed] at h2
    dsimp only at h2
    split at h2
    · rename_i hz
      refine ⟨_, pe_callR Fo hr hg hm hk pa_any hdb he hpl, ?_⟩
      refine ha pt G H σ cs _ _ _ k0 h1 fun vs G1 H1 k1 l1 a1 => ?_
      have rp := datas_ok a1 ed
      refine ⟨by rw [rp.len]; exact hz, fun q hq => ?_⟩
      obtain ⟨k2, l2, r2⟩ := k1.resTup hq rp
      obtain ⟨rs', c2, e1, e2⟩ := bnd_inv h2
      cases e1
      have a2 : ArgsOk X.K (upd G1 q (.tup vs)) σ [.d (.tup xs)] [.ref q] := ⟨_, _, rfl, r2, rfl⟩
      split at e2
      · rename_i nd
        split at e2
        · rename_i as m
          split at e2
          · rename_i x as' e3
            split at e2
            · rename_i bk
              cases e2
              refine ⟨_, as, _, as', rfl, k2.args a2 nd m, e3, fun v G' H' k' l' r' => ?_⟩
              exact hQ v G' H' (k2.after a2 nd m bk k' l') (l1.trans (l2.trans l')) r'
            · cases e2
          · rename_i c as' e3
            split at e2
            · rename_i bk
              cases e2
              refine ⟨_, as, _, as', rfl, k2.args a2 nd m, e3, fun v G' H' k' l' r' => ?_⟩
              obtain ⟨ad, ho, e0, g1, g2, g3, g4, g5⟩ := r'
              exact hQ v G' H' (k2.after a2 nd m bk k' l') (l1.trans (l2.trans l')) ⟨ad, ho, e0, g1, g2, g3, k2.dom ad g4, Free.after k2 a2 nd m bk g4⟩
            · cases e2
          · cases e2
        · cases e2
      · cases e2
    · cases h2
end
end DS

set_option Elab.async false
set_option linter.all false
set_option maxRecDepth 100000
set_option maxHeartbeats 2000000
set_option autoImplicit false
namespace DS
open PySem PySem.Spec L2

/-! ### slices -/
def cutD (xs : List D) (lo hi : Option Int) : List D := (xs.drop (HT.sIx xs.length 0 lo)).take (HT.sIx xs.length xs.length hi - HT.sIx xs.length 0 lo)
def oSl (x : D) (lo hi : Option Int) : Option Res := match x with
  | .tup xs => some (.d (.tup (cutD xs lo hi)))
  | .lst xs => some (.o (.l (cutD xs lo hi)))
  | .str z => if z.length ≤ sizeLine then some (.d (.str (Txt.slice z lo hi))) else none
  | _ => none
def rSlAll (K : PySem.W.Frag) : V → Option Int → Option Int → Hp → VK → Prop := fun x lo hi H Q => rSlA K x lo hi H Q ∨ rSlL K x lo hi H Q ∨ C8.rSlX x lo hi H Q
theorem sl_all {X : Cx} : SlR X (rSlAll X.K) := sl_tupA.or (sl_list.or C8.sl_txt)
theorem Reps.cut {K : PySem.W.Frag} {G : Hp} {xs : List D} {vs : List V} {lo hi : Option Int} (h : Reps K G xs vs) : Reps K G (cutD xs lo hi) (cutV vs lo hi) := by
  unfold cutD cutV
  rw [h.len]
  exact (h.drop _).take _
def EvO (X : Cx) (e : Option Expr) (f : M (Option Int)) : Prop := ∀ (p : Pt) (G H : Hp) (σ : L2.St) (cs : Cs) (r : Option Int) (cs' : Cs) (Q : Option Int → Hp → Prop), Ok X.K p G H σ cs → f cs = some (r, cs') →
  (∀ G' H', Ok X.K p G' H' σ cs' → Le G G' → Q r H') → ∃ t, PO X e t ∧ t σ H Q
def noO : M (Option Int) := ret none
def soO (f : M Res) : M (Option Int) := bnd (asD f) fun x => match x with
  | .int i => ret (some i)
  | _ => fun _ => none
def slV (f : M Res) (lo hi : M (Option Int)) : M Res := bnd (asR f) fun r => bnd lo fun l => bnd hi fun u => bnd (vw r) fun x => lft (oSl x l u)
section
variable {X : Cx} {e : Expr} {f : M Res}
theorem eo_no : EvO X none noO := by
  intro p G H σ cs r cs' Q k hf hQ
  cases hf
  exact ⟨_, po_none, hQ G H k (.refl _)⟩
theorem eo_so (h : EvE X e f) : EvO X (some e) (soO f) := by
  intro p G H σ cs r cs' Q k hf hQ
  obtain ⟨x, cs1, h1, h2⟩ := bnd_inv hf
  refine ⟨_, po_some pe_any, ?_⟩
  refine h.d p G H σ cs _ _ _ k h1 fun v G1 H1 k1 l1 r1 => ?_
  split at h2
  · rename_i i
    cases h2
    simp only [Rep] at r1
    exact ⟨i, r1, hQ G1 H1 k1 l1⟩
  · cases h2
variable {lo hi : Option Expr} {fl fu : M (Option Int)} {pos p2 : Pos}
theorem ev_sl (he : EvE X e f) (hl : EvO X lo fl) (hu : EvO X hi fu) : EvE X (.Subscript e (.Slice lo hi none p2) pos) (slV f fl fu) := by
  intro p G H σ cs z cs' Q k hf hQ
  obtain ⟨r, c1, q1, q2⟩ := bnd_inv hf
  obtain ⟨l, c2, q3, q4⟩ := bnd_inv q2
  obtain ⟨u, c3, q5, q6⟩ := bnd_inv q4
  obtain ⟨x, c4, q7, q8⟩ := bnd_inv q6
  obtain ⟨q9, rfl⟩ := vw_inv q7
  obtain ⟨q10, rfl⟩ := lft_inv q8
  have key : ∃ tl th, PO X lo tl ∧ PO X hi th ∧ tSl (rSlAll X.K) (tAny X e) tl th σ H Q := by
    refine ⟨fun σ H Q => ∃ t, PO X lo t ∧ t σ H Q, fun σ H Q => ∃ t, PO X hi t ∧ t σ H Q, ⟨fun pins s σ H Q I ⟨_, h, q⟩ => h.run pins s σ H Q I q⟩, ⟨fun pins s σ H Q I ⟨_, h, q⟩ => h.run pins s σ H Q I q⟩, ?_⟩
    refine he.r p G H σ cs _ _ _ k q1 fun v G1 H1 k1 l1 a1 => ?_
    refine hl p G1 H1 σ c1 _ _ _ k1 q3 fun G2 H2 k2 l2 => ?_
    refine hu p G2 H2 σ c2 _ _ _ k2 q5 fun G3 H3 k3 l3 => ?_
    have rv := ArgOk.view k3 ((a1.le l2).le l3) q9
    have n : Nxt X p G3 σ cs' z Q := fun u G' H' k' l' rr => hQ u G' H' k' (l1.trans (l2.trans (l3.trans l'))) rr
    unfold oSl at q10
    split at q10
    · cases q10
      rename_i xs
      have rv0 := rv
      obtain ⟨a, us, rfl, t1, r1⟩ := rv.tup k3.le
      refine .inl ⟨a, us, rfl, t1, fun hw => ?_, fun _ q hq => n.tup k3 hq r1.cut⟩
      rcases rv0 with rv0 | ⟨c, _, _, e1, _⟩
      · have e : cutD xs l u = xs := by
          unfold cutD
          rw [r1.len] at hw
          rw [hw.1, hw.2]
          simp
        rw [e] at n
        exact n.rep k3 rv0
      · cases c <;> cases e1
    · cases q10
      obtain ⟨a, us, rfl, t1, r1⟩ := rv.lst k3.le
      exact .inr (.inl ⟨a, us, rfl, SqL.of t1, fun q hq => n.new k3 hq ⟨_, rfl, r1.cut⟩⟩)
    · split at q10
      · rename_i hz
        cases q10
        exact .inr (.inr ⟨_, rv.str, hz, n.str k3⟩)
      · cases q10
    · cases q10
  obtain ⟨tl, th, p1, p2, q⟩ := key
  exact ⟨_, pe_slice sl_all pe_any p1 p2, q⟩
end

/-! ### {k: v, ..} -/
def pairsN : M (List (Key × D)) := ret []
def pairsC (f g : M Res) (h : M (List (Key × D))) : M (List (Key × D)) := bnd (asD f) fun x => bnd (asD g) fun y => bnd h fun r => match dKey x with
  | some k => ret ((k, y) :: r)
  | none => fun _ => none
def EvP (X : Cx) (pos : Pos) (ks : List (Option Expr)) (vs : List Expr) (f : M (List (Key × D))) : Prop := ∃ trs, PPs X pos ks vs trs ∧ ∀ (p : Pt) (G H : Hp) (σ : L2.St) (cs : Cs) (r : List (Key × D)) (cs' : Cs) (Q : List (V × V) → Hp → Prop), Ok X.K p G H σ cs → f cs = some (r, cs') →
  (∀ kvs G' H', Ok X.K p G' H' σ cs' → Le G G' → RepK X.K G' r kvs → Q (kvs.map fun kv => (kV kv.1, kv.2)) H') → tPairs trs σ H Q
def dspK (f : M (List (Key × D))) : M Res := bnd f fun m => ret (.o (.k (dMerge [] m)))
section
variable {X : Cx} {pos : Pos} {ks : List (Option Expr)} {vs : List Expr} {ke ve : Expr} {f g : M Res} {h : M (List (Key × D))}
theorem ep_nil : EvP X pos [] [] pairsN := ⟨[], pps_nil, by
  intro p G H σ cs r cs' Q k hf hQ
  cases hf
  exact hQ [] G H k (.refl _) (by simp only [RepK])⟩
theorem ep_cons (hk : EvE X ke f) (hv : EvE X ve g) (hr : EvP X pos ks vs h) : EvP X pos (some ke :: ks) (ve :: vs) (pairsC f g h) := by
  obtain ⟨trs, P, hr⟩ := hr
  refine ⟨(tAny X ke, tAny X ve) :: trs, pps_cons pe_any pe_any P, ?_⟩
  intro p G H σ cs r cs' Q k hf hQ
  obtain ⟨x, c1, q1, q2⟩ := bnd_inv hf
  obtain ⟨y, c2, q3, q4⟩ := bnd_inv q2
  obtain ⟨m, c3, q5, q6⟩ := bnd_inv q4
  cases ek : dKey x with
  | none => rw [ek] at q6; cases q6
  | some kk =>
    rw [ek] at q6
    cases q6
    refine hk.d p G H σ cs _ _ _ k q1 fun kv G1 H1 k1 l1 r1 => ?_
    refine hv.d p G1 H1 σ c1 _ _ _ k1 q3 fun vv G2 H2 k2 l2 r2 => ?_
    refine hr p G2 H2 σ c2 _ _ _ k2 q5 fun kvs G3 H3 k3 l3 r3 => ?_
    have e := dKey_rep (H := H1) ek (.inl r1)
    have := hQ ((kk, vv) :: kvs) G3 H3 k3 (l1.trans (l2.trans l3)) (by simp only [RepK]; exact ⟨vv, kvs, rfl, r2.le l3, r3⟩)
    rw [e]
    exact this
theorem ev_dsp (hp : EvP X pos ks vs h) (hall : ks.all (·.isSome) = true) (hl : ks.length = vs.length) (h0 : ks ≠ []) (h15 : ks.length ≤ 15) (hn : ∀ cs r cs', h cs = some (r, cs') → r.length ≤ 15) : EvE X (.Dict ks vs pos) (dspK h) := by
  intro p G H σ cs z cs' Q k hf hQ
  obtain ⟨trs, P, hr⟩ := hp
  obtain ⟨m, c1, q1, q2⟩ := bnd_inv hf
  cases q2
  refine ⟨_, pe_disp P hall hl h0 h15, fun q hq => ?_⟩
  have k1 := k.new (o := .dK []) hq
  have fq := k.free_new hq
  refine hr (blkP p G _ σ cs) G _ σ cs _ _ _ (k1.enter []) q1 fun kvs G1 H1 k2 l1 rk => ?_
  obtain ⟨s1, s2⟩ := k1.stays k2 upd_same (k.sub q hq) (k.dom q hq) fq
  have k3 : Ok X.K p G1 H1 σ cs' := k1.leave (vs := []) rfl k2 l1 rfl
  have f3 : Free σ cs' q := Free.leave k1 (vs := []) rfl k2 rfl upd_same (k.dom q hq) fq
  refine ⟨s1, kvs, rfl, by rw [rk.len]; exact hn _ _ _ q1, ?_⟩
  exact hQ _ _ _ (k3.poke (o' := .dK (mergeK [] kvs)) s1 s2 (k.dom q hq) f3) l1 ⟨q, _, rfl, upd_same, ⟨_, rfl, RepK.merge (by simp only [RepK]) rk⟩, s2, k.dom q hq, f3⟩
theorem pn_nil : ∀ cs r cs', pairsN cs = some (r, cs') → r.length ≤ 0 := by
  intro cs r cs' h
  cases h
  exact Nat.le_refl _
theorem pn_cons {n : Nat} (hh : ∀ cs r cs', h cs = some (r, cs') → r.length ≤ n) : ∀ cs r cs', pairsC f g h cs = some (r, cs') → r.length ≤ n + 1 := by
  intro cs r cs' hf
  obtain ⟨x, c1, q1, q2⟩ := bnd_inv hf
  obtain ⟨y, c2, q3, q4⟩ := bnd_inv q2
  obtain ⟨m, c3, q5, q6⟩ := bnd_inv q4
  cases ek : dKey x with
  | none => rw [ek] at q6; cases q6
  | some kk =>
    rw [ek] at q6
    cases q6
    exact Nat.succ_le_succ (hh _ _ _ q5)
end
/-! ### dict(d) -/
def oDictC : List D → Option Res
  | [.dk m] => some (.o (.k m))
  | _ => none
section
variable {X : Cx}
theorem call_dictC : CallR X (.type "dict") (fun xs H Q => ∃ a kvs, xs = [V.ref a] ∧ Rd H a (.dK kvs) ∧ ∀ p, H p = none → Q (.ref p) (upd H p (.dK kvs))) := by
  intro pins s σ H xs us Q I r h
  obtain ⟨a, kvs, rfl, hk, q⟩ := h
  obtain ⟨u, rfl, ru⟩ := vals1 r
  cases ru
  exact d_copyOf I hk fun p s' hp I' => ⟨.ref p, _, I', rfl, q p hp⟩
theorem dictC_ok : OpN X (fun xs H Q => ∃ a kvs, xs = [V.ref a] ∧ Rd H a (.dK kvs) ∧ ∀ p, H p = none → Q (.ref p) (upd H p (.dK kvs))) oDictC := by
  intro p G H σ cs xs vs z Q k r h n
  unfold oDictC at h
  split at h
  · cases h
    obtain ⟨v, rfl, rv⟩ := r.one_inv
    obtain ⟨a, us, rfl, h1, h2⟩ := rv.dk k.le
    exact ⟨a, us, rfl, h1, fun q hq => n.new k hq ⟨us, rfl, h2⟩⟩
  · cases h
end
end DS

set_option Elab.async false
set_option linter.all false
set_option maxRecDepth 100000
set_option maxHeartbeats 2000000
set_option autoImplicit false
namespace DS
open PySem PySem.Spec L2
/-! ### names of built-ins -/
theorem bt_len : bootBuiltins "len" = some (.builtin "len") := by decide +kernel
theorem bt_max : bootBuiltins "max" = some (.builtin "max") := by decide +kernel
theorem bt_min : bootBuiltins "min" = some (.builtin "min") := by decide +kernel
theorem bt_sorted : bootBuiltins "sorted" = some (.builtin "sorted") := by decide +kernel
theorem bt_any : bootBuiltins "any" = some (.builtin "any") := by decide +kernel
theorem bt_all : bootBuiltins "all" = some (.builtin "all") := by decide +kernel
theorem bt_sum : bootBuiltins "sum" = some (.builtin "sum") := by decide +kernel
theorem bt_isinstance : bootBuiltins "isinstance" = some (.builtin "isinstance") := by decide +kernel
theorem bt_abs : bootBuiltins "abs" = some (.builtin "abs") := by decide +kernel
theorem bt_int : bootBuiltins "int" = some (.type "int") := by decide +kernel
theorem bt_tuple : bootBuiltins "tuple" = some (.type "tuple") := by decide +kernel
theorem bt_list : bootBuiltins "list" = some (.type "list") := by decide +kernel
theorem bt_dict : bootBuiltins "dict" = some (.type "dict") := by decide +kernel
theorem bt_str : bootBuiltins "str" = some (.type "str") := by decide +kernel
theorem bt_bool : bootBuiltins "bool" = some (.type "bool") := by decide +kernel
theorem bt_range : bootBuiltins "range" = some (.type "range") := by decide +kernel
theorem bt_zip : bootBuiltins "zip" = some (.type "zip") := by decide +kernel
theorem bt_set : bootBuiltins "set" = some (.type "set") := by decide +kernel
theorem bt_enumerate : bootBuiltins "enumerate" = some (.type "enumerate") := by decide +kernel
theorem u64 {k : Nat} {A : Around} (hr : Room k A) : A.units + 64 < cLine := by
  have := u65 hr
  omega
end DS

set_option Elab.async false
set_option linter.all false
set_option maxRecDepth 100000
set_option maxHeartbeats 2000000
set_option autoImplicit false
namespace DS
open PySem PySem.Spec L2
/-! ### constants of the top; the law's own call -/
theorem rel_abs {x : V} {u : Value} (h : absV u = some x) : RelV x u := by
  cases u <;> simp only [absV] at h <;> cases h <;> first | rfl | exact ⟨_, rfl⟩
theorem vals_abs : ∀ {xs : List V} {us : List Value}, us.map absV = xs.map some → Vals xs us
  | [], [], _ => .nil
  | x :: xs, u :: us, h => by
    simp only [List.map_cons, List.cons.injEq] at h
    exact .cons (rel_abs h.1) (vals_abs h.2)
  | [], _ :: _, h => by simp at h
  | _ :: _, [], h => by simp at h
def flatV : D → Option V
  | .non => some .non
  | .bl b => some (.bl b)
  | .int i => some (.int i)
  | .str s => some (.str s)
  | _ => none
theorem reps_flat {K : PySem.W.Frag} {G : Hp} : ∀ {ds : List D} {vs : List V}, ds.map flatV = vs.map some → Reps K G ds vs
  | [], [], _ => .nil
  | d :: ds, v :: vs, h => by
    simp only [List.map_cons, List.cons.injEq] at h
    refine .cons ?_ (reps_flat h.2)
    have := h.1
    cases d <;> simp only [flatV] at this <;> cases this <;> simp only [Rep]
  | [], _ :: _, h => by simp at h
  | _ :: _, [], h => by simp at h
theorem con_rep {K : PySem.W.Frag} {G : Hp} {a : Addr} {o : Option Addr} {its : Array Value} {n : Nat} {sl : Array (Option Value)} {ds : List D} {vs : List V} (l : K.lookup a = some ⟨.type "tuple", o, .seq its n, sl⟩) (e : its.toList.map absV = vs.map some) (hz : vs.length ≤ 1000)
    (h : ds.map flatV = vs.map some) : Rep K G (.tup ds) (.ref a) := by
  simp only [Rep]
  have hl : its.size = vs.length := by
    have := congrArg List.length e
    simpa using this
  exact ⟨a, vs, rfl, .inr ⟨_, its, n, l, rfl, rfl, by rw [hl, sizeLine_eq]; omega, vals_abs e⟩, reps_flat h⟩
theorem spD_law {K : PySem.W.Frag} {F : Fd} {ns : List Int} {a : Addr} {H : Hp} {Q : VK} {E : XK} {cs' : Cs} (h : SqL K H a (ns.map V.int)) (hF : F [.d (.scr ns)] = some (.d (.bl true), cs')) (q : ∀ H', Q (.bl true) H') : spD K 1 F [V.ref a] H Q E := by
  refine ⟨H, [.d (.scr ns)], _, _, rfl, ?_, hF, fun v G' H' k l r => ?_⟩
  · refine ⟨rfl, fun i c v e1 e2 => ?_, fun i j io io' c c' ad e1 => ?_, .refl _, fun _ h => h, fun _ _ e _ => e, fun _ h => h, .refl _, fun _ h => .inl h, fun i ad e => ?_⟩
    · cases i with
      | zero =>
        cases e1
        cases e2
        exact ⟨_, rfl, by simp only [Rep]; exact ⟨a, rfl, h⟩⟩
      | succ i => cases e1
    · cases i with
      | zero => cases e1
      | succ i => cases e1
    · obtain ⟨⟨b, c, e1⟩, _⟩ := ent_io e
      cases i with
      | zero => cases e1
      | succ i => cases e1
  · have r' : Rep K G' (.bl true) v := r
    simp only [Rep] at r'
    subst r'
    exact q H'
end DS

set_option Elab.async false
set_option linter.all false
set_option maxRecDepth 100000
set_option maxHeartbeats 2000000
set_option autoImplicit false
namespace DS
open PySem PySem.Spec L2
/-! ### what a pure program does, by what is to hold behind it -/
def R {α : Type} (m : M α) (cs : Cs) (Q : α → Cs → Prop) : Prop := ∃ a cs', m cs = some (a, cs') ∧ Q a cs'
def RS (g : S) (cs : Cs) (Q : Out → Prop) : Prop := ∃ o, g cs = some o ∧ Q o
def RL (h : D → Cs → Option Cs) (g : S) (xs : List D) (cs : Cs) (Q : Out → Prop) : Prop := ∃ o, forL h g xs cs = some o ∧ Q o
def RG (h : D → Cs → Option Cs) (x : D) (cs : Cs) (Q : Cs → Prop) : Prop := ∃ cs', h x cs = some cs' ∧ Q cs'
def callR (F : Fd) (rs : List Res) : M Res := fun cs => if (slots rs).Nodup then
  (match mkArgs cs rs with
  | some as => (match F as with
    | some (.d x, as') => if backOk rs as' then some (.d x, putBack cs rs as') else none
    | some (.o c, as') => if backOk rs as' then some (.o c, putBack cs rs as') else none
    | _ => none)
  | none => none) else none
/-- a step that may fail -/
def opK {α : Type} (o : Option α) (k : α → Prop) : Prop := ∃ z, o = some z ∧ k z
@[simp ↓] theorem opK_some {α : Type} (z : α) (k : α → Prop) : opK (some z) k ↔ k z := ⟨fun ⟨_, e, q⟩ => by cases e; exact q, fun q => ⟨z, rfl, q⟩⟩
@[simp ↓] theorem opK_none {α : Type} (k : α → Prop) : opK none k ↔ False := ⟨fun ⟨_, e, _⟩ => (nomatch e), fun q => False.elim q⟩
@[simp ↓] theorem opK_ite {α : Type} (c : Prop) [Decidable c] (z : α) (k : α → Prop) : opK (if c then some z else none) k ↔ c ∧ k z := by
  by_cases h : c
  · rw [if_pos h, opK_some]; exact ⟨fun q => ⟨h, q⟩, fun q => q.2⟩
  · rw [if_neg h, opK_none]; exact ⟨fun q => False.elim q, fun q => h q.1⟩
section
variable {α β : Type} {cs : Cs}
theorem R.mono {m : M α} {Q Q' : α → Cs → Prop} (h : R m cs Q) (q : ∀ a cs', Q a cs' → Q' a cs') : R m cs Q' := by
  obtain ⟨a, cs', e, h⟩ := h
  exact ⟨a, cs', e, q a cs' h⟩
theorem RS.mono {m : S} {Q Q' : Out → Prop} (h : RS m cs Q) (q : ∀ o, Q o → Q' o) : RS m cs Q' := by
  obtain ⟨a, e, h⟩ := h
  exact ⟨a, e, q a h⟩
@[simp ↓] theorem R_bnd (f : M α) (g : α → M β) (Q : β → Cs → Prop) : R (bnd f g) cs Q ↔ R f cs fun a cs1 => R (g a) cs1 Q := by
  constructor
  · rintro ⟨b, cs', e, q⟩
    obtain ⟨a, cs1, e1, e2⟩ := bnd_inv e
    exact ⟨a, cs1, e1, b, cs', e2, q⟩
  · rintro ⟨a, cs1, e1, b, cs', e2, q⟩
    exact ⟨b, cs', by rw [bnd_some e1, e2], q⟩
@[simp ↓] theorem R_ret (a : α) (Q : α → Cs → Prop) : R (ret a) cs Q ↔ Q a cs := by
  constructor
  · rintro ⟨b, cs', e, q⟩; cases e; exact q
  · exact fun q => ⟨a, cs, rfl, q⟩
@[simp ↓] theorem R_kon (x : D) (Q : Res → Cs → Prop) : R (kon x) cs Q ↔ Q (.d x) cs := R_ret _ _
@[simp ↓] theorem R_fail (Q : α → Cs → Prop) : R (fun _ => none) cs Q ↔ False := ⟨fun ⟨_, _, e, _⟩ => (nomatch e), fun h => False.elim h⟩
@[simp ↓] theorem R_some (a : α) (f : Cs → Cs) (Q : α → Cs → Prop) : R (fun cs => some (a, f cs)) cs Q ↔ Q a (f cs) := by
  constructor
  · rintro ⟨b, cs', e, q⟩; cases e; exact q
  · exact fun q => ⟨a, _, rfl, q⟩
def isDat : Option Cell → Option D
  | some (.d x) => some x
  | _ => none
/-- a slot, read -/
def onC (i : Nat) (k : Res → Prop) : Option Cell → Prop
  | some (.d x) => k (.d x)
  | some (.o _ _) => k (.s i)
  | _ => False
theorem onC_d (i : Nat) (k : Res → Prop) (x : D) : onC i k (some (.d x)) = k (.d x) := rfl
theorem onC_o (i : Nat) (k : Res → Prop) (io : Bool) (x : O) : onC i k (some (.o io x)) = k (.s i) := rfl
theorem R_getV (i : Nat) (Q : Res → Cs → Prop) : R (getV i) cs Q ↔ onC i (fun r => Q r cs) cs[i]? := by
  unfold R getV
  cases h : cs[i]? with
  | none => exact ⟨fun ⟨_, _, e, _⟩ => (nomatch e), fun q => False.elim q⟩
  | some c =>
    cases c with
    | un => exact ⟨fun ⟨_, _, e, _⟩ => (nomatch e), fun q => False.elim q⟩
    | d x => exact ⟨fun ⟨_, _, e, q⟩ => by cases e; exact q, fun q => ⟨_, _, rfl, q⟩⟩
    | o io c => exact ⟨fun ⟨_, _, e, q⟩ => by cases e; exact q, fun q => ⟨_, _, rfl, q⟩⟩
def onF (i : Nat) (cs : Cs) (k : Res → Cs → Prop) : Option Cell → Prop
  | some (.o false c) => k (.d c.fz) (cs.set i (.d c.fz))
  | some (.d x) => k (.d x) cs
  | _ => False
theorem onF_d (i : Nat) (k : Res → Cs → Prop) (x : D) : onF i cs k (some (.d x)) = k (.d x) cs := rfl
theorem onF_o (i : Nat) (k : Res → Cs → Prop) (x : O) : onF i cs k (some (.o false x)) = k (.d x.fz) (cs.set i (.d x.fz)) := rfl
theorem R_fzV2 (i : Nat) (Q : Res → Cs → Prop) : R (fzV2 i) cs Q ↔ onF i cs Q cs[i]? := by
  unfold R fzV2
  cases h : cs[i]? with
  | none => exact ⟨fun ⟨_, _, e, _⟩ => (nomatch e), fun q => False.elim q⟩
  | some c =>
    cases c with
    | un => exact ⟨fun ⟨_, _, e, _⟩ => (nomatch e), fun q => False.elim q⟩
    | d x => exact ⟨fun ⟨_, _, e, q⟩ => by cases e; exact q, fun q => ⟨_, _, rfl, q⟩⟩
    | o io c =>
      cases io with
      | false => exact ⟨fun ⟨_, _, e, q⟩ => by cases e; exact q, fun q => ⟨_, _, rfl, q⟩⟩
      | true => exact ⟨fun ⟨_, _, e, _⟩ => (nomatch e), fun q => False.elim q⟩
/-- data, whatever the place -/
def onD (k : D → Prop) : Res → Prop
  | .d x => k x
  | _ => False
@[simp ↓] theorem onD_d (k : D → Prop) (x : D) : onD k (.d x) = k x := rfl
@[simp ↓] theorem R_lft (o : Option α) (Q : α → Cs → Prop) : R (lft o) cs Q ↔ opK o fun a => Q a cs := by
  unfold opK
  constructor
  · rintro ⟨b, cs', e, q⟩
    obtain ⟨e1, rfl⟩ := lft_inv e
    exact ⟨b, e1, q⟩
  · rintro ⟨a, rfl, q⟩
    exact ⟨a, cs, rfl, q⟩
@[simp ↓] theorem R_vw (r : Res) (Q : D → Cs → Prop) : R (vw r) cs Q ↔ opK (view cs r) fun x => Q x cs := by
  unfold opK
  constructor
  · rintro ⟨b, cs', e, q⟩
    obtain ⟨e1, rfl⟩ := vw_inv e
    exact ⟨b, e1, q⟩
  · rintro ⟨a, e, q⟩
    exact ⟨a, cs, by unfold vw; rw [e], q⟩
@[simp ↓] theorem R_vws (r : List Res) (Q : List D → Cs → Prop) : R (vws r) cs Q ↔ opK (views cs r) fun x => Q x cs := by
  unfold opK
  constructor
  · rintro ⟨b, cs', e, q⟩
    obtain ⟨e1, rfl⟩ := vws_inv e
    exact ⟨b, e1, q⟩
  · rintro ⟨a, e, q⟩
    exact ⟨a, cs, by unfold vws; rw [e], q⟩
theorem view_d (x : D) : view cs (.d x) = some x := rfl
theorem view_o (c : O) : view cs (.o c) = some c.fz := rfl
theorem view_s (i : Nat) : view cs (.s i) = (match cs[i]? with | some (.o _ c) => some c.fz | _ => none) := rfl
theorem views_nil : views cs [] = some [] := rfl
theorem views_cons (r : Res) (rs : List Res) : views cs (r :: rs) = (match view cs r with | some x => (match views cs rs with | some xs => some (x :: xs) | none => none) | none => none) := rfl
theorem fz_l (xs : List D) : O.fz (.l xs) = .lst xs := rfl
theorem fz_k (m : List (Key × D)) : O.fz (.k m) = .dk m := rfl
theorem frz_d (x : D) : frz (.d x) = .d x := rfl
theorem frz_o (c : O) : frz (.o c) = .d c.fz := rfl
theorem frz_s (i : Nat) : frz (.s i) = .s i := rfl
@[simp ↓] theorem R_asR (f : M Res) (Q : Res → Cs → Prop) : R (asR f) cs Q ↔ R f cs fun r cs' => Q (frz r) cs' := by
  unfold asR
  rw [R_bnd]
  simp only [R_ret]
@[simp ↓] theorem R_asD (f : M Res) (Q : D → Cs → Prop) : R (asD f) cs Q ↔ R f cs fun r cs' => onD (fun x => Q x cs') (frz r) := by
  unfold asD
  rw [R_bnd, R_asR]
  constructor
  · rintro ⟨r, cs', e, h⟩
    refine ⟨r, cs', e, ?_⟩
    cases r with
    | d x => exact (R_ret _ _).mp h
    | o c => exact (R_ret _ _).mp h
    | s i => exact (R_fail _).mp h
  · rintro ⟨r, cs', e, h⟩
    refine ⟨r, cs', e, ?_⟩
    cases r with
    | d x => exact (R_ret _ _).mpr h
    | o c => exact (R_ret _ _).mpr h
    | s i => exact False.elim h
@[simp ↓] theorem R_un (f : M Res) (op : D → Option Res) (Q : Res → Cs → Prop) : R (un f op) cs Q ↔ R f cs fun r cs1 => opK (view cs1 (frz r)) fun x => opK (op x) fun z => Q z cs1 := by
  unfold un
  simp only [R_bnd, R_asR, R_vw, R_lft]
@[simp ↓] theorem R_bi (f g : M Res) (op : D → D → Option Res) (Q : Res → Cs → Prop) : R (bi f g op) cs Q ↔ R f cs fun r cs1 => R g cs1 fun q cs2 => opK (view cs2 (frz r)) fun x => opK (view cs2 (frz q)) fun y => opK (op x y) fun z => Q z cs2 := by
  unfold bi
  simp only [R_bnd, R_asR, R_vw, R_lft]
@[simp ↓] theorem R_fn (f : M (List Res)) (op : List D → Option Res) (Q : Res → Cs → Prop) : R (fn f op) cs Q ↔ R f cs fun rs cs1 => opK (views cs1 rs) fun xs => opK (op xs) fun z => Q z cs1 := by
  unfold fn
  simp only [R_bnd, R_vws, R_lft]
@[simp ↓] theorem R_argNil (Q : List Res → Cs → Prop) : R argNil cs Q ↔ Q [] cs := R_ret _ _
@[simp ↓] theorem R_argCons (f : M Res) (g : M (List Res)) (Q : List Res → Cs → Prop) : R (argCons f g) cs Q ↔ R f cs fun r cs1 => R g cs1 fun rs cs2 => Q (frz r :: rs) cs2 := by
  unfold argCons
  simp only [R_bnd, R_asR, R_ret]
@[simp ↓] theorem R_tst (f : M Res) (Q : Bool → Cs → Prop) : R (tst f) cs Q ↔ R f cs fun r cs1 => opK (view cs1 (frz r)) fun x => opK (truD x) fun b => Q b cs1 := by
  unfold tst
  simp only [R_bnd, R_asR, R_vw, R_lft]
def asB : Res → Option Bool
  | .d (.bl b) => some b
  | _ => none
theorem asB_bl (b : Bool) : asB (.d (.bl b)) = some b := rfl
@[simp ↓] theorem R_tsb (f : M Res) (Q : Bool → Cs → Prop) : R (tsb f) cs Q ↔ R f cs fun r cs1 => opK (asB r) fun b => Q b cs1 := by
  unfold tsb
  rw [R_bnd]
  constructor
  · rintro ⟨r, cs', e, h⟩
    refine ⟨r, cs', e, ?_⟩
    split at h
    · rename_i b; exact ⟨b, rfl, (R_ret _ _).mp h⟩
    · exact False.elim ((R_fail _).mp h)
  · rintro ⟨r, cs', e, b, hb, h⟩
    refine ⟨r, cs', e, ?_⟩
    unfold asB at hb
    split at hb
    · cases hb; exact (R_ret _ _).mpr h
    · cases hb
@[simp ↓] theorem R_ite (b : Prop) [Decidable b] (f g : M α) (Q : α → Cs → Prop) : R (if b then f else g) cs Q ↔ (if b then R f cs Q else R g cs Q) := by
  split <;> rfl
@[simp ↓] theorem R_andT (f g : M Bool) (Q : Bool → Cs → Prop) : R (andT f g) cs Q ↔ R f cs fun b cs1 => if b = true then R g cs1 Q else Q false cs1 := by
  unfold andT
  simp only [R_bnd, R_ite, R_ret]
@[simp ↓] theorem R_orT (f g : M Bool) (Q : Bool → Cs → Prop) : R (orT f g) cs Q ↔ R f cs fun b cs1 => if b = true then Q true cs1 else R g cs1 Q := by
  unfold orT
  simp only [R_bnd, R_ite, R_ret]
@[simp ↓] theorem R_notT (f : M Bool) (Q : Bool → Cs → Prop) : R (notT f) cs Q ↔ R f cs fun b cs1 => Q (!b) cs1 := by
  unfold notT
  simp only [R_bnd, R_ret]
@[simp ↓] theorem R_andV (f g : M Res) (Q : Res → Cs → Prop) : R (andV f g) cs Q ↔ R f cs fun r cs1 => opK (asB r) fun b => if b = true then R g cs1 Q else Q (.d (.bl false)) cs1 := by
  unfold andV
  simp only [R_bnd, R_tsb, R_ite, R_ret]
@[simp ↓] theorem R_orV (f g : M Res) (Q : Res → Cs → Prop) : R (orV f g) cs Q ↔ R f cs fun r cs1 => opK (asB r) fun b => if b = true then Q (.d (.bl true)) cs1 else R g cs1 Q := by
  unfold orV
  simp only [R_bnd, R_tsb, R_ite, R_ret]
@[simp ↓] theorem R_notV (f : M Res) (Q : Res → Cs → Prop) : R (notV f) cs Q ↔ R f cs fun r cs1 => opK (asB r) fun b => Q (.d (.bl (!b))) cs1 := by
  unfold notV
  simp only [R_bnd, R_tsb, R_ret]
@[simp ↓] theorem R_ifV (t : M Bool) (f g : M Res) (Q : Res → Cs → Prop) : R (ifV t f g) cs Q ↔ R t cs fun b cs1 => if b = true then R f cs1 Q else R g cs1 Q := by
  unfold ifV
  simp only [R_bnd, R_ite]
def oTup (rs : List Res) : Option Res := match datas rs with
  | some ds => iDec (ds.length ≤ sizeLine) (.d (.tup ds))
  | none => none
def oLst (rs : List Res) : Option Res := match datas rs with
  | some ds => iDec (ds.length ≤ sizeLine) (.o (.l ds))
  | none => none
@[simp ↓] theorem R_mkT (f : M (List Res)) (Q : Res → Cs → Prop) : R (mkT f) cs Q ↔ R f cs fun rs cs1 => opK (datas rs) fun ds => ds.length ≤ sizeLine ∧ Q (.d (.tup ds)) cs1 := by
  unfold mkT
  simp only [R_bnd, R_lft]
  constructor
  · rintro ⟨rs, cs1, e, z, hz, q⟩
    refine ⟨rs, cs1, e, ?_⟩
    split at hz
    · rename_i ds hd
      obtain ⟨hl, rfl⟩ := iDec_inv hz
      exact ⟨ds, hd, hl, q⟩
    · cases hz
  · rintro ⟨rs, cs1, e, ds, hd, hl, q⟩
    refine ⟨rs, cs1, e, _, ?_, q⟩
    rw [hd]
    exact if_pos hl
@[simp ↓] theorem R_mkL (f : M (List Res)) (Q : Res → Cs → Prop) : R (mkL f) cs Q ↔ R f cs fun rs cs1 => opK (datas rs) fun ds => ds.length ≤ sizeLine ∧ Q (.o (.l ds)) cs1 := by
  unfold mkL
  simp only [R_bnd, R_lft]
  constructor
  · rintro ⟨rs, cs1, e, z, hz, q⟩
    refine ⟨rs, cs1, e, ?_⟩
    split at hz
    · rename_i ds hd
      obtain ⟨hl, rfl⟩ := iDec_inv hz
      exact ⟨ds, hd, hl, q⟩
    · cases hz
  · rintro ⟨rs, cs1, e, ds, hd, hl, q⟩
    refine ⟨rs, cs1, e, _, ?_, q⟩
    rw [hd]
    exact if_pos hl
theorem datas_nil : datas [] = some [] := rfl
theorem datas_d (x : D) (rs : List Res) : datas (.d x :: rs) = (match datas rs with | some xs => some (x :: xs) | none => none) := rfl
@[simp ↓] theorem R_newK (Q : Res → Cs → Prop) : R newK cs Q ↔ Q (.o (.k [])) cs := R_ret _ _
@[simp ↓] theorem R_mk0 (C : Addr) (Q : Res → Cs → Prop) : R (mk0 C) cs Q ↔ Q (.d (.obj C)) cs := R_ret _ _
@[simp ↓] theorem R_isi (f : M Res) (t : Ty) (Q : Res → Cs → Prop) : R (isi f t) cs Q ↔ R f cs fun r cs1 => opK (view cs1 (frz r)) fun x => opK (isTy x t) fun b => Q (.d (.bl b)) cs1 := by
  unfold isi
  simp only [R_bnd, R_asR, R_vw, R_lft]
  unfold opK
  constructor
  · rintro ⟨r, c1, e, x, hx, z, hz, q⟩
    refine ⟨r, c1, e, x, hx, ?_⟩
    cases hb : isTy x t with
    | none => rw [hb] at hz; cases hz
    | some b => rw [hb] at hz; cases hz; exact ⟨b, hb, q⟩
  · rintro ⟨r, c1, e, x, hx, b, hb, q⟩
    refine ⟨r, c1, e, x, hx, _, ?_, q⟩
    rw [hb]
/-! iterables -/
@[simp ↓] theorem R_seqI (f : M Res) (Q : List D → Cs → Prop) : R (seqI f) cs Q ↔ R f cs fun r cs1 => onD (fun x => opK (itemsD x) fun xs => Q xs cs1) (frz r) := by
  unfold seqI
  rw [R_bnd, R_asD]
  constructor
  · rintro ⟨r, cs', e, h⟩
    refine ⟨r, cs', e, ?_⟩
    cases r with
    | d x => exact (R_lft _ _).mp h
    | o c => exact (R_lft _ _).mp h
    | s i => exact False.elim h
  · rintro ⟨r, cs', e, h⟩
    refine ⟨r, cs', e, ?_⟩
    cases r with
    | d x => exact (R_lft _ _).mpr h
    | o c => exact (R_lft _ _).mpr h
    | s i => exact False.elim h
/-! calls -/
@[simp ↓] theorem R_callF (F : Fd) (fs : M (List Res)) (Q : Res → Cs → Prop) : R (callF F fs) cs Q ↔ R fs cs fun rs cs1 => R (callR F rs) cs1 Q := by
  unfold callF
  rw [R_bnd]
  rfl
@[simp ↓] theorem R_methF (C : Addr) (F : Fd) (fr : M Res) (fs : M (List Res)) (Q : Res → Cs → Prop) : R (methF C F fr fs) cs Q ↔ R fr cs fun r cs1 => frz r = .d (.obj C) ∧ R fs cs1 fun rs cs2 => R (callR F (.d (.obj C) :: rs)) cs2 Q := by
  unfold methF
  rw [R_bnd, R_asR]
  constructor
  · rintro ⟨r, cs', e, h⟩
    refine ⟨r, cs', e, ?_⟩
    split at h
    · rename_i C' heq
      split at h
      · rename_i hc
        subst hc
        refine ⟨heq, ?_⟩
        rw [R_callF, R_bnd] at h
        simp only [R_ret] at h
        exact h
      · rw [R_fail] at h; exact False.elim h
    · rw [R_fail] at h; exact False.elim h
  · rintro ⟨r, cs', e, h1, h⟩
    refine ⟨r, cs', e, ?_⟩
    dsimp only
    rw [h1]
    dsimp only
    rw [if_pos rfl, R_callF, R_bnd]
    simp only [R_ret]
    exact h
/-! statements -/
@[simp ↓] theorem RS_nxt (Q : Out → Prop) : RS nxt cs Q ↔ Q (.nx cs) := ⟨fun ⟨_, e, q⟩ => by cases e; exact q, fun q => ⟨_, rfl, q⟩⟩
@[simp ↓] theorem RS_brk (Q : Out → Prop) : RS brkS cs Q ↔ Q (.bk cs) := ⟨fun ⟨_, e, q⟩ => by cases e; exact q, fun q => ⟨_, rfl, q⟩⟩
@[simp ↓] theorem RS_cnt (Q : Out → Prop) : RS cntS cs Q ↔ Q (.ct cs) := ⟨fun ⟨_, e, q⟩ => by cases e; exact q, fun q => ⟨_, rfl, q⟩⟩
@[simp ↓] theorem RS_rtN (Q : Out → Prop) : RS rtN cs Q ↔ Q (.rt (.d .non) cs) := ⟨fun ⟨_, e, q⟩ => by cases e; exact q, fun q => ⟨_, rfl, q⟩⟩
@[simp ↓] theorem RS_rtS (f : M Res) (Q : Out → Prop) : RS (rtS f) cs Q ↔ R f cs fun r cs1 => Q (.rt r cs1) := by
  unfold RS rtS R
  constructor
  · rintro ⟨o, e, q⟩
    split at e
    · rename_i r cs' h; cases e; exact ⟨r, cs', h, q⟩
    · cases e
  · rintro ⟨r, cs', e, q⟩
    rw [e]
    exact ⟨_, rfl, q⟩
@[simp ↓] theorem RS_exS (f : M Res) (Q : Out → Prop) : RS (exS f) cs Q ↔ R f cs fun _ cs1 => Q (.nx cs1) := by
  unfold RS exS R
  constructor
  · rintro ⟨o, e, q⟩
    split at e
    · rename_i r cs' h; cases e; exact ⟨r, cs', h, q⟩
    · cases e
  · rintro ⟨r, cs', e, q⟩
    rw [e]
    exact ⟨_, rfl, q⟩
/-- behind a statement -/
def aft (Q : Out → Prop) (k : Cs → Prop) : Out → Prop
  | .nx cs => k cs
  | o => Q o
@[simp ↓] theorem aft_nx (Q : Out → Prop) (k : Cs → Prop) (cs : Cs) : aft Q k (.nx cs) = k cs := rfl
@[simp ↓] theorem aft_rt (Q : Out → Prop) (k : Cs → Prop) (r : Res) (cs : Cs) : aft Q k (.rt r cs) = Q (.rt r cs) := rfl
@[simp ↓] theorem aft_bk (Q : Out → Prop) (k : Cs → Prop) (cs : Cs) : aft Q k (.bk cs) = Q (.bk cs) := rfl
@[simp ↓] theorem aft_ct (Q : Out → Prop) (k : Cs → Prop) (cs : Cs) : aft Q k (.ct cs) = Q (.ct cs) := rfl
@[simp ↓] theorem RS_seqS (f g : S) (Q : Out → Prop) : RS (seqS f g) cs Q ↔ RS f cs (aft Q fun cs1 => RS g cs1 Q) := by
  unfold RS seqS
  constructor
  · rintro ⟨o, e, q⟩
    cases h : f cs with
    | none => rw [h] at e; cases e
    | some z =>
      rw [h] at e
      refine ⟨z, rfl, ?_⟩
      cases z with
      | nx c => exact ⟨o, e, q⟩
      | rt r c => cases e; exact q
      | bk c => cases e; exact q
      | ct c => cases e; exact q
  · rintro ⟨z, h, q⟩
    rw [h]
    cases z with
    | nx c => obtain ⟨o, e, q⟩ := q; exact ⟨o, e, q⟩
    | rt r c => exact ⟨_, rfl, q⟩
    | bk c => exact ⟨_, rfl, q⟩
    | ct c => exact ⟨_, rfl, q⟩
theorem ifS_eq (t : M Bool) (f g : S) : ifS t f g cs = (match t cs with | some (b, cs') => if b = true then f cs' else g cs' | none => none) := rfl
@[simp ↓] theorem RS_ifS (t : M Bool) (f g : S) (Q : Out → Prop) : RS (ifS t f g) cs Q ↔ R t cs fun b cs1 => if b = true then RS f cs1 Q else RS g cs1 Q := by
  constructor
  · rintro ⟨o, e, q⟩
    rw [ifS_eq] at e
    cases h : t cs with
    | none => rw [h] at e; cases e
    | some z =>
      obtain ⟨b, c⟩ := z
      rw [h] at e
      refine ⟨b, c, h, ?_⟩
      cases b
      · exact ⟨o, e, q⟩
      · exact ⟨o, e, q⟩
  · rintro ⟨b, c, h, q⟩
    unfold RS
    rw [ifS_eq, h]
    cases b
    · exact q
    · exact q
/-- a slot is set -/
def Kset (i : Nat) (c : Cell) (cs : Cs) (k : Cs → Prop) : Prop := k (cs.set i c)
def stR (i : Nat) (k : Cs → Prop) : Res → Cs → Prop
  | .d x, cs => Kset i (.d x) cs k
  | .o c, cs => Kset i (.o false c) cs k
  | .s _, _ => False
theorem stR_d (i : Nat) (k : Cs → Prop) (x : D) (cs : Cs) : stR i k (.d x) cs = Kset i (.d x) cs k := rfl
theorem stR_o (i : Nat) (k : Cs → Prop) (x : O) (cs : Cs) : stR i k (.o x) cs = Kset i (.o false x) cs k := rfl
@[simp ↓] theorem RS_sR (i : Nat) (f : M Res) (Q : Out → Prop) : RS (sR i f) cs Q ↔ R f cs (stR i fun cs1 => Q (.nx cs1)) := by
  unfold RS sR R
  constructor
  · rintro ⟨o, e, q⟩
    split at e
    · rename_i x c h; cases e; exact ⟨.d x, c, h, q⟩
    · rename_i x c h; cases e; exact ⟨.o x, c, h, q⟩
    · cases e
  · rintro ⟨r, c, e, q⟩
    rw [e]
    cases r with
    | d x => exact ⟨_, rfl, q⟩
    | o x => exact ⟨_, rfl, q⟩
    | s i => exact False.elim q
@[simp ↓] theorem RS_sF (i : Nat) (f : M Res) (Q : Out → Prop) : RS (sF i f) cs Q ↔ R f cs fun r cs1 => onD (fun x => Kset i (.d x) cs1 fun cs2 => Q (.nx cs2)) (frz r) := by
  unfold sF
  rw [RS_sR, R_bnd, R_asD]
  constructor
  · rintro ⟨r, c, e, h⟩
    refine ⟨r, c, e, ?_⟩
    cases r with
    | d x => exact (R_ret _ _).mp h
    | o x => exact (R_ret _ _).mp h
    | s i => exact False.elim h
  · rintro ⟨r, c, e, h⟩
    refine ⟨r, c, e, ?_⟩
    cases r with
    | d x => exact (R_ret _ _).mpr h
    | o x => exact (R_ret _ _).mpr h
    | s i => exact False.elim h
@[simp ↓] theorem RS_forS (f : M (List D)) (h : D → Cs → Option Cs) (g : S) (Q : Out → Prop) : RS (forS f h g) cs Q ↔ R f cs fun xs cs1 => RL h g xs cs1 Q := by
  unfold RS forS R RL
  constructor
  · rintro ⟨o, e, q⟩
    split at e
    · rename_i xs c h; exact ⟨xs, c, h, o, e, q⟩
    · cases e
  · rintro ⟨xs, c, e, o, e2, q⟩
    rw [e]
    exact ⟨o, e2, q⟩
@[simp ↓] theorem RG_gN (i : Nat) (x : D) (Q : Cs → Prop) : RG (gN i) x cs Q ↔ Kset i (.d x) cs Q := ⟨fun ⟨_, e, q⟩ => by cases e; exact q, fun q => ⟨_, rfl, q⟩⟩
/-- a loop's turn -/
def turn (Q : Out → Prop) (k : Cs → Prop) : Out → Prop
  | .nx cs => k cs
  | .ct cs => k cs
  | .bk cs => Q (.nx cs)
  | .rt r cs => Q (.rt r cs)
@[simp ↓] theorem turn_nx (Q : Out → Prop) (k : Cs → Prop) (cs : Cs) : turn Q k (.nx cs) = k cs := rfl
@[simp ↓] theorem turn_ct (Q : Out → Prop) (k : Cs → Prop) (cs : Cs) : turn Q k (.ct cs) = k cs := rfl
@[simp ↓] theorem turn_bk (Q : Out → Prop) (k : Cs → Prop) (cs : Cs) : turn Q k (.bk cs) = Q (.nx cs) := rfl
@[simp ↓] theorem turn_rt (Q : Out → Prop) (k : Cs → Prop) (r : Res) (cs : Cs) : turn Q k (.rt r cs) = Q (.rt r cs) := rfl
theorem RL_nil (h : D → Cs → Option Cs) (g : S) (Q : Out → Prop) : RL h g [] cs Q ↔ Q (.nx cs) := ⟨fun ⟨_, e, q⟩ => by cases e; exact q, fun q => ⟨_, rfl, q⟩⟩
theorem RL_cons (h : D → Cs → Option Cs) (g : S) (x : D) (xs : List D) (Q : Out → Prop) : RL h g (x :: xs) cs Q ↔ RG h x cs fun cs1 => RS g cs1 (turn Q fun cs2 => RL h g xs cs2 Q) := by
  unfold RL RG RS
  constructor
  · rintro ⟨o, e, q⟩
    simp only [forL] at e
    split at e
    · cases e
    · rename_i cs1 h1
      refine ⟨cs1, h1, ?_⟩
      split at e
      · rename_i c2 h2; exact ⟨_, h2, o, e, q⟩
      · rename_i c2 h2; exact ⟨_, h2, o, e, q⟩
      · rename_i c2 h2; cases e; exact ⟨_, h2, q⟩
      · rename_i r c2 h2; cases e; exact ⟨_, h2, q⟩
      · cases e
  · rintro ⟨cs1, h1, o, h2, q⟩
    simp only [forL, h1, h2]
    cases o with
    | nx c => obtain ⟨o, e, q⟩ := q; exact ⟨o, e, q⟩
    | ct c => obtain ⟨o, e, q⟩ := q; exact ⟨o, e, q⟩
    | bk c => exact ⟨_, rfl, q⟩
    | rt r c => exact ⟨_, rfl, q⟩
/-- a loop by what holds ahead of each turn -/
theorem RL_inv {h : D → Cs → Option Cs} {g : S} {Q : Out → Prop} (I : List D → Cs → Prop) (step : ∀ x xs cs, I (x :: xs) cs → RG h x cs fun cs1 => RS g cs1 (turn Q fun cs2 => I xs cs2)) (done : ∀ cs, I [] cs → Q (.nx cs)) : ∀ (xs : List D) (cs : Cs), I xs cs → RL h g xs cs Q
  | [], cs, i => (RL_nil h g Q).mpr (done cs i)
  | x :: xs, cs, i => by
    rw [RL_cons]
    obtain ⟨cs1, e1, o, e2, q⟩ := step x xs cs i
    refine ⟨cs1, e1, o, e2, ?_⟩
    cases o with
    | nx c => exact RL_inv I step done xs c q
    | ct c => exact RL_inv I step done xs c q
    | bk c => exact q
    | rt r c => exact q
end
/-- a slot's own object -/
def onO (k : Bool → O → Prop) : Option Cell → Prop
  | some (.o io c) => k io c
  | _ => False
theorem onO_inv {k : Bool → O → Prop} {o : Option Cell} (h : onO k o) : ∃ io c, o = some (.o io c) ∧ k io c := by
  cases o with
  | none => exact False.elim h
  | some x =>
    cases x with
    | un => exact False.elim h
    | d x => exact False.elim h
    | o io c => exact ⟨io, c, rfl, h⟩
theorem onO_mk {k : Bool → O → Prop} {o : Option Cell} {io : Bool} {c : O} (e : o = some (.o io c)) (h : k io c) : onO k o := by
  subst e
  exact h
/-! ### places, by their numbers -/
@[simp ↓] theorem G0_d (x : D) (cs : Cs) (Q : Res → Cs → Prop) : R (getV 0) (.d x :: cs) Q ↔ Q (.d x) (.d x :: cs) := R_getV _ _
@[simp ↓] theorem G0_o (io : Bool) (x : O) (cs : Cs) (Q : Res → Cs → Prop) : R (getV 0) (.o io x :: cs) Q ↔ Q (.s 0) (.o io x :: cs) := R_getV _ _
@[simp ↓] theorem Z0_d (x : D) (cs : Cs) (Q : Res → Cs → Prop) : R (fzV2 0) (.d x :: cs) Q ↔ Q (.d x) (.d x :: cs) := R_fzV2 _ _
@[simp ↓] theorem Z0_l (x : List D) (cs : Cs) (Q : Res → Cs → Prop) : R (fzV2 0) (.o false (.l x) :: cs) Q ↔ Q (.d (.lst x)) (.d (.lst x) :: cs) := R_fzV2 _ _
@[simp ↓] theorem Z0_k (x : List (Key × D)) (cs : Cs) (Q : Res → Cs → Prop) : R (fzV2 0) (.o false (.k x) :: cs) Q ↔ Q (.d (.dk x)) (.d (.dk x) :: cs) := R_fzV2 _ _
@[simp ↓] theorem V0_l (io : Bool) (x : List D) (cs : Cs) (k : D → Prop) : opK (view (.o io (.l x) :: cs) (frz (.s 0))) k ↔ k (.lst x) := opK_some _ _
@[simp ↓] theorem V0_k (io : Bool) (x : List (Key × D)) (cs : Cs) (k : D → Prop) : opK (view (.o io (.k x) :: cs) (frz (.s 0))) k ↔ k (.dk x) := opK_some _ _
@[simp ↓] theorem K0 (c d : Cell) (cs : Cs) (k : Cs → Prop) : Kset 0 c (d :: cs) k ↔ k (c :: cs) := Iff.rfl
@[simp ↓] theorem O0 (io : Bool) (x : O) (cs : Cs) (k : Bool → O → Prop) : onO k (.o io x :: cs)[0]? ↔ k io x := Iff.rfl
@[simp ↓] theorem G1_d (c0 : Cell) (x : D) (cs : Cs) (Q : Res → Cs → Prop) : R (getV 1) (c0 :: .d x :: cs) Q ↔ Q (.d x) (c0 :: .d x :: cs) := R_getV _ _
@[simp ↓] theorem G1_o (c0 : Cell) (io : Bool) (x : O) (cs : Cs) (Q : Res → Cs → Prop) : R (getV 1) (c0 :: .o io x :: cs) Q ↔ Q (.s 1) (c0 :: .o io x :: cs) := R_getV _ _
@[simp ↓] theorem Z1_d (c0 : Cell) (x : D) (cs : Cs) (Q : Res → Cs → Prop) : R (fzV2 1) (c0 :: .d x :: cs) Q ↔ Q (.d x) (c0 :: .d x :: cs) := R_fzV2 _ _
@[simp ↓] theorem Z1_l (c0 : Cell) (x : List D) (cs : Cs) (Q : Res → Cs → Prop) : R (fzV2 1) (c0 :: .o false (.l x) :: cs) Q ↔ Q (.d (.lst x)) (c0 :: .d (.lst x) :: cs) := R_fzV2 _ _
@[simp ↓] theorem Z1_k (c0 : Cell) (x : List (Key × D)) (cs : Cs) (Q : Res → Cs → Prop) : R (fzV2 1) (c0 :: .o false (.k x) :: cs) Q ↔ Q (.d (.dk x)) (c0 :: .d (.dk x) :: cs) := R_fzV2 _ _
@[simp ↓] theorem V1_l (c0 : Cell) (io : Bool) (x : List D) (cs : Cs) (k : D → Prop) : opK (view (c0 :: .o io (.l x) :: cs) (frz (.s 1))) k ↔ k (.lst x) := opK_some _ _
@[simp ↓] theorem V1_k (c0 : Cell) (io : Bool) (x : List (Key × D)) (cs : Cs) (k : D → Prop) : opK (view (c0 :: .o io (.k x) :: cs) (frz (.s 1))) k ↔ k (.dk x) := opK_some _ _
@[simp ↓] theorem K1 (c0 : Cell) (c d : Cell) (cs : Cs) (k : Cs → Prop) : Kset 1 c (c0 :: d :: cs) k ↔ k (c0 :: c :: cs) := Iff.rfl
@[simp ↓] theorem O1 (c0 : Cell) (io : Bool) (x : O) (cs : Cs) (k : Bool → O → Prop) : onO k (c0 :: .o io x :: cs)[1]? ↔ k io x := Iff.rfl
@[simp ↓] theorem G2_d (c0 c1 : Cell) (x : D) (cs : Cs) (Q : Res → Cs → Prop) : R (getV 2) (c0 :: c1 :: .d x :: cs) Q ↔ Q (.d x) (c0 :: c1 :: .d x :: cs) := R_getV _ _
@[simp ↓] theorem G2_o (c0 c1 : Cell) (io : Bool) (x : O) (cs : Cs) (Q : Res → Cs → Prop) : R (getV 2) (c0 :: c1 :: .o io x :: cs) Q ↔ Q (.s 2) (c0 :: c1 :: .o io x :: cs) := R_getV _ _
@[simp ↓] theorem Z2_d (c0 c1 : Cell) (x : D) (cs : Cs) (Q : Res → Cs → Prop) : R (fzV2 2) (c0 :: c1 :: .d x :: cs) Q ↔ Q (.d x) (c0 :: c1 :: .d x :: cs) := R_fzV2 _ _
@[simp ↓] theorem Z2_l (c0 c1 : Cell) (x : List D) (cs : Cs) (Q : Res → Cs → Prop) : R (fzV2 2) (c0 :: c1 :: .o false (.l x) :: cs) Q ↔ Q (.d (.lst x)) (c0 :: c1 :: .d (.lst x) :: cs) := R_fzV2 _ _
@[simp ↓] theorem Z2_k (c0 c1 : Cell) (x : List (Key × D)) (cs : Cs) (Q : Res → Cs → Prop) : R (fzV2 2) (c0 :: c1 :: .o false (.k x) :: cs) Q ↔ Q (.d (.dk x)) (c0 :: c1 :: .d (.dk x) :: cs) := R_fzV2 _ _
@[simp ↓] theorem V2_l (c0 c1 : Cell) (io : Bool) (x : List D) (cs : Cs) (k : D → Prop) : opK (view (c0 :: c1 :: .o io (.l x) :: cs) (frz (.s 2))) k ↔ k (.lst x) := opK_some _ _
@[simp ↓] theorem V2_k (c0 c1 : Cell) (io : Bool) (x : List (Key × D)) (cs : Cs) (k : D → Prop) : opK (view (c0 :: c1 :: .o io (.k x) :: cs) (frz (.s 2))) k ↔ k (.dk x) := opK_some _ _
@[simp ↓] theorem K2 (c0 c1 : Cell) (c d : Cell) (cs : Cs) (k : Cs → Prop) : Kset 2 c (c0 :: c1 :: d :: cs) k ↔ k (c0 :: c1 :: c :: cs) := Iff.rfl
@[simp ↓] theorem O2 (c0 c1 : Cell) (io : Bool) (x : O) (cs : Cs) (k : Bool → O → Prop) : onO k (c0 :: c1 :: .o io x :: cs)[2]? ↔ k io x := Iff.rfl
@[simp ↓] theorem G3_d (c0 c1 c2 : Cell) (x : D) (cs : Cs) (Q : Res → Cs → Prop) : R (getV 3) (c0 :: c1 :: c2 :: .d x :: cs) Q ↔ Q (.d x) (c0 :: c1 :: c2 :: .d x :: cs) := R_getV _ _
@[simp ↓] theorem G3_o (c0 c1 c2 : Cell) (io : Bool) (x : O) (cs : Cs) (Q : Res → Cs → Prop) : R (getV 3) (c0 :: c1 :: c2 :: .o io x :: cs) Q ↔ Q (.s 3) (c0 :: c1 :: c2 :: .o io x :: cs) := R_getV _ _
@[simp ↓] theorem Z3_d (c0 c1 c2 : Cell) (x : D) (cs : Cs) (Q : Res → Cs → Prop) : R (fzV2 3) (c0 :: c1 :: c2 :: .d x :: cs) Q ↔ Q (.d x) (c0 :: c1 :: c2 :: .d x :: cs) := R_fzV2 _ _
@[simp ↓] theorem Z3_l (c0 c1 c2 : Cell) (x : List D) (cs : Cs) (Q : Res → Cs → Prop) : R (fzV2 3) (c0 :: c1 :: c2 :: .o false (.l x) :: cs) Q ↔ Q (.d (.lst x)) (c0 :: c1 :: c2 :: .d (.lst x) :: cs) := R_fzV2 _ _
@[simp ↓] theorem Z3_k (c0 c1 c2 : Cell) (x : List (Key × D)) (cs : Cs) (Q : Res → Cs → Prop) : R (fzV2 3) (c0 :: c1 :: c2 :: .o false (.k x) :: cs) Q ↔ Q (.d (.dk x)) (c0 :: c1 :: c2 :: .d (.dk x) :: cs) := R_fzV2 _ _
@[simp ↓] theorem V3_l (c0 c1 c2 : Cell) (io : Bool) (x : List D) (cs : Cs) (k : D → Prop) : opK (view (c0 :: c1 :: c2 :: .o io (.l x) :: cs) (frz (.s 3))) k ↔ k (.lst x) := opK_some _ _
@[simp ↓] theorem V3_k (c0 c1 c2 : Cell) (io : Bool) (x : List (Key × D)) (cs : Cs) (k : D → Prop) : opK (view (c0 :: c1 :: c2 :: .o io (.k x) :: cs) (frz (.s 3))) k ↔ k (.dk x) := opK_some _ _
@[simp ↓] theorem K3 (c0 c1 c2 : Cell) (c d : Cell) (cs : Cs) (k : Cs → Prop) : Kset 3 c (c0 :: c1 :: c2 :: d :: cs) k ↔ k (c0 :: c1 :: c2 :: c :: cs) := Iff.rfl
@[simp ↓] theorem O3 (c0 c1 c2 : Cell) (io : Bool) (x : O) (cs : Cs) (k : Bool → O → Prop) : onO k (c0 :: c1 :: c2 :: .o io x :: cs)[3]? ↔ k io x := Iff.rfl
@[simp ↓] theorem G4_d (c0 c1 c2 c3 : Cell) (x : D) (cs : Cs) (Q : Res → Cs → Prop) : R (getV 4) (c0 :: c1 :: c2 :: c3 :: .d x :: cs) Q ↔ Q (.d x) (c0 :: c1 :: c2 :: c3 :: .d x :: cs) := R_getV _ _
@[simp ↓] theorem G4_o (c0 c1 c2 c3 : Cell) (io : Bool) (x : O) (cs : Cs) (Q : Res → Cs → Prop) : R (getV 4) (c0 :: c1 :: c2 :: c3 :: .o io x :: cs) Q ↔ Q (.s 4) (c0 :: c1 :: c2 :: c3 :: .o io x :: cs) := R_getV _ _
@[simp ↓] theorem Z4_d (c0 c1 c2 c3 : Cell) (x : D) (cs : Cs) (Q : Res → Cs → Prop) : R (fzV2 4) (c0 :: c1 :: c2 :: c3 :: .d x :: cs) Q ↔ Q (.d x) (c0 :: c1 :: c2 :: c3 :: .d x :: cs) := R_fzV2 _ _
@[simp ↓] theorem Z4_l (c0 c1 c2 c3 : Cell) (x : List D) (cs : Cs) (Q : Res → Cs → Prop) : R (fzV2 4) (c0 :: c1 :: c2 :: c3 :: .o false (.l x) :: cs) Q ↔ Q (.d (.lst x)) (c0 :: c1 :: c2 :: c3 :: .d (.lst x) :: cs) := R_fzV2 _ _
@[simp ↓] theorem Z4_k (c0 c1 c2 c3 : Cell) (x : List (Key × D)) (cs : Cs) (Q : Res → Cs → Prop) : R (fzV2 4) (c0 :: c1 :: c2 :: c3 :: .o false (.k x) :: cs) Q ↔ Q (.d (.dk x)) (c0 :: c1 :: c2 :: c3 :: .d (.dk x) :: cs) := R_fzV2 _ _
@[simp ↓] theorem V4_l (c0 c1 c2 c3 : Cell) (io : Bool) (x : List D) (cs : Cs) (k : D → Prop) : opK (view (c0 :: c1 :: c2 :: c3 :: .o io (.l x) :: cs) (frz (.s 4))) k ↔ k (.lst x) := opK_some _ _
@[simp ↓] theorem V4_k (c0 c1 c2 c3 : Cell) (io : Bool) (x : List (Key × D)) (cs : Cs) (k : D → Prop) : opK (view (c0 :: c1 :: c2 :: c3 :: .o io (.k x) :: cs) (frz (.s 4))) k ↔ k (.dk x) := opK_some _ _
@[simp ↓] theorem K4 (c0 c1 c2 c3 : Cell) (c d : Cell) (cs : Cs) (k : Cs → Prop) : Kset 4 c (c0 :: c1 :: c2 :: c3 :: d :: cs) k ↔ k (c0 :: c1 :: c2 :: c3 :: c :: cs) := Iff.rfl
@[simp ↓] theorem O4 (c0 c1 c2 c3 : Cell) (io : Bool) (x : O) (cs : Cs) (k : Bool → O → Prop) : onO k (c0 :: c1 :: c2 :: c3 :: .o io x :: cs)[4]? ↔ k io x := Iff.rfl
@[simp ↓] theorem G5_d (c0 c1 c2 c3 c4 : Cell) (x : D) (cs : Cs) (Q : Res → Cs → Prop) : R (getV 5) (c0 :: c1 :: c2 :: c3 :: c4 :: .d x :: cs) Q ↔ Q (.d x) (c0 :: c1 :: c2 :: c3 :: c4 :: .d x :: cs) := R_getV _ _
@[simp ↓] theorem G5_o (c0 c1 c2 c3 c4 : Cell) (io : Bool) (x : O) (cs : Cs) (Q : Res → Cs → Prop) : R (getV 5) (c0 :: c1 :: c2 :: c3 :: c4 :: .o io x :: cs) Q ↔ Q (.s 5) (c0 :: c1 :: c2 :: c3 :: c4 :: .o io x :: cs) := R_getV _ _
@[simp ↓] theorem Z5_d (c0 c1 c2 c3 c4 : Cell) (x : D) (cs : Cs) (Q : Res → Cs → Prop) : R (fzV2 5) (c0 :: c1 :: c2 :: c3 :: c4 :: .d x :: cs) Q ↔ Q (.d x) (c0 :: c1 :: c2 :: c3 :: c4 :: .d x :: cs) := R_fzV2 _ _
@[simp ↓] theorem Z5_l (c0 c1 c2 c3 c4 : Cell) (x : List D) (cs : Cs) (Q : Res → Cs → Prop) : R (fzV2 5) (c0 :: c1 :: c2 :: c3 :: c4 :: .o false (.l x) :: cs) Q ↔ Q (.d (.lst x)) (c0 :: c1 :: c2 :: c3 :: c4 :: .d (.lst x) :: cs) := R_fzV2 _ _
@[simp ↓] theorem Z5_k (c0 c1 c2 c3 c4 : Cell) (x : List (Key × D)) (cs : Cs) (Q : Res → Cs → Prop) : R (fzV2 5) (c0 :: c1 :: c2 :: c3 :: c4 :: .o false (.k x) :: cs) Q ↔ Q (.d (.dk x)) (c0 :: c1 :: c2 :: c3 :: c4 :: .d (.dk x) :: cs) := R_fzV2 _ _
@[simp ↓] theorem V5_l (c0 c1 c2 c3 c4 : Cell) (io : Bool) (x : List D) (cs : Cs) (k : D → Prop) : opK (view (c0 :: c1 :: c2 :: c3 :: c4 :: .o io (.l x) :: cs) (frz (.s 5))) k ↔ k (.lst x) := opK_some _ _
@[simp ↓] theorem V5_k (c0 c1 c2 c3 c4 : Cell) (io : Bool) (x : List (Key × D)) (cs : Cs) (k : D → Prop) : opK (view (c0 :: c1 :: c2 :: c3 :: c4 :: .o io (.k x) :: cs) (frz (.s 5))) k ↔ k (.dk x) := opK_some _ _
@[simp ↓] theorem K5 (c0 c1 c2 c3 c4 : Cell) (c d : Cell) (cs : Cs) (k : Cs → Prop) : Kset 5 c (c0 :: c1 :: c2 :: c3 :: c4 :: d :: cs) k ↔ k (c0 :: c1 :: c2 :: c3 :: c4 :: c :: cs) := Iff.rfl
@[simp ↓] theorem O5 (c0 c1 c2 c3 c4 : Cell) (io : Bool) (x : O) (cs : Cs) (k : Bool → O → Prop) : onO k (c0 :: c1 :: c2 :: c3 :: c4 :: .o io x :: cs)[5]? ↔ k io x := Iff.rfl
@[simp ↓] theorem G6_d (c0 c1 c2 c3 c4 c5 : Cell) (x : D) (cs : Cs) (Q : Res → Cs → Prop) : R (getV 6) (c0 :: c1 :: c2 :: c3 :: c4 :: c5 :: .d x :: cs) Q ↔ Q (.d x) (c0 :: c1 :: c2 :: c3 :: c4 :: c5 :: .d x :: cs) := R_getV _ _
@[simp ↓] theorem G6_o (c0 c1 c2 c3 c4 c5 : Cell) (io : Bool) (x : O) (cs : Cs) (Q : Res → Cs → Prop) : R (getV 6) (c0 :: c1 :: c2 :: c3 :: c4 :: c5 :: .o io x :: cs) Q ↔ Q (.s 6) (c0 :: c1 :: c2 :: c3 :: c4 :: c5 :: .o io x :: cs) := R_getV _ _
@[simp ↓] theorem Z6_d (c0 c1 c2 c3 c4 c5 : Cell) (x : D) (cs : Cs) (Q : Res → Cs → Prop) : R (fzV2 6) (c0 :: c1 :: c2 :: c3 :: c4 :: c5 :: .d x :: cs) Q ↔ Q (.d x) (c0 :: c1 :: c2 :: c3 :: c4 :: c5 :: .d x :: cs) := R_fzV2 _ _
@[simp ↓] theorem Z6_l (c0 c1 c2 c3 c4 c5 : Cell) (x : List D) (cs : Cs) (Q : Res → Cs → Prop) : R (fzV2 6) (c0 :: c1 :: c2 :: c3 :: c4 :: c5 :: .o false (.l x) :: cs) Q ↔ Q (.d (.lst x)) (c0 :: c1 :: c2 :: c3 :: c4 :: c5 :: .d (.lst x) :: cs) := R_fzV2 _ _
@[simp ↓] theorem Z6_k (c0 c1 c2 c3 c4 c5 : Cell) (x : List (Key × D)) (cs : Cs) (Q : Res → Cs → Prop) : R (fzV2 6) (c0 :: c1 :: c2 :: c3 :: c4 :: c5 :: .o false (.k x) :: cs) Q ↔ Q (.d (.dk x)) (c0 :: c1 :: c2 :: c3 :: c4 :: c5 :: .d (.dk x) :: cs) := R_fzV2 _ _
@[simp ↓] theorem V6_l (c0 c1 c2 c3 c4 c5 : Cell) (io : Bool) (x : List D) (cs : Cs) (k : D → Prop) : opK (view (c0 :: c1 :: c2 :: c3 :: c4 :: c5 :: .o io (.l x) :: cs) (frz (.s 6))) k ↔ k (.lst x) := opK_some _ _
@[simp ↓] theorem V6_k (c0 c1 c2 c3 c4 c5 : Cell) (io : Bool) (x : List (Key × D)) (cs : Cs) (k : D → Prop) : opK (view (c0 :: c1 :: c2 :: c3 :: c4 :: c5 :: .o io (.k x) :: cs) (frz (.s 6))) k ↔ k (.dk x) := opK_some _ _
@[simp ↓] theorem K6 (c0 c1 c2 c3 c4 c5 : Cell) (c d : Cell) (cs : Cs) (k : Cs → Prop) : Kset 6 c (c0 :: c1 :: c2 :: c3 :: c4 :: c5 :: d :: cs) k ↔ k (c0 :: c1 :: c2 :: c3 :: c4 :: c5 :: c :: cs) := Iff.rfl
@[simp ↓] theorem O6 (c0 c1 c2 c3 c4 c5 : Cell) (io : Bool) (x : O) (cs : Cs) (k : Bool → O → Prop) : onO k (c0 :: c1 :: c2 :: c3 :: c4 :: c5 :: .o io x :: cs)[6]? ↔ k io x := Iff.rfl
@[simp ↓] theorem G7_d (c0 c1 c2 c3 c4 c5 c6 : Cell) (x : D) (cs : Cs) (Q : Res → Cs → Prop) : R (getV 7) (c0 :: c1 :: c2 :: c3 :: c4 :: c5 :: c6 :: .d x :: cs) Q ↔ Q (.d x) (c0 :: c1 :: c2 :: c3 :: c4 :: c5 :: c6 :: .d x :: cs) := R_getV _ _
@[simp ↓] theorem G7_o (c0 c1 c2 c3 c4 c5 c6 : Cell) (io : Bool) (x : O) (cs : Cs) (Q : Res → Cs → Prop) : R (getV 7) (c0 :: c1 :: c2 :: c3 :: c4 :: c5 :: c6 :: .o io x :: cs) Q ↔ Q (.s 7) (c0 :: c1 :: c2 :: c3 :: c4 :: c5 :: c6 :: .o io x :: cs) := R_getV _ _
@[simp ↓] theorem Z7_d (c0 c1 c2 c3 c4 c5 c6 : Cell) (x : D) (cs : Cs) (Q : Res → Cs → Prop) : R (fzV2 7) (c0 :: c1 :: c2 :: c3 :: c4 :: c5 :: c6 :: .d x :: cs) Q ↔ Q (.d x) (c0 :: c1 :: c2 :: c3 :: c4 :: c5 :: c6 :: .d x :: cs) := R_fzV2 _ _
@[simp ↓] theorem Z7_l (c0 c1 c2 c3 c4 c5 c6 : Cell) (x : List D) (cs : Cs) (Q : Res → Cs → Prop) : R (fzV2 7) (c0 :: c1 :: c2 :: c3 :: c4 :: c5 :: c6 :: .o false (.l x) :: cs) Q ↔ Q (.d (.lst x)) (c0 :: c1 :: c2 :: c3 :: c4 :: c5 :: c6 :: .d (.lst x) :: cs) := R_fzV2 _ _
@[simp ↓] theorem Z7_k (c0 c1 c2 c3 c4 c5 c6 : Cell) (x : List (Key × D)) (cs : Cs) (Q : Res → Cs → Prop) : R (fzV2 7) (c0 :: c1 :: c2 :: c3 :: c4 :: c5 :: c6 :: .o false (.k x) :: cs) Q ↔ Q (.d (.dk x)) (c0 :: c1 :: c2 :: c3 :: c4 :: c5 :: c6 :: .d (.dk x) :: cs) := R_fzV2 _ _
@[simp ↓] theorem V7_l (c0 c1 c2 c3 c4 c5 c6 : Cell) (io : Bool) (x : List D) (cs : Cs) (k : D → Prop) : opK (view (c0 :: c1 :: c2 :: c3 :: c4 :: c5 :: c6 :: .o io (.l x) :: cs) (frz (.s 7))) k ↔ k (.lst x) := opK_some _ _
@[simp ↓] theorem V7_k (c0 c1 c2 c3 c4 c5 c6 : Cell) (io : Bool) (x : List (Key × D)) (cs : Cs) (k : D → Prop) : opK (view (c0 :: c1 :: c2 :: c3 :: c4 :: c5 :: c6 :: .o io (.k x) :: cs) (frz (.s 7))) k ↔ k (.dk x) := opK_some _ _
@[simp ↓] theorem K7 (c0 c1 c2 c3 c4 c5 c6 : Cell) (c d : Cell) (cs : Cs) (k : Cs → Prop) : Kset 7 c (c0 :: c1 :: c2 :: c3 :: c4 :: c5 :: c6 :: d :: cs) k ↔ k (c0 :: c1 :: c2 :: c3 :: c4 :: c5 :: c6 :: c :: cs) := Iff.rfl
@[simp ↓] theorem O7 (c0 c1 c2 c3 c4 c5 c6 : Cell) (io : Bool) (x : O) (cs : Cs) (k : Bool → O → Prop) : onO k (c0 :: c1 :: c2 :: c3 :: c4 :: c5 :: c6 :: .o io x :: cs)[7]? ↔ k io x := Iff.rfl
@[simp ↓] theorem G8_d (c0 c1 c2 c3 c4 c5 c6 c7 : Cell) (x : D) (cs : Cs) (Q : Res → Cs → Prop) : R (getV 8) (c0 :: c1 :: c2 :: c3 :: c4 :: c5 :: c6 :: c7 :: .d x :: cs) Q ↔ Q (.d x) (c0 :: c1 :: c2 :: c3 :: c4 :: c5 :: c6 :: c7 :: .d x :: cs) := R_getV _ _
@[simp ↓] theorem G8_o (c0 c1 c2 c3 c4 c5 c6 c7 : Cell) (io : Bool) (x : O) (cs : Cs) (Q : Res → Cs → Prop) : R (getV 8) (c0 :: c1 :: c2 :: c3 :: c4 :: c5 :: c6 :: c7 :: .o io x :: cs) Q ↔ Q (.s 8) (c0 :: c1 :: c2 :: c3 :: c4 :: c5 :: c6 :: c7 :: .o io x :: cs) := R_getV _ _
@[simp ↓] theorem Z8_d (c0 c1 c2 c3 c4 c5 c6 c7 : Cell) (x : D) (cs : Cs) (Q : Res → Cs → Prop) : R (fzV2 8) (c0 :: c1 :: c2 :: c3 :: c4 :: c5 :: c6 :: c7 :: .d x :: cs) Q ↔ Q (.d x) (c0 :: c1 :: c2 :: c3 :: c4 :: c5 :: c6 :: c7 :: .d x :: cs) := R_fzV2 _ _
@[simp ↓] theorem Z8_l (c0 c1 c2 c3 c4 c5 c6 c7 : Cell) (x : List D) (cs : Cs) (Q : Res → Cs → Prop) : R (fzV2 8) (c0 :: c1 :: c2 :: c3 :: c4 :: c5 :: c6 :: c7 :: .o false (.l x) :: cs) Q ↔ Q (.d (.lst x)) (c0 :: c1 :: c2 :: c3 :: c4 :: c5 :: c6 :: c7 :: .d (.lst x) :: cs) := R_fzV2 _ _
@[simp ↓] theorem Z8_k (c0 c1 c2 c3 c4 c5 c6 c7 : Cell) (x : List (Key × D)) (cs : Cs) (Q : Res → Cs → Prop) : R (fzV2 8) (c0 :: c1 :: c2 :: c3 :: c4 :: c5 :: c6 :: c7 :: .o false (.k x) :: cs) Q ↔ Q (.d (.dk x)) (c0 :: c1 :: c2 :: c3 :: c4 :: c5 :: c6 :: c7 :: .d (.dk x) :: cs) := R_fzV2 _ _
@[simp ↓] theorem V8_l (c0 c1 c2 c3 c4 c5 c6 c7 : Cell) (io : Bool) (x : List D) (cs : Cs) (k : D → Prop) : opK (view (c0 :: c1 :: c2 :: c3 :: c4 :: c5 :: c6 :: c7 :: .o io (.l x) :: cs) (frz (.s 8))) k ↔ k (.lst x) := opK_some _ _
@[simp ↓] theorem V8_k (c0 c1 c2 c3 c4 c5 c6 c7 : Cell) (io : Bool) (x : List (Key × D)) (cs : Cs) (k : D → Prop) : opK (view (c0 :: c1 :: c2 :: c3 :: c4 :: c5 :: c6 :: c7 :: .o io (.k x) :: cs) (frz (.s 8))) k ↔ k (.dk x) := opK_some _ _
@[simp ↓] theorem K8 (c0 c1 c2 c3 c4 c5 c6 c7 : Cell) (c d : Cell) (cs : Cs) (k : Cs → Prop) : Kset 8 c (c0 :: c1 :: c2 :: c3 :: c4 :: c5 :: c6 :: c7 :: d :: cs) k ↔ k (c0 :: c1 :: c2 :: c3 :: c4 :: c5 :: c6 :: c7 :: c :: cs) := Iff.rfl
@[simp ↓] theorem O8 (c0 c1 c2 c3 c4 c5 c6 c7 : Cell) (io : Bool) (x : O) (cs : Cs) (k : Bool → O → Prop) : onO k (c0 :: c1 :: c2 :: c3 :: c4 :: c5 :: c6 :: c7 :: .o io x :: cs)[8]? ↔ k io x := Iff.rfl
@[simp ↓] theorem G9_d (c0 c1 c2 c3 c4 c5 c6 c7 c8 : Cell) (x : D) (cs : Cs) (Q : Res → Cs → Prop) : R (getV 9) (c0 :: c1 :: c2 :: c3 :: c4 :: c5 :: c6 :: c7 :: c8 :: .d x :: cs) Q ↔ Q (.d x) (c0 :: c1 :: c2 :: c3 :: c4 :: c5 :: c6 :: c7 :: c8 :: .d x :: cs) := R_getV _ _
@[simp ↓] theorem G9_o (c0 c1 c2 c3 c4 c5 c6 c7 c8 : Cell) (io : Bool) (x : O) (cs : Cs) (Q : Res → Cs → Prop) : R (getV 9) (c0 :: c1 :: c2 :: c3 :: c4 :: c5 :: c6 :: c7 :: c8 :: .o io x :: cs) Q ↔ Q (.s 9) (c0 :: c1 :: c2 :: c3 :: c4 :: c5 :: c6 :: c7 :: c8 :: .o io x :: cs) := R_getV _ _
@[simp ↓] theorem Z9_d (c0 c1 c2 c3 c4 c5 c6 c7 c8 : Cell) (x : D) (cs : Cs) (Q : Res → Cs → Prop) : R (fzV2 9) (c0 :: c1 :: c2 :: c3 :: c4 :: c5 :: c6 :: c7 :: c8 :: .d x :: cs) Q ↔ Q (.d x) (c0 :: c1 :: c2 :: c3 :: c4 :: c5 :: c6 :: c7 :: c8 :: .d x :: cs) := R_fzV2 _ _
@[simp ↓] theorem Z9_l (c0 c1 c2 c3 c4 c5 c6 c7 c8 : Cell) (x : List D) (cs : Cs) (Q : Res → Cs → Prop) : R (fzV2 9) (c0 :: c1 :: c2 :: c3 :: c4 :: c5 :: c6 :: c7 :: c8 :: .o false (.l x) :: cs) Q ↔ Q (.d (.lst x)) (c0 :: c1 :: c2 :: c3 :: c4 :: c5 :: c6 :: c7 :: c8 :: .d (.lst x) :: cs) := R_fzV2 _ _
@[simp ↓] theorem Z9_k (c0 c1 c2 c3 c4 c5 c6 c7 c8 : Cell) (x : List (Key × D)) (cs : Cs) (Q : Res → Cs → Prop) : R (fzV2 9) (c0 :: c1 :: c2 :: c3 :: c4 :: c5 :: c6 :: c7 :: c8 :: .o false (.k x) :: cs) Q ↔ Q (.d (.dk x)) (c0 :: c1 :: c2 :: c3 :: c4 :: c5 :: c6 :: c7 :: c8 :: .d (.dk x) :: cs) := R_fzV2 _ _
@[simp ↓] theorem V9_l (c0 c1 c2 c3 c4 c5 c6 c7 c8 : Cell) (io : Bool) (x : List D) (cs : Cs) (k : D → Prop) : opK (view (c0 :: c1 :: c2 :: c3 :: c4 :: c5 :: c6 :: c7 :: c8 :: .o io (.l x) :: cs) (frz (.s 9))) k ↔ k (.lst x) := opK_some _ _
@[simp ↓] theorem V9_k (c0 c1 c2 c3 c4 c5 c6 c7 c8 : Cell) (io : Bool) (x : List (Key × D)) (cs : Cs) (k : D → Prop) : opK (view (c0 :: c1 :: c2 :: c3 :: c4 :: c5 :: c6 :: c7 :: c8 :: .o io (.k x) :: cs) (frz (.s 9))) k ↔ k (.dk x) := opK_some _ _
@[simp ↓] theorem K9 (c0 c1 c2 c3 c4 c5 c6 c7 c8 : Cell) (c d : Cell) (cs : Cs) (k : Cs → Prop) : Kset 9 c (c0 :: c1 :: c2 :: c3 :: c4 :: c5 :: c6 :: c7 :: c8 :: d :: cs) k ↔ k (c0 :: c1 :: c2 :: c3 :: c4 :: c5 :: c6 :: c7 :: c8 :: c :: cs) := Iff.rfl
@[simp ↓] theorem O9 (c0 c1 c2 c3 c4 c5 c6 c7 c8 : Cell) (io : Bool) (x : O) (cs : Cs) (k : Bool → O → Prop) : onO k (c0 :: c1 :: c2 :: c3 :: c4 :: c5 :: c6 :: c7 :: c8 :: .o io x :: cs)[9]? ↔ k io x := Iff.rfl
@[simp ↓] theorem G10_d (c0 c1 c2 c3 c4 c5 c6 c7 c8 c9 : Cell) (x : D) (cs : Cs) (Q : Res → Cs → Prop) : R (getV 10) (c0 :: c1 :: c2 :: c3 :: c4 :: c5 :: c6 :: c7 :: c8 :: c9 :: .d x :: cs) Q ↔ Q (.d x) (c0 :: c1 :: c2 :: c3 :: c4 :: c5 :: c6 :: c7 :: c8 :: c9 :: .d x :: cs) := R_getV _ _
@[simp ↓] theorem G10_o (c0 c1 c2 c3 c4 c5 c6 c7 c8 c9 : Cell) (io : Bool) (x : O) (cs : Cs) (Q : Res → Cs → Prop) : R (getV 10) (c0 :: c1 :: c2 :: c3 :: c4 :: c5 :: c6 :: c7 :: c8 :: c9 :: .o io x :: cs) Q ↔ Q (.s 10) (c0 :: c1 :: c2 :: c3 :: c4 :: c5 :: c6 :: c7 :: c8 :: c9 :: .o io x :: cs) := R_getV _ _
@[simp ↓] theorem Z10_d (c0 c1 c2 c3 c4 c5 c6 c7 c8 c9 : Cell) (x : D) (cs : Cs) (Q : Res → Cs → Prop) : R (fzV2 10) (c0 :: c1 :: c2 :: c3 :: c4 :: c5 :: c6 :: c7 :: c8 :: c9 :: .d x :: cs) Q ↔ Q (.d x) (c0 :: c1 :: c2 :: c3 :: c4 :: c5 :: c6 :: c7 :: c8 :: c9 :: .d x :: cs) := R_fzV2 _ _
@[simp ↓] theorem Z10_l (c0 c1 c2 c3 c4 c5 c6 c7 c8 c9 : Cell) (x : List D) (cs : Cs) (Q : Res → Cs → Prop) : R (fzV2 10) (c0 :: c1 :: c2 :: c3 :: c4 :: c5 :: c6 :: c7 :: c8 :: c9 :: .o false (.l x) :: cs) Q ↔ Q (.d (.lst x)) (c0 :: c1 :: c2 :: c3 :: c4 :: c5 :: c6 :: c7 :: c8 :: c9 :: .d (.lst x) :: cs) := R_fzV2 _ _
@[simp ↓] theorem Z10_k (c0 c1 c2 c3 c4 c5 c6 c7 c8 c9 : Cell) (x : List (Key × D)) (cs : Cs) (Q : Res → Cs → Prop) : R (fzV2 10) (c0 :: c1 :: c2 :: c3 :: c4 :: c5 :: c6 :: c7 :: c8 :: c9 :: .o false (.k x) :: cs) Q ↔ Q (.d (.dk x)) (c0 :: c1 :: c2 :: c3 :: c4 :: c5 :: c6 :: c7 :: c8 :: c9 :: .d (.dk x) :: cs) := R_fzV2 _ _
@[simp ↓] theorem V10_l (c0 c1 c2 c3 c4 c5 c6 c7 c8 c9 : Cell) (io : Bool) (x : List D) (cs : Cs) (k : D → Prop) : opK (view (c0 :: c1 :: c2 :: c3 :: c4 :: c5 :: c6 :: c7 :: c8 :: c9 :: .o io (.l x) :: cs) (frz (.s 10))) k ↔ k (.lst x) := opK_some _ _
@[simp ↓] theorem V10_k (c0 c1 c2 c3 c4 c5 c6 c7 c8 c9 : Cell) (io : Bool) (x : List (Key × D)) (cs : Cs) (k : D → Prop) : opK (view (c0 :: c1 :: c2 :: c3 :: c4 :: c5 :: c6 :: c7 :: c8 :: c9 :: .o io (.k x) :: cs) (frz (.s 10))) k ↔ k (.dk x) := opK_some _ _
@[simp ↓] theorem K10 (c0 c1 c2 c3 c4 c5 c6 c7 c8 c9 : Cell) (c d : Cell) (cs : Cs) (k : Cs → Prop) : Kset 10 c (c0 :: c1 :: c2 :: c3 :: c4 :: c5 :: c6 :: c7 :: c8 :: c9 :: d :: cs) k ↔ k (c0 :: c1 :: c2 :: c3 :: c4 :: c5 :: c6 :: c7 :: c8 :: c9 :: c :: cs) := Iff.rfl
@[simp ↓] theorem O10 (c0 c1 c2 c3 c4 c5 c6 c7 c8 c9 : Cell) (io : Bool) (x : O) (cs : Cs) (k : Bool → O → Prop) : onO k (c0 :: c1 :: c2 :: c3 :: c4 :: c5 :: c6 :: c7 :: c8 :: c9 :: .o io x :: cs)[10]? ↔ k io x := Iff.rfl
@[simp ↓] theorem G11_d (c0 c1 c2 c3 c4 c5 c6 c7 c8 c9 c10 : Cell) (x : D) (cs : Cs) (Q : Res → Cs → Prop) : R (getV 11) (c0 :: c1 :: c2 :: c3 :: c4 :: c5 :: c6 :: c7 :: c8 :: c9 :: c10 :: .d x :: cs) Q ↔ Q (.d x) (c0 :: c1 :: c2 :: c3 :: c4 :: c5 :: c6 :: c7 :: c8 :: c9 :: c10 :: .d x :: cs) := R_getV _ _
@[simp ↓] theorem G11_o (c0 c1 c2 c3 c4 c5 c6 c7 c8 c9 c10 : Cell) (io : Bool) (x : O) (cs : Cs) (Q : Res → Cs → Prop) : R (getV 11) (c0 :: c1 :: c2 :: c3 :: c4 :: c5 :: c6 :: c7 :: c8 :: c9 :: c10 :: .o io x :: cs) Q ↔ Q (.s 11) (c0 :: c1 :: c2 :: c3 :: c4 :: c5 :: c6 :: c7 :: c8 :: c9 :: c10 :: .o io x :: cs) := R_getV _ _
@[simp ↓] theorem Z11_d (c0 c1 c2 c3 c4 c5 c6 c7 c8 c9 c10 : Cell) (x : D) (cs : Cs) (Q : Res → Cs → Prop) : R (fzV2 11) (c0 :: c1 :: c2 :: c3 :: c4 :: c5 :: c6 :: c7 :: c8 :: c9 :: c10 :: .d x :: cs) Q ↔ Q (.d x) (c0 :: c1 :: c2 :: c3 :: c4 :: c5 :: c6 :: c7 :: c8 :: c9 :: c10 :: .d x :: cs) := R_fzV2 _ _
@[simp ↓] theorem Z11_l (c0 c1 c2 c3 c4 c5 c6 c7 c8 c9 c10 : Cell) (x : List D) (cs : Cs) (Q : Res → Cs → Prop) : R (fzV2 11) (c0 :: c1 :: c2 :: c3 :: c4 :: c5 :: c6 :: c7 :: c8 :: c9 :: c10 :: .o false (.l x) :: cs) Q ↔ Q (.d (.lst x)) (c0 :: c1 :: c2 :: c3 :: c4 :: c5 :: c6 :: c7 :: c8 :: c9 :: c10 :: .d (.lst x) :: cs) := R_fzV2 _ _
@[simp ↓] theorem Z11_k (c0 c1 c2 c3 c4 c5 c6 c7 c8 c9 c10 : Cell) (x : List (Key × D)) (cs : Cs) (Q : Res → Cs → Prop) : R (fzV2 11) (c0 :: c1 :: c2 :: c3 :: c4 :: c5 :: c6 :: c7 :: c8 :: c9 :: c10 :: .o false (.k x) :: cs) Q ↔ Q (.d (.dk x)) (c0 :: c1 :: c2 :: c3 :: c4 :: c5 :: c6 :: c7 :: c8 :: c9 :: c10 :: .d (.dk x) :: cs) := R_fzV2 _ _
@[simp ↓] theorem V11_l (c0 c1 c2 c3 c4 c5 c6 c7 c8 c9 c10 : Cell) (io : Bool) (x : List D) (cs : Cs) (k : D → Prop) : opK (view (c0 :: c1 :: c2 :: c3 :: c4 :: c5 :: c6 :: c7 :: c8 :: c9 :: c10 :: .o io (.l x) :: cs) (frz (.s 11))) k ↔ k (.lst x) := opK_some _ _
@[simp ↓] theorem V11_k (c0 c1 c2 c3 c4 c5 c6 c7 c8 c9 c10 : Cell) (io : Bool) (x : List (Key × D)) (cs : Cs) (k : D → Prop) : opK (view (c0 :: c1 :: c2 :: c3 :: c4 :: c5 :: c6 :: c7 :: c8 :: c9 :: c10 :: .o io (.k x) :: cs) (frz (.s 11))) k ↔ k (.dk x) := opK_some _ _
@[simp ↓] theorem K11 (c0 c1 c2 c3 c4 c5 c6 c7 c8 c9 c10 : Cell) (c d : Cell) (cs : Cs) (k : Cs → Prop) : Kset 11 c (c0 :: c1 :: c2 :: c3 :: c4 :: c5 :: c6 :: c7 :: c8 :: c9 :: c10 :: d :: cs) k ↔ k (c0 :: c1 :: c2 :: c3 :: c4 :: c5 :: c6 :: c7 :: c8 :: c9 :: c10 :: c :: cs) := Iff.rfl
@[simp ↓] theorem O11 (c0 c1 c2 c3 c4 c5 c6 c7 c8 c9 c10 : Cell) (io : Bool) (x : O) (cs : Cs) (k : Bool → O → Prop) : onO k (c0 :: c1 :: c2 :: c3 :: c4 :: c5 :: c6 :: c7 :: c8 :: c9 :: c10 :: .o io x :: cs)[11]? ↔ k io x := Iff.rfl
@[simp ↓] theorem G12_d (c0 c1 c2 c3 c4 c5 c6 c7 c8 c9 c10 c11 : Cell) (x : D) (cs : Cs) (Q : Res → Cs → Prop) : R (getV 12) (c0 :: c1 :: c2 :: c3 :: c4 :: c5 :: c6 :: c7 :: c8 :: c9 :: c10 :: c11 :: .d x :: cs) Q ↔ Q (.d x) (c0 :: c1 :: c2 :: c3 :: c4 :: c5 :: c6 :: c7 :: c8 :: c9 :: c10 :: c11 :: .d x :: cs) := R_getV _ _
@[simp ↓] theorem G12_o (c0 c1 c2 c3 c4 c5 c6 c7 c8 c9 c10 c11 : Cell) (io : Bool) (x : O) (cs : Cs) (Q : Res → Cs → Prop) : R (getV 12) (c0 :: c1 :: c2 :: c3 :: c4 :: c5 :: c6 :: c7 :: c8 :: c9 :: c10 :: c11 :: .o io x :: cs) Q ↔ Q (.s 12) (c0 :: c1 :: c2 :: c3 :: c4 :: c5 :: c6 :: c7 :: c8 :: c9 :: c10 :: c11 :: .o io x :: cs) := R_getV _ _
@[simp ↓] theorem Z12_d (c0 c1 c2 c3 c4 c5 c6 c7 c8 c9 c10 c11 : Cell) (x : D) (cs : Cs) (Q : Res → Cs → Prop) : R (fzV2 12) (c0 :: c1 :: c2 :: c3 :: c4 :: c5 :: c6 :: c7 :: c8 :: c9 :: c10 :: c11 :: .d x :: cs) Q ↔ Q (.d x) (c0 :: c1 :: c2 :: c3 :: c4 :: c5 :: c6 :: c7 :: c8 :: c9 :: c10 :: c11 :: .d x :: cs) := R_fzV2 _ _
@[simp ↓] theorem Z12_l (c0 c1 c2 c3 c4 c5 c6 c7 c8 c9 c10 c11 : Cell) (x : List D) (cs : Cs) (Q : Res → Cs → Prop) : R (fzV2 12) (c0 :: c1 :: c2 :: c3 :: c4 :: c5 :: c6 :: c7 :: c8 :: c9 :: c10 :: c11 :: .o false (.l x) :: cs) Q ↔ Q (.d (.lst x)) (c0 :: c1 :: c2 :: c3 :: c4 :: c5 :: c6 :: c7 :: c8 :: c9 :: c10 :: c11 :: .d (.lst x) :: cs) := R_fzV2 _ _
@[simp ↓] theorem Z12_k (c0 c1 c2 c3 c4 c5 c6 c7 c8 c9 c10 c11 : Cell) (x : List (Key × D)) (cs : Cs) (Q : Res → Cs → Prop) : R (fzV2 12) (c0 :: c1 :: c2 :: c3 :: c4 :: c5 :: c6 :: c7 :: c8 :: c9 :: c10 :: c11 :: .o false (.k x) :: cs) Q ↔ Q (.d (.dk x)) (c0 :: c1 :: c2 :: c3 :: c4 :: c5 :: c6 :: c7 :: c8 :: c9 :: c10 :: c11 :: .d (.dk x) :: cs) := R_fzV2 _ _
@[simp ↓] theorem V12_l (c0 c1 c2 c3 c4 c5 c6 c7 c8 c9 c10 c11 : Cell) (io : Bool) (x : List D) (cs : Cs) (k : D → Prop) : opK (view (c0 :: c1 :: c2 :: c3 :: c4 :: c5 :: c6 :: c7 :: c8 :: c9 :: c10 :: c11 :: .o io (.l x) :: cs) (frz (.s 12))) k ↔ k (.lst x) := opK_some _ _
@[simp ↓] theorem V12_k (c0 c1 c2 c3 c4 c5 c6 c7 c8 c9 c10 c11 : Cell) (io : Bool) (x : List (Key × D)) (cs : Cs) (k : D → Prop) : opK (view (c0 :: c1 :: c2 :: c3 :: c4 :: c5 :: c6 :: c7 :: c8 :: c9 :: c10 :: c11 :: .o io (.k x) :: cs) (frz (.s 12))) k ↔ k (.dk x) := opK_some _ _
@[simp ↓] theorem K12 (c0 c1 c2 c3 c4 c5 c6 c7 c8 c9 c10 c11 : Cell) (c d : Cell) (cs : Cs) (k : Cs → Prop) : Kset 12 c (c0 :: c1 :: c2 :: c3 :: c4 :: c5 :: c6 :: c7 :: c8 :: c9 :: c10 :: c11 :: d :: cs) k ↔ k (c0 :: c1 :: c2 :: c3 :: c4 :: c5 :: c6 :: c7 :: c8 :: c9 :: c10 :: c11 :: c :: cs) := Iff.rfl
@[simp ↓] theorem O12 (c0 c1 c2 c3 c4 c5 c6 c7 c8 c9 c10 c11 : Cell) (io : Bool) (x : O) (cs : Cs) (k : Bool → O → Prop) : onO k (c0 :: c1 :: c2 :: c3 :: c4 :: c5 :: c6 :: c7 :: c8 :: c9 :: c10 :: c11 :: .o io x :: cs)[12]? ↔ k io x := Iff.rfl
@[simp ↓] theorem G13_d (c0 c1 c2 c3 c4 c5 c6 c7 c8 c9 c10 c11 c12 : Cell) (x : D) (cs : Cs) (Q : Res → Cs → Prop) : R (getV 13) (c0 :: c1 :: c2 :: c3 :: c4 :: c5 :: c6 :: c7 :: c8 :: c9 :: c10 :: c11 :: c12 :: .d x :: cs) Q ↔ Q (.d x) (c0 :: c1 :: c2 :: c3 :: c4 :: c5 :: c6 :: c7 :: c8 :: c9 :: c10 :: c11 :: c12 :: .d x :: cs) := R_getV _ _
@[simp ↓] theorem G13_o (c0 c1 c2 c3 c4 c5 c6 c7 c8 c9 c10 c11 c12 : Cell) (io : Bool) (x : O) (cs : Cs) (Q : Res → Cs → Prop) : R (getV 13) (c0 :: c1 :: c2 :: c3 :: c4 :: c5 :: c6 :: c7 :: c8 :: c9 :: c10 :: c11 :: c12 :: .o io x :: cs) Q ↔ Q (.s 13) (c0 :: c1 :: c2 :: c3 :: c4 :: c5 :: c6 :: c7 :: c8 :: c9 :: c10 :: c11 :: c12 :: .o io x :: cs) := R_getV _ _
@[simp ↓] theorem Z13_d (c0 c1 c2 c3 c4 c5 c6 c7 c8 c9 c10 c11 c12 : Cell) (x : D) (cs : Cs) (Q : Res → Cs → Prop) : R (fzV2 13) (c0 :: c1 :: c2 :: c3 :: c4 :: c5 :: c6 :: c7 :: c8 :: c9 :: c10 :: c11 :: c12 :: .d x :: cs) Q ↔ Q (.d x) (c0 :: c1 :: c2 :: c3 :: c4 :: c5 :: c6 :: c7 :: c8 :: c9 :: c10 :: c11 :: c12 :: .d x :: cs) := R_fzV2 _ _
@[simp ↓] theorem Z13_l (c0 c1 c2 c3 c4 c5 c6 c7 c8 c9 c10 c11 c12 : Cell) (x : List D) (cs : Cs) (Q : Res → Cs → Prop) : R (fzV2 13) (c0 :: c1 :: c2 :: c3 :: c4 :: c5 :: c6 :: c7 :: c8 :: c9 :: c10 :: c11 :: c12 :: .o false (.l x) :: cs) Q ↔ Q (.d (.lst x)) (c0 :: c1 :: c2 :: c3 :: c4 :: c5 :: c6 :: c7 :: c8 :: c9 :: c10 :: c11 :: c12 :: .d (.lst x) :: cs) := R_fzV2 _ _
@[simp ↓] theorem Z13_k (c0 c1 c2 c3 c4 c5 c6 c7 c8 c9 c10 c11 c12 : Cell) (x : List (Key × D)) (cs : Cs) (Q : Res → Cs → Prop) : R (fzV2 13) (c0 :: c1 :: c2 :: c3 :: c4 :: c5 :: c6 :: c7 :: c8 :: c9 :: c10 :: c11 :: c12 :: .o false (.k x) :: cs) Q ↔ Q (.d (.dk x)) (c0 :: c1 :: c2 :: c3 :: c4 :: c5 :: c6 :: c7 :: c8 :: c9 :: c10 :: c11 :: c12 :: .d (.dk x) :: cs) := R_fzV2 _ _
@[simp ↓] theorem V13_l (c0 c1 c2 c3 c4 c5 c6 c7 c8 c9 c10 c11 c12 : Cell) (io : Bool) (x : List D) (cs : Cs) (k : D → Prop) : opK (view (c0 :: c1 :: c2 :: c3 :: c4 :: c5 :: c6 :: c7 :: c8 :: c9 :: c10 :: c11 :: c12 :: .o io (.l x) :: cs) (frz (.s 13))) k ↔ k (.lst x) := opK_some _ _
@[simp ↓] theorem V13_k (c0 c1 c2 c3 c4 c5 c6 c7 c8 c9 c10 c11 c12 : Cell) (io : Bool) (x : List (Key × D)) (cs : Cs) (k : D → Prop) : opK (view (c0 :: c1 :: c2 :: c3 :: c4 :: c5 :: c6 :: c7 :: c8 :: c9 :: c10 :: c11 :: c12 :: .o io (.k x) :: cs) (frz (.s 13))) k ↔ k (.dk x) := opK_some _ _
@[simp ↓] theorem K13 (c0 c1 c2 c3 c4 c5 c6 c7 c8 c9 c10 c11 c12 : Cell) (c d : Cell) (cs : Cs) (k : Cs → Prop) : Kset 13 c (c0 :: c1 :: c2 :: c3 :: c4 :: c5 :: c6 :: c7 :: c8 :: c9 :: c10 :: c11 :: c12 :: d :: cs) k ↔ k (c0 :: c1 :: c2 :: c3 :: c4 :: c5 :: c6 :: c7 :: c8 :: c9 :: c10 :: c11 :: c12 :: c :: cs) := Iff.rfl
@[simp ↓] theorem O13 (c0 c1 c2 c3 c4 c5 c6 c7 c8 c9 c10 c11 c12 : Cell) (io : Bool) (x : O) (cs : Cs) (k : Bool → O → Prop) : onO k (c0 :: c1 :: c2 :: c3 :: c4 :: c5 :: c6 :: c7 :: c8 :: c9 :: c10 :: c11 :: c12 :: .o io x :: cs)[13]? ↔ k io x := Iff.rfl
@[simp ↓] theorem G14_d (c0 c1 c2 c3 c4 c5 c6 c7 c8 c9 c10 c11 c12 c13 : Cell) (x : D) (cs : Cs) (Q : Res → Cs → Prop) : R (getV 14) (c0 :: c1 :: c2 :: c3 :: c4 :: c5 :: c6 :: c7 :: c8 :: c9 :: c10 :: c11 :: c12 :: c13 :: .d x :: cs) Q ↔ Q (.d x) (c0 :: c1 :: c2 :: c3 :: c4 :: c5 :: c6 :: c7 :: c8 :: c9 :: c10 :: c11 :: c12 :: c13 :: .d x :: cs) := R_getV _ _
@[simp ↓] theorem G14_o (c0 c1 c2 c3 c4 c5 c6 c7 c8 c9 c10 c11 c12 c13 : Cell) (io : Bool) (x : O) (cs : Cs) (Q : Res → Cs → Prop) : R (getV 14) (c0 :: c1 :: c2 :: c3 :: c4 :: c5 :: c6 :: c7 :: c8 :: c9 :: c10 :: c11 :: c12 :: c13 :: .o io x :: cs) Q ↔ Q (.s 14) (c0 :: c1 :: c2 :: c3 :: c4 :: c5 :: c6 :: c7 :: c8 :: c9 :: c10 :: c11 :: c12 :: c13 :: .o io x :: cs) := R_getV _ _
@[simp ↓] theorem Z14_d (c0 c1 c2 c3 c4 c5 c6 c7 c8 c9 c10 c11 c12 c13 : Cell) (x : D) (cs : Cs) (Q : Res → Cs → Prop) : R (fzV2 14) (c0 :: c1 :: c2 :: c3 :: c4 :: c5 :: c6 :: c7 :: c8 :: c9 :: c10 :: c11 :: c12 :: c13 :: .d x :: cs) Q ↔ Q (.d x) (c0 :: c1 :: c2 :: c3 :: c4 :: c5 :: c6 :: c7 :: c8 :: c9 :: c10 :: c11 :: c12 :: c13 :: .d x :: cs) := R_fzV2 _ _
@[simp ↓] theorem Z14_l (c0 c1 c2 c3 c4 c5 c6 c7 c8 c9 c10 c11 c12 c13 : Cell) (x : List D) (cs : Cs) (Q : Res → Cs → Prop) : R (fzV2 14) (c0 :: c1 :: c2 :: c3 :: c4 :: c5 :: c6 :: c7 :: c8 :: c9 :: c10 :: c11 :: c12 :: c13 :: .o false (.l x) :: cs) Q ↔ Q (.d (.lst x)) (c0 :: c1 :: c2 :: c3 :: c4 :: c5 :: c6 :: c7 :: c8 :: c9 :: c10 :: c11 :: c12 :: c13 :: .d (.lst x) :: cs) := R_fzV2 _ _
@[simp ↓] theorem Z14_k (c0 c1 c2 c3 c4 c5 c6 c7 c8 c9 c10 c11 c12 c13 : Cell) (x : List (Key × D)) (cs : Cs) (Q : Res → Cs → Prop) : R (fzV2 14) (c0 :: c1 :: c2 :: c3 :: c4 :: c5 :: c6 :: c7 :: c8 :: c9 :: c10 :: c11 :: c12 :: c13 :: .o false (.k x) :: cs) Q ↔ Q (.d (.dk x)) (c0 :: c1 :: c2 :: c3 :: c4 :: c5 :: c6 :: c7 :: c8 :: c9 :: c10 :: c11 :: c12 :: c13 :: .d (.dk x) :: cs) := R_fzV2 _ _
@[simp ↓] theorem V14_l (c0 c1 c2 c3 c4 c5 c6 c7 c8 c9 c10 c11 c12 c13 : Cell) (io : Bool) (x : List D) (cs : Cs) (k : D → Prop) : opK (view (c0 :: c1 :: c2 :: c3 :: c4 :: c5 :: c6 :: c7 :: c8 :: c9 :: c10 :: c11 :: c12 :: c13 :: .o io (.l x) :: cs) (frz (.s 14))) k ↔ k (.lst x) := opK_some _ _
@[simp ↓] theorem V14_k (c0 c1 c2 c3 c4 c5 c6 c7 c8 c9 c10 c11 c12 c13 : Cell) (io : Bool) (x : List (Key × D)) (cs : Cs) (k : D → Prop) : opK (view (c0 :: c1 :: c2 :: c3 :: c4 :: c5 :: c6 :: c7 :: c8 :: c9 :: c10 :: c11 :: c12 :: c13 :: .o io (.k x) :: cs) (frz (.s 14))) k ↔ k (.dk x) := opK_some _ _
@[simp ↓] theorem K14 (c0 c1 c2 c3 c4 c5 c6 c7 c8 c9 c10 c11 c12 c13 : Cell) (c d : Cell) (cs : Cs) (k : Cs → Prop) : Kset 14 c (c0 :: c1 :: c2 :: c3 :: c4 :: c5 :: c6 :: c7 :: c8 :: c9 :: c10 :: c11 :: c12 :: c13 :: d :: cs) k ↔ k (c0 :: c1 :: c2 :: c3 :: c4 :: c5 :: c6 :: c7 :: c8 :: c9 :: c10 :: c11 :: c12 :: c13 :: c :: cs) := Iff.rfl
@[simp ↓] theorem O14 (c0 c1 c2 c3 c4 c5 c6 c7 c8 c9 c10 c11 c12 c13 : Cell) (io : Bool) (x : O) (cs : Cs) (k : Bool → O → Prop) : onO k (c0 :: c1 :: c2 :: c3 :: c4 :: c5 :: c6 :: c7 :: c8 :: c9 :: c10 :: c11 :: c12 :: c13 :: .o io x :: cs)[14]? ↔ k io x := Iff.rfl
@[simp ↓] theorem G15_d (c0 c1 c2 c3 c4 c5 c6 c7 c8 c9 c10 c11 c12 c13 c14 : Cell) (x : D) (cs : Cs) (Q : Res → Cs → Prop) : R (getV 15) (c0 :: c1 :: c2 :: c3 :: c4 :: c5 :: c6 :: c7 :: c8 :: c9 :: c10 :: c11 :: c12 :: c13 :: c14 :: .d x :: cs) Q ↔ Q (.d x) (c0 :: c1 :: c2 :: c3 :: c4 :: c5 :: c6 :: c7 :: c8 :: c9 :: c10 :: c11 :: c12 :: c13 :: c14 :: .d x :: cs) := R_getV _ _
@[simp ↓] theorem G15_o (c0 c1 c2 c3 c4 c5 c6 c7 c8 c9 c10 c11 c12 c13 c14 : Cell) (io : Bool) (x : O) (cs : Cs) (Q : Res → Cs → Prop) : R (getV 15) (c0 :: c1 :: c2 :: c3 :: c4 :: c5 :: c6 :: c7 :: c8 :: c9 :: c10 :: c11 :: c12 :: c13 :: c14 :: .o io x :: cs) Q ↔ Q (.s 15) (c0 :: c1 :: c2 :: c3 :: c4 :: c5 :: c6 :: c7 :: c8 :: c9 :: c10 :: c11 :: c12 :: c13 :: c14 :: .o io x :: cs) := R_getV _ _
@[simp ↓] theorem Z15_d (c0 c1 c2 c3 c4 c5 c6 c7 c8 c9 c10 c11 c12 c13 c14 : Cell) (x : D) (cs : Cs) (Q : Res → Cs → Prop) : R (fzV2 15) (c0 :: c1 :: c2 :: c3 :: c4 :: c5 :: c6 :: c7 :: c8 :: c9 :: c10 :: c11 :: c12 :: c13 :: c14 :: .d x :: cs) Q ↔ Q (.d x) (c0 :: c1 :: c2 :: c3 :: c4 :: c5 :: c6 :: c7 :: c8 :: c9 :: c10 :: c11 :: c12 :: c13 :: c14 :: .d x :: cs) := R_fzV2 _ _
@[simp ↓] theorem Z15_l (c0 c1 c2 c3 c4 c5 c6 c7 c8 c9 c10 c11 c12 c13 c14 : Cell) (x : List D) (cs : Cs) (Q : Res → Cs → Prop) : R (fzV2 15) (c0 :: c1 :: c2 :: c3 :: c4 :: c5 :: c6 :: c7 :: c8 :: c9 :: c10 :: c11 :: c12 :: c13 :: c14 :: .o false (.l x) :: cs) Q ↔ Q (.d (.lst x)) (c0 :: c1 :: c2 :: c3 :: c4 :: c5 :: c6 :: c7 :: c8 :: c9 :: c10 :: c11 :: c12 :: c13 :: c14 :: .d (.lst x) :: cs) := R_fzV2 _ _
@[simp ↓] theorem Z15_k (c0 c1 c2 c3 c4 c5 c6 c7 c8 c9 c10 c11 c12 c13 c14 : Cell) (x : List (Key × D)) (cs : Cs) (Q : Res → Cs → Prop) : R (fzV2 15) (c0 :: c1 :: c2 :: c3 :: c4 :: c5 :: c6 :: c7 :: c8 :: c9 :: c10 :: c11 :: c12 :: c13 :: c14 :: .o false (.k x) :: cs) Q ↔ Q (.d (.dk x)) (c0 :: c1 :: c2 :: c3 :: c4 :: c5 :: c6 :: c7 :: c8 :: c9 :: c10 :: c11 :: c12 :: c13 :: c14 :: .d (.dk x) :: cs) := R_fzV2 _ _
@[simp ↓] theorem V15_l (c0 c1 c2 c3 c4 c5 c6 c7 c8 c9 c10 c11 c12 c13 c14 : Cell) (io : Bool) (x : List D) (cs : Cs) (k : D → Prop) : opK (view (c0 :: c1 :: c2 :: c3 :: c4 :: c5 :: c6 :: c7 :: c8 :: c9 :: c10 :: c11 :: c12 :: c13 :: c14 :: .o io (.l x) :: cs) (frz (.s 15))) k ↔ k (.lst x) := opK_some _ _
@[simp ↓] theorem V15_k (c0 c1 c2 c3 c4 c5 c6 c7 c8 c9 c10 c11 c12 c13 c14 : Cell) (io : Bool) (x : List (Key × D)) (cs : Cs) (k : D → Prop) : opK (view (c0 :: c1 :: c2 :: c3 :: c4 :: c5 :: c6 :: c7 :: c8 :: c9 :: c10 :: c11 :: c12 :: c13 :: c14 :: .o io (.k x) :: cs) (frz (.s 15))) k ↔ k (.dk x) := opK_some _ _
@[simp ↓] theorem K15 (c0 c1 c2 c3 c4 c5 c6 c7 c8 c9 c10 c11 c12 c13 c14 : Cell) (c d : Cell) (cs : Cs) (k : Cs → Prop) : Kset 15 c (c0 :: c1 :: c2 :: c3 :: c4 :: c5 :: c6 :: c7 :: c8 :: c9 :: c10 :: c11 :: c12 :: c13 :: c14 :: d :: cs) k ↔ k (c0 :: c1 :: c2 :: c3 :: c4 :: c5 :: c6 :: c7 :: c8 :: c9 :: c10 :: c11 :: c12 :: c13 :: c14 :: c :: cs) := Iff.rfl
@[simp ↓] theorem O15 (c0 c1 c2 c3 c4 c5 c6 c7 c8 c9 c10 c11 c12 c13 c14 : Cell) (io : Bool) (x : O) (cs : Cs) (k : Bool → O → Prop) : onO k (c0 :: c1 :: c2 :: c3 :: c4 :: c5 :: c6 :: c7 :: c8 :: c9 :: c10 :: c11 :: c12 :: c13 :: c14 :: .o io x :: cs)[15]? ↔ k io x := Iff.rfl
@[simp ↓] theorem G16_d (c0 c1 c2 c3 c4 c5 c6 c7 c8 c9 c10 c11 c12 c13 c14 c15 : Cell) (x : D) (cs : Cs) (Q : Res → Cs → Prop) : R (getV 16) (c0 :: c1 :: c2 :: c3 :: c4 :: c5 :: c6 :: c7 :: c8 :: c9 :: c10 :: c11 :: c12 :: c13 :: c14 :: c15 :: .d x :: cs) Q ↔ Q (.d x) (c0 :: c1 :: c2 :: c3 :: c4 :: c5 :: c6 :: c7 :: c8 :: c9 :: c10 :: c11 :: c12 :: c13 :: c14 :: c15 :: .d x :: cs) := R_getV _ _
@[simp ↓] theorem G16_o (c0 c1 c2 c3 c4 c5 c6 c7 c8 c9 c10 c11 c12 c13 c14 c15 : Cell) (io : Bool) (x : O) (cs : Cs) (Q : Res → Cs → Prop) : R (getV 16) (c0 :: c1 :: c2 :: c3 :: c4 :: c5 :: c6 :: c7 :: c8 :: c9 :: c10 :: c11 :: c12 :: c13 :: c14 :: c15 :: .o io x :: cs) Q ↔ Q (.s 16) (c0 :: c1 :: c2 :: c3 :: c4 :: c5 :: c6 :: c7 :: c8 :: c9 :: c10 :: c11 :: c12 :: c13 :: c14 :: c15 :: .o io x :: cs) := R_getV _ _
@[simp ↓] theorem Z16_d (c0 c1 c2 c3 c4 c5 c6 c7 c8 c9 c10 c11 c12 c13 c14 c15 : Cell) (x : D) (cs : Cs) (Q : Res → Cs → Prop) : R (fzV2 16) (c0 :: c1 :: c2 :: c3 :: c4 :: c5 :: c6 :: c7 :: c8 :: c9 :: c10 :: c11 :: c12 :: c13 :: c14 :: c15 :: .d x :: cs) Q ↔ Q (.d x) (c0 :: c1 :: c2 :: c3 :: c4 :: c5 :: c6 :: c7 :: c8 :: c9 :: c10 :: c11 :: c12 :: c13 :: c14 :: c15 :: .d x :: cs) := R_fzV2 _ _
@[simp ↓] theorem Z16_l (c0 c1 c2 c3 c4 c5 c6 c7 c8 c9 c10 c11 c12 c13 c14 c15 : Cell) (x : List D) (cs : Cs) (Q : Res → Cs → Prop) : R (fzV2 16) (c0 :: c1 :: c2 :: c3 :: c4 :: c5 :: c6 :: c7 :: c8 :: c9 :: c10 :: c11 :: c12 :: c13 :: c14 :: c15 :: .o false (.l x) :: cs) Q ↔ Q (.d (.lst x)) (c0 :: c1 :: c2 :: c3 :: c4 :: c5 :: c6 :: c7 :: c8 :: c9 :: c10 :: c11 :: c12 :: c13 :: c14 :: c15 :: .d (.lst x) :: cs) := R_fzV2 _ _
@[simp ↓] theorem Z16_k (c0 c1 c2 c3 c4 c5 c6 c7 c8 c9 c10 c11 c12 c13 c14 c15 : Cell) (x : List (Key × D)) (cs : Cs) (Q : Res → Cs → Prop) : R (fzV2 16) (c0 :: c1 :: c2 :: c3 :: c4 :: c5 :: c6 :: c7 :: c8 :: c9 :: c10 :: c11 :: c12 :: c13 :: c14 :: c15 :: .o false (.k x) :: cs) Q ↔ Q (.d (.dk x)) (c0 :: c1 :: c2 :: c3 :: c4 :: c5 :: c6 :: c7 :: c8 :: c9 :: c10 :: c11 :: c12 :: c13 :: c14 :: c15 :: .d (.dk x) :: cs) := R_fzV2 _ _
@[simp ↓] theorem V16_l (c0 c1 c2 c3 c4 c5 c6 c7 c8 c9 c10 c11 c12 c13 c14 c15 : Cell) (io : Bool) (x : List D) (cs : Cs) (k : D → Prop) : opK (view (c0 :: c1 :: c2 :: c3 :: c4 :: c5 :: c6 :: c7 :: c8 :: c9 :: c10 :: c11 :: c12 :: c13 :: c14 :: c15 :: .o io (.l x) :: cs) (frz (.s 16))) k ↔ k (.lst x) := opK_some _ _
@[simp ↓] theorem V16_k (c0 c1 c2 c3 c4 c5 c6 c7 c8 c9 c10 c11 c12 c13 c14 c15 : Cell) (io : Bool) (x : List (Key × D)) (cs : Cs) (k : D → Prop) : opK (view (c0 :: c1 :: c2 :: c3 :: c4 :: c5 :: c6 :: c7 :: c8 :: c9 :: c10 :: c11 :: c12 :: c13 :: c14 :: c15 :: .o io (.k x) :: cs) (frz (.s 16))) k ↔ k (.dk x) := opK_some _ _
@[simp ↓] theorem K16 (c0 c1 c2 c3 c4 c5 c6 c7 c8 c9 c10 c11 c12 c13 c14 c15 : Cell) (c d : Cell) (cs : Cs) (k : Cs → Prop) : Kset 16 c (c0 :: c1 :: c2 :: c3 :: c4 :: c5 :: c6 :: c7 :: c8 :: c9 :: c10 :: c11 :: c12 :: c13 :: c14 :: c15 :: d :: cs) k ↔ k (c0 :: c1 :: c2 :: c3 :: c4 :: c5 :: c6 :: c7 :: c8 :: c9 :: c10 :: c11 :: c12 :: c13 :: c14 :: c15 :: c :: cs) := Iff.rfl
@[simp ↓] theorem O16 (c0 c1 c2 c3 c4 c5 c6 c7 c8 c9 c10 c11 c12 c13 c14 c15 : Cell) (io : Bool) (x : O) (cs : Cs) (k : Bool → O → Prop) : onO k (c0 :: c1 :: c2 :: c3 :: c4 :: c5 :: c6 :: c7 :: c8 :: c9 :: c10 :: c11 :: c12 :: c13 :: c14 :: c15 :: .o io x :: cs)[16]? ↔ k io x := Iff.rfl
@[simp ↓] theorem G17_d (c0 c1 c2 c3 c4 c5 c6 c7 c8 c9 c10 c11 c12 c13 c14 c15 c16 : Cell) (x : D) (cs : Cs) (Q : Res → Cs → Prop) : R (getV 17) (c0 :: c1 :: c2 :: c3 :: c4 :: c5 :: c6 :: c7 :: c8 :: c9 :: c10 :: c11 :: c12 :: c13 :: c14 :: c15 :: c16 :: .d x :: cs) Q ↔ Q (.d x) (c0 :: c1 :: c2 :: c3 :: c4 :: c5 :: c6 :: c7 :: c8 :: c9 :: c10 :: c11 :: c12 :: c13 :: c14 :: c15 :: c16 :: .d x :: cs) := R_getV _ _
@[simp ↓] theorem G17_o (c0 c1 c2 c3 c4 c5 c6 c7 c8 c9 c10 c11 c12 c13 c14 c15 c16 : Cell) (io : Bool) (x : O) (cs : Cs) (Q : Res → Cs → Prop) : R (getV 17) (c0 :: c1 :: c2 :: c3 :: c4 :: c5 :: c6 :: c7 :: c8 :: c9 :: c10 :: c11 :: c12 :: c13 :: c14 :: c15 :: c16 :: .o io x :: cs) Q ↔ Q (.s 17) (c0 :: c1 :: c2 :: c3 :: c4 :: c5 :: c6 :: c7 :: c8 :: c9 :: c10 :: c11 :: c12 :: c13 :: c14 :: c15 :: c16 :: .o io x :: cs) := R_getV _ _
@[simp ↓] theorem Z17_d (c0 c1 c2 c3 c4 c5 c6 c7 c8 c9 c10 c11 c12 c13 c14 c15 c16 : Cell) (x : D) (cs : Cs) (Q : Res → Cs → Prop) : R (fzV2 17) (c0 :: c1 :: c2 :: c3 :: c4 :: c5 :: c6 :: c7 :: c8 :: c9 :: c10 :: c11 :: c12 :: c13 :: c14 :: c15 :: c16 :: .d x :: cs) Q ↔ Q (.d x) (c0 :: c1 :: c2 :: c3 :: c4 :: c5 :: c6 :: c7 :: c8 :: c9 :: c10 :: c11 :: c12 :: c13 :: c14 :: c15 :: c16 :: .d x :: cs) := R_fzV2 _ _
@[simp ↓] theorem Z17_l (c0 c1 c2 c3 c4 c5 c6 c7 c8 c9 c10 c11 c12 c13 c14 c15 c16 : Cell) (x : List D) (cs : Cs) (Q : Res → Cs → Prop) : R (fzV2 17) (c0 :: c1 :: c2 :: c3 :: c4 :: c5 :: c6 :: c7 :: c8 :: c9 :: c10 :: c11 :: c12 :: c13 :: c14 :: c15 :: c16 :: .o false (.l x) :: cs) Q ↔ Q (.d (.lst x)) (c0 :: c1 :: c2 :: c3 :: c4 :: c5 :: c6 :: c7 :: c8 :: c9 :: c10 :: c11 :: c12 :: c13 :: c14 :: c15 :: c16 :: .d (.lst x) :: cs) := R_fzV2 _ _
@[simp ↓] theorem Z17_k (c0 c1 c2 c3 c4 c5 c6 c7 c8 c9 c10 c11 c12 c13 c14 c15 c16 : Cell) (x : List (Key × D)) (cs : Cs) (Q : Res → Cs → Prop) : R (fzV2 17) (c0 :: c1 :: c2 :: c3 :: c4 :: c5 :: c6 :: c7 :: c8 :: c9 :: c10 :: c11 :: c12 :: c13 :: c14 :: c15 :: c16 :: .o false (.k x) :: cs) Q ↔ Q (.d (.dk x)) (c0 :: c1 :: c2 :: c3 :: c4 :: c5 :: c6 :: c7 :: c8 :: c9 :: c10 :: c11 :: c12 :: c13 :: c14 :: c15 :: c16 :: .d (.dk x) :: cs) := R_fzV2 _ _
@[simp ↓] theorem V17_l (c0 c1 c2 c3 c4 c5 c6 c7 c8 c9 c10 c11 c12 c13 c14 c15 c16 : Cell) (io : Bool) (x : List D) (cs : Cs) (k : D → Prop) : opK (view (c0 :: c1 :: c2 :: c3 :: c4 :: c5 :: c6 :: c7 :: c8 :: c9 :: c10 :: c11 :: c12 :: c13 :: c14 :: c15 :: c16 :: .o io (.l x) :: cs) (frz (.s 17))) k ↔ k (.lst x) := opK_some _ _
@[simp ↓] theorem V17_k (c0 c1 c2 c3 c4 c5 c6 c7 c8 c9 c10 c11 c12 c13 c14 c15 c16 : Cell) (io : Bool) (x : List (Key × D)) (cs : Cs) (k : D → Prop) : opK (view (c0 :: c1 :: c2 :: c3 :: c4 :: c5 :: c6 :: c7 :: c8 :: c9 :: c10 :: c11 :: c12 :: c13 :: c14 :: c15 :: c16 :: .o io (.k x) :: cs) (frz (.s 17))) k ↔ k (.dk x) := opK_some _ _
@[simp ↓] theorem K17 (c0 c1 c2 c3 c4 c5 c6 c7 c8 c9 c10 c11 c12 c13 c14 c15 c16 : Cell) (c d : Cell) (cs : Cs) (k : Cs → Prop) : Kset 17 c (c0 :: c1 :: c2 :: c3 :: c4 :: c5 :: c6 :: c7 :: c8 :: c9 :: c10 :: c11 :: c12 :: c13 :: c14 :: c15 :: c16 :: d :: cs) k ↔ k (c0 :: c1 :: c2 :: c3 :: c4 :: c5 :: c6 :: c7 :: c8 :: c9 :: c10 :: c11 :: c12 :: c13 :: c14 :: c15 :: c16 :: c :: cs) := Iff.rfl
@[simp ↓] theorem O17 (c0 c1 c2 c3 c4 c5 c6 c7 c8 c9 c10 c11 c12 c13 c14 c15 c16 : Cell) (io : Bool) (x : O) (cs : Cs) (k : Bool → O → Prop) : onO k (c0 :: c1 :: c2 :: c3 :: c4 :: c5 :: c6 :: c7 :: c8 :: c9 :: c10 :: c11 :: c12 :: c13 :: c14 :: c15 :: c16 :: .o io x :: cs)[17]? ↔ k io x := Iff.rfl
@[simp ↓] theorem G18_d (c0 c1 c2 c3 c4 c5 c6 c7 c8 c9 c10 c11 c12 c13 c14 c15 c16 c17 : Cell) (x : D) (cs : Cs) (Q : Res → Cs → Prop) : R (getV 18) (c0 :: c1 :: c2 :: c3 :: c4 :: c5 :: c6 :: c7 :: c8 :: c9 :: c10 :: c11 :: c12 :: c13 :: c14 :: c15 :: c16 :: c17 :: .d x :: cs) Q ↔ Q (.d x) (c0 :: c1 :: c2 :: c3 :: c4 :: c5 :: c6 :: c7 :: c8 :: c9 :: c10 :: c11 :: c12 :: c13 :: c14 :: c15 :: c16 :: c17 :: .d x :: cs) := R_getV _ _
@[simp ↓] theorem G18_o (c0 c1 c2 c3 c4 c5 c6 c7 c8 c9 c10 c11 c12 c13 c14 c15 c16 c17 : Cell) (io : Bool) (x : O) (cs : Cs) (Q : Res → Cs → Prop) : R (getV 18) (c0 :: c1 :: c2 :: c3 :: c4 :: c5 :: c6 :: c7 :: c8 :: c9 :: c10 :: c11 :: c12 :: c13 :: c14 :: c15 :: c16 :: c17 :: .o io x :: cs) Q ↔ Q (.s 18) (c0 :: c1 :: c2 :: c3 :: c4 :: c5 :: c6 :: c7 :: c8 :: c9 :: c10 :: c11 :: c12 :: c13 :: c14 :: c15 :: c16 :: c17 :: .o io x :: cs) := R_getV _ _
@[simp ↓] theorem Z18_d (c0 c1 c2 c3 c4 c5 c6 c7 c8 c9 c10 c11 c12 c13 c14 c15 c16 c17 : Cell) (x : D) (cs : Cs) (Q : Res → Cs → Prop) : R (fzV2 18) (c0 :: c1 :: c2 :: c3 :: c4 :: c5 :: c6 :: c7 :: c8 :: c9 :: c10 :: c11 :: c12 :: c13 :: c14 :: c15 :: c16 :: c17 :: .d x :: cs) Q ↔ Q (.d x) (c0 :: c1 :: c2 :: c3 :: c4 :: c5 :: c6 :: c7 :: c8 :: c9 :: c10 :: c11 :: c12 :: c13 :: c14 :: c15 :: c16 :: c17 :: .d x :: cs) := R_fzV2 _ _
@[simp ↓] theorem Z18_l (c0 c1 c2 c3 c4 c5 c6 c7 c8 c9 c10 c11 c12 c13 c14 c15 c16 c17 : Cell) (x : List D) (cs : Cs) (Q : Res → Cs → Prop) : R (fzV2 18) (c0 :: c1 :: c2 :: c3 :: c4 :: c5 :: c6 :: c7 :: c8 :: c9 :: c10 :: c11 :: c12 :: c13 :: c14 :: c15 :: c16 :: c17 :: .o false (.l x) :: cs) Q ↔ Q (.d (.lst x)) (c0 :: c1 :: c2 :: c3 :: c4 :: c5 :: c6 :: c7 :: c8 :: c9 :: c10 :: c11 :: c12 :: c13 :: c14 :: c15 :: c16 :: c17 :: .d (.lst x) :: cs) := R_fzV2 _ _
@[simp ↓] theorem Z18_k (c0 c1 c2 c3 c4 c5 c6 c7 c8 c9 c10 c11 c12 c13 c14 c15 c16 c17 : Cell) (x : List (Key × D)) (cs : Cs) (Q : Res → Cs → Prop) : R (fzV2 18) (c0 :: c1 :: c2 :: c3 :: c4 :: c5 :: c6 :: c7 :: c8 :: c9 :: c10 :: c11 :: c12 :: c13 :: c14 :: c15 :: c16 :: c17 :: .o false (.k x) :: cs) Q ↔ Q (.d (.dk x)) (c0 :: c1 :: c2 :: c3 :: c4 :: c5 :: c6 :: c7 :: c8 :: c9 :: c10 :: c11 :: c12 :: c13 :: c14 :: c15 :: c16 :: c17 :: .d (.dk x) :: cs) := R_fzV2 _ _
@[simp ↓] theorem V18_l (c0 c1 c2 c3 c4 c5 c6 c7 c8 c9 c10 c11 c12 c13 c14 c15 c16 c17 : Cell) (io : Bool) (x : List D) (cs : Cs) (k : D → Prop) : opK (view (c0 :: c1 :: c2 :: c3 :: c4 :: c5 :: c6 :: c7 :: c8 :: c9 :: c10 :: c11 :: c12 :: c13 :: c14 :: c15 :: c16 :: c17 :: .o io (.l x) :: cs) (frz (.s 18))) k ↔ k (.lst x) := opK_some _ _
@[simp ↓] theorem V18_k (c0 c1 c2 c3 c4 c5 c6 c7 c8 c9 c10 c11 c12 c13 c14 c15 c16 c17 : Cell) (io : Bool) (x : List (Key × D)) (cs : Cs) (k : D → Prop) : opK (view (c0 :: c1 :: c2 :: c3 :: c4 :: c5 :: c6 :: c7 :: c8 :: c9 :: c10 :: c11 :: c12 :: c13 :: c14 :: c15 :: c16 :: c17 :: .o io (.k x) :: cs) (frz (.s 18))) k ↔ k (.dk x) := opK_some _ _
@[simp ↓] theorem K18 (c0 c1 c2 c3 c4 c5 c6 c7 c8 c9 c10 c11 c12 c13 c14 c15 c16 c17 : Cell) (c d : Cell) (cs : Cs) (k : Cs → Prop) : Kset 18 c (c0 :: c1 :: c2 :: c3 :: c4 :: c5 :: c6 :: c7 :: c8 :: c9 :: c10 :: c11 :: c12 :: c13 :: c14 :: c15 :: c16 :: c17 :: d :: cs) k ↔ k (c0 :: c1 :: c2 :: c3 :: c4 :: c5 :: c6 :: c7 :: c8 :: c9 :: c10 :: c11 :: c12 :: c13 :: c14 :: c15 :: c16 :: c17 :: c :: cs) := Iff.rfl
@[simp ↓] theorem O18 (c0 c1 c2 c3 c4 c5 c6 c7 c8 c9 c10 c11 c12 c13 c14 c15 c16 c17 : Cell) (io : Bool) (x : O) (cs : Cs) (k : Bool → O → Prop) : onO k (c0 :: c1 :: c2 :: c3 :: c4 :: c5 :: c6 :: c7 :: c8 :: c9 :: c10 :: c11 :: c12 :: c13 :: c14 :: c15 :: c16 :: c17 :: .o io x :: cs)[18]? ↔ k io x := Iff.rfl
@[simp ↓] theorem G19_d (c0 c1 c2 c3 c4 c5 c6 c7 c8 c9 c10 c11 c12 c13 c14 c15 c16 c17 c18 : Cell) (x : D) (cs : Cs) (Q : Res → Cs → Prop) : R (getV 19) (c0 :: c1 :: c2 :: c3 :: c4 :: c5 :: c6 :: c7 :: c8 :: c9 :: c10 :: c11 :: c12 :: c13 :: c14 :: c15 :: c16 :: c17 :: c18 :: .d x :: cs) Q ↔ Q (.d x) (c0 :: c1 :: c2 :: c3 :: c4 :: c5 :: c6 :: c7 :: c8 :: c9 :: c10 :: c11 :: c12 :: c13 :: c14 :: c15 :: c16 :: c17 :: c18 :: .d x :: cs) := R_getV _ _
@[simp ↓] theorem G19_o (c0 c1 c2 c3 c4 c5 c6 c7 c8 c9 c10 c11 c12 c13 c14 c15 c16 c17 c18 : Cell) (io : Bool) (x : O) (cs : Cs) (Q : Res → Cs → Prop) : R (getV 19) (c0 :: c1 :: c2 :: c3 :: c4 :: c5 :: c6 :: c7 :: c8 :: c9 :: c10 :: c11 :: c12 :: c13 :: c14 :: c15 :: c16 :: c17 :: c18 :: .o io x :: cs) Q ↔ Q (.s 19) (c0 :: c1 :: c2 :: c3 :: c4 :: c5 :: c6 :: c7 :: c8 :: c9 :: c10 :: c11 :: c12 :: c13 :: c14 :: c15 :: c16 :: c17 :: c18 :: .o io x :: cs) := R_getV _ _
@[simp ↓] theorem Z19_d (c0 c1 c2 c3 c4 c5 c6 c7 c8 c9 c10 c11 c12 c13 c14 c15 c16 c17 c18 : Cell) (x : D) (cs : Cs) (Q : Res → Cs → Prop) : R (fzV2 19) (c0 :: c1 :: c2 :: c3 :: c4 :: c5 :: c6 :: c7 :: c8 :: c9 :: c10 :: c11 :: c12 :: c13 :: c14 :: c15 :: c16 :: c17 :: c18 :: .d x :: cs) Q ↔ Q (.d x) (c0 :: c1 :: c2 :: c3 :: c4 :: c5 :: c6 :: c7 :: c8 :: c9 :: c10 :: c11 :: c12 :: c13 :: c14 :: c15 :: c16 :: c17 :: c18 :: .d x :: cs) := R_fzV2 _ _
@[simp ↓] theorem Z19_l (c0 c1 c2 c3 c4 c5 c6 c7 c8 c9 c10 c11 c12 c13 c14 c15 c16 c17 c18 : Cell) (x : List D) (cs : Cs) (Q : Res → Cs → Prop) : R (fzV2 19) (c0 :: c1 :: c2 :: c3 :: c4 :: c5 :: c6 :: c7 :: c8 :: c9 :: c10 :: c11 :: c12 :: c13 :: c14 :: c15 :: c16 :: c17 :: c18 :: .o false (.l x) :: cs) Q ↔ Q (.d (.lst x)) (c0 :: c1 :: c2 :: c3 :: c4 :: c5 :: c6 :: c7 :: c8 :: c9 :: c10 :: c11 :: c12 :: c13 :: c14 :: c15 :: c16 :: c17 :: c18 :: .d (.lst x) :: cs) := R_fzV2 _ _
@[simp ↓] theorem Z19_k (c0 c1 c2 c3 c4 c5 c6 c7 c8 c9 c10 c11 c12 c13 c14 c15 c16 c17 c18 : Cell) (x : List (Key × D)) (cs : Cs) (Q : Res → Cs → Prop) : R (fzV2 19) (c0 :: c1 :: c2 :: c3 :: c4 :: c5 :: c6 :: c7 :: c8 :: c9 :: c10 :: c11 :: c12 :: c13 :: c14 :: c15 :: c16 :: c17 :: c18 :: .o false (.k x) :: cs) Q ↔ Q (.d (.dk x)) (c0 :: c1 :: c2 :: c3 :: c4 :: c5 :: c6 :: c7 :: c8 :: c9 :: c10 :: c11 :: c12 :: c13 :: c14 :: c15 :: c16 :: c17 :: c18 :: .d (.dk x) :: cs) := R_fzV2 _ _
@[simp ↓] theorem V19_l (c0 c1 c2 c3 c4 c5 c6 c7 c8 c9 c10 c11 c12 c13 c14 c15 c16 c17 c18 : Cell) (io : Bool) (x : List D) (cs : Cs) (k : D → Prop) : opK (view (c0 :: c1 :: c2 :: c3 :: c4 :: c5 :: c6 :: c7 :: c8 :: c9 :: c10 :: c11 :: c12 :: c13 :: c14 :: c15 :: c16 :: c17 :: c18 :: .o io (.l x) :: cs) (frz (.s 19))) k ↔ k (.lst x) := opK_some _ _
@[simp ↓] theorem V19_k (c0 c1 c2 c3 c4 c5 c6 c7 c8 c9 c10 c11 c12 c13 c14 c15 c16 c17 c18 : Cell) (io : Bool) (x : List (Key × D)) (cs : Cs) (k : D → Prop) : opK (view (c0 :: c1 :: c2 :: c3 :: c4 :: c5 :: c6 :: c7 :: c8 :: c9 :: c10 :: c11 :: c12 :: c13 :: c14 :: c15 :: c16 :: c17 :: c18 :: .o io (.k x) :: cs) (frz (.s 19))) k ↔ k (.dk x) := opK_some _ _
@[simp ↓] theorem K19 (c0 c1 c2 c3 c4 c5 c6 c7 c8 c9 c10 c11 c12 c13 c14 c15 c16 c17 c18 : Cell) (c d : Cell) (cs : Cs) (k : Cs → Prop) : Kset 19 c (c0 :: c1 :: c2 :: c3 :: c4 :: c5 :: c6 :: c7 :: c8 :: c9 :: c10 :: c11 :: c12 :: c13 :: c14 :: c15 :: c16 :: c17 :: c18 :: d :: cs) k ↔ k (c0 :: c1 :: c2 :: c3 :: c4 :: c5 :: c6 :: c7 :: c8 :: c9 :: c10 :: c11 :: c12 :: c13 :: c14 :: c15 :: c16 :: c17 :: c18 :: c :: cs) := Iff.rfl
@[simp ↓] theorem O19 (c0 c1 c2 c3 c4 c5 c6 c7 c8 c9 c10 c11 c12 c13 c14 c15 c16 c17 c18 : Cell) (io : Bool) (x : O) (cs : Cs) (k : Bool → O → Prop) : onO k (c0 :: c1 :: c2 :: c3 :: c4 :: c5 :: c6 :: c7 :: c8 :: c9 :: c10 :: c11 :: c12 :: c13 :: c14 :: c15 :: c16 :: c17 :: c18 :: .o io x :: cs)[19]? ↔ k io x := Iff.rfl
@[simp ↓] theorem G20_d (c0 c1 c2 c3 c4 c5 c6 c7 c8 c9 c10 c11 c12 c13 c14 c15 c16 c17 c18 c19 : Cell) (x : D) (cs : Cs) (Q : Res → Cs → Prop) : R (getV 20) (c0 :: c1 :: c2 :: c3 :: c4 :: c5 :: c6 :: c7 :: c8 :: c9 :: c10 :: c11 :: c12 :: c13 :: c14 :: c15 :: c16 :: c17 :: c18 :: c19 :: .d x :: cs) Q ↔ Q (.d x) (c0 :: c1 :: c2 :: c3 :: c4 :: c5 :: c6 :: c7 :: c8 :: c9 :: c10 :: c11 :: c12 :: c13 :: c14 :: c15 :: c16 :: c17 :: c18 :: c19 :: .d x :: cs) := R_getV _ _
@[simp ↓] theorem G20_o (c0 c1 c2 c3 c4 c5 c6 c7 c8 c9 c10 c11 c12 c13 c14 c15 c16 c17 c18 c19 : Cell) (io : Bool) (x : O) (cs : Cs) (Q : Res → Cs → Prop) : R (getV 20) (c0 :: c1 :: c2 :: c3 :: c4 :: c5 :: c6 :: c7 :: c8 :: c9 :: c10 :: c11 :: c12 :: c13 :: c14 :: c15 :: c16 :: c17 :: c18 :: c19 :: .o io x :: cs) Q ↔ Q (.s 20) (c0 :: c1 :: c2 :: c3 :: c4 :: c5 :: c6 :: c7 :: c8 :: c9 :: c10 :: c11 :: c12 :: c13 :: c14 :: c15 :: c16 :: c17 :: c18 :: c19 :: .o io x :: cs) := R_getV _ _
@[simp ↓] theorem Z20_d (c0 c1 c2 c3 c4 c5 c6 c7 c8 c9 c10 c11 c12 c13 c14 c15 c16 c17 c18 c19 : Cell) (x : D) (cs : Cs) (Q : Res → Cs → Prop) : R (fzV2 20) (c0 :: c1 :: c2 :: c3 :: c4 :: c5 :: c6 :: c7 :: c8 :: c9 :: c10 :: c11 :: c12 :: c13 :: c14 :: c15 :: c16 :: c17 :: c18 :: c19 :: .d x :: cs) Q ↔ Q (.d x) (c0 :: c1 :: c2 :: c3 :: c4 :: c5 :: c6 :: c7 :: c8 :: c9 :: c10 :: c11 :: c12 :: c13 :: c14 :: c15 :: c16 :: c17 :: c18 :: c19 :: .d x :: cs) := R_fzV2 _ _
@[simp ↓] theorem Z20_l (c0 c1 c2 c3 c4 c5 c6 c7 c8 c9 c10 c11 c12 c13 c14 c15 c16 c17 c18 c19 : Cell) (x : List D) (cs : Cs) (Q : Res → Cs → Prop) : R (fzV2 20) (c0 :: c1 :: c2 :: c3 :: c4 :: c5 :: c6 :: c7 :: c8 :: c9 :: c10 :: c11 :: c12 :: c13 :: c14 :: c15 :: c16 :: c17 :: c18 :: c19 :: .o false (.l x) :: cs) Q ↔ Q (.d (.lst x)) (c0 :: c1 :: c2 :: c3 :: c4 :: c5 :: c6 :: c7 :: c8 :: c9 :: c10 :: c11 :: c12 :: c13 :: c14 :: c15 :: c16 :: c17 :: c18 :: c19 :: .d (.lst x) :: cs) := R_fzV2 _ _
@[simp ↓] theorem Z20_k (c0 c1 c2 c3 c4 c5 c6 c7 c8 c9 c10 c11 c12 c13 c14 c15 c16 c17 c18 c19 : Cell) (x : List (Key × D)) (cs : Cs) (Q : Res → Cs → Prop) : R (fzV2 20) (c0 :: c1 :: c2 :: c3 :: c4 :: c5 :: c6 :: c7 :: c8 :: c9 :: c10 :: c11 :: c12 :: c13 :: c14 :: c15 :: c16 :: c17 :: c18 :: c19 :: .o false (.k x) :: cs) Q ↔ Q (.d (.dk x)) (c0 :: c1 :: c2 :: c3 :: c4 :: c5 :: c6 :: c7 :: c8 :: c9 :: c10 :: c11 :: c12 :: c13 :: c14 :: c15 :: c16 :: c17 :: c18 :: c19 :: .d (.dk x) :: cs) := R_fzV2 _ _
@[simp ↓] theorem V20_l (c0 c1 c2 c3 c4 c5 c6 c7 c8 c9 c10 c11 c12 c13 c14 c15 c16 c17 c18 c19 : Cell) (io : Bool) (x : List D) (cs : Cs) (k : D → Prop) : opK (view (c0 :: c1 :: c2 :: c3 :: c4 :: c5 :: c6 :: c7 :: c8 :: c9 :: c10 :: c11 :: c12 :: c13 :: c14 :: c15 :: c16 :: c17 :: c18 :: c19 :: .o io (.l x) :: cs) (frz (.s 20))) k ↔ k (.lst x) := opK_some _ _
@[simp ↓] theorem V20_k (c0 c1 c2 c3 c4 c5 c6 c7 c8 c9 c10 c11 c12 c13 c14 c15 c16 c17 c18 c19 : Cell) (io : Bool) (x : List (Key × D)) (cs : Cs) (k : D → Prop) : opK (view (c0 :: c1 :: c2 :: c3 :: c4 :: c5 :: c6 :: c7 :: c8 :: c9 :: c10 :: c11 :: c12 :: c13 :: c14 :: c15 :: c16 :: c17 :: c18 :: c19 :: .o io (.k x) :: cs) (frz (.s 20))) k ↔ k (.dk x) := opK_some _ _
@[simp ↓] theorem K20 (c0 c1 c2 c3 c4 c5 c6 c7 c8 c9 c10 c11 c12 c13 c14 c15 c16 c17 c18 c19 : Cell) (c d : Cell) (cs : Cs) (k : Cs → Prop) : Kset 20 c (c0 :: c1 :: c2 :: c3 :: c4 :: c5 :: c6 :: c7 :: c8 :: c9 :: c10 :: c11 :: c12 :: c13 :: c14 :: c15 :: c16 :: c17 :: c18 :: c19 :: d :: cs) k ↔ k (c0 :: c1 :: c2 :: c3 :: c4 :: c5 :: c6 :: c7 :: c8 :: c9 :: c10 :: c11 :: c12 :: c13 :: c14 :: c15 :: c16 :: c17 :: c18 :: c19 :: c :: cs) := Iff.rfl
@[simp ↓] theorem O20 (c0 c1 c2 c3 c4 c5 c6 c7 c8 c9 c10 c11 c12 c13 c14 c15 c16 c17 c18 c19 : Cell) (io : Bool) (x : O) (cs : Cs) (k : Bool → O → Prop) : onO k (c0 :: c1 :: c2 :: c3 :: c4 :: c5 :: c6 :: c7 :: c8 :: c9 :: c10 :: c11 :: c12 :: c13 :: c14 :: c15 :: c16 :: c17 :: c18 :: c19 :: .o io x :: cs)[20]? ↔ k io x := Iff.rfl
@[simp ↓] theorem G21_d (c0 c1 c2 c3 c4 c5 c6 c7 c8 c9 c10 c11 c12 c13 c14 c15 c16 c17 c18 c19 c20 : Cell) (x : D) (cs : Cs) (Q : Res → Cs → Prop) : R (getV 21) (c0 :: c1 :: c2 :: c3 :: c4 :: c5 :: c6 :: c7 :: c8 :: c9 :: c10 :: c11 :: c12 :: c13 :: c14 :: c15 :: c16 :: c17 :: c18 :: c19 :: c20 :: .d x :: cs) Q ↔ Q (.d x) (c0 :: c1 :: c2 :: c3 :: c4 :: c5 :: c6 :: c7 :: c8 :: c9 :: c10 :: c11 :: c12 :: c13 :: c14 :: c15 :: c16 :: c17 :: c18 :: c19 :: c20 :: .d x :: cs) := R_getV _ _
@[simp ↓] theorem G21_o (c0 c1 c2 c3 c4 c5 c6 c7 c8 c9 c10 c11 c12 c13 c14 c15 c16 c17 c18 c19 c20 : Cell) (io : Bool) (x : O) (cs : Cs) (Q : Res → Cs → Prop) : R (getV 21) (c0 :: c1 :: c2 :: c3 :: c4 :: c5 :: c6 :: c7 :: c8 :: c9 :: c10 :: c11 :: c12 :: c13 :: c14 :: c15 :: c16 :: c17 :: c18 :: c19 :: c20 :: .o io x :: cs) Q ↔ Q (.s 21) (c0 :: c1 :: c2 :: c3 :: c4 :: c5 :: c6 :: c7 :: c8 :: c9 :: c10 :: c11 :: c12 :: c13 :: c14 :: c15 :: c16 :: c17 :: c18 :: c19 :: c20 :: .o io x :: cs) := R_getV _ _
@[simp ↓] theorem Z21_d (c0 c1 c2 c3 c4 c5 c6 c7 c8 c9 c10 c11 c12 c13 c14 c15 c16 c17 c18 c19 c20 : Cell) (x : D) (cs : Cs) (Q : Res → Cs → Prop) : R (fzV2 21) (c0 :: c1 :: c2 :: c3 :: c4 :: c5 :: c6 :: c7 :: c8 :: c9 :: c10 :: c11 :: c12 :: c13 :: c14 :: c15 :: c16 :: c17 :: c18 :: c19 :: c20 :: .d x :: cs) Q ↔ Q (.d x) (c0 :: c1 :: c2 :: c3 :: c4 :: c5 :: c6 :: c7 :: c8 :: c9 :: c10 :: c11 :: c12 :: c13 :: c14 :: c15 :: c16 :: c17 :: c18 :: c19 :: c20 :: .d x :: cs) := R_fzV2 _ _
@[simp ↓] theorem Z21_l (c0 c1 c2 c3 c4 c5 c6 c7 c8 c9 c10 c11 c12 c13 c14 c15 c16 c17 c18 c19 c20 : Cell) (x : List D) (cs : Cs) (Q : Res → Cs → Prop) : R (fzV2 21) (c0 :: c1 :: c2 :: c3 :: c4 :: c5 :: c6 :: c7 :: c8 :: c9 :: c10 :: c11 :: c12 :: c13 :: c14 :: c15 :: c16 :: c17 :: c18 :: c19 :: c20 :: .o false (.l x) :: cs) Q ↔ Q (.d (.lst x)) (c0 :: c1 :: c2 :: c3 :: c4 :: c5 :: c6 :: c7 :: c8 :: c9 :: c10 :: c11 :: c12 :: c13 :: c14 :: c15 :: c16 :: c17 :: c18 :: c19 :: c20 :: .d (.lst x) :: cs) := R_fzV2 _ _
@[simp ↓] theorem Z21_k (c0 c1 c2 c3 c4 c5 c6 c7 c8 c9 c10 c11 c12 c13 c14 c15 c16 c17 c18 c19 c20 : Cell) (x : List (Key × D)) (cs : Cs) (Q : Res → Cs → Prop) : R (fzV2 21) (c0 :: c1 :: c2 :: c3 :: c4 :: c5 :: c6 :: c7 :: c8 :: c9 :: c10 :: c11 :: c12 :: c13 :: c14 :: c15 :: c16 :: c17 :: c18 :: c19 :: c20 :: .o false (.k x) :: cs) Q ↔ Q (.d (.dk x)) (c0 :: c1 :: c2 :: c3 :: c4 :: c5 :: c6 :: c7 :: c8 :: c9 :: c10 :: c11 :: c12 :: c13 :: c14 :: c15 :: c16 :: c17 :: c18 :: c19 :: c20 :: .d (.dk x) :: cs) := R_fzV2 _ _
@[simp ↓] theorem V21_l (c0 c1 c2 c3 c4 c5 c6 c7 c8 c9 c10 c11 c12 c13 c14 c15 c16 c17 c18 c19 c20 : Cell) (io : Bool) (x : List D) (cs : Cs) (k : D → Prop) : opK (view (c0 :: c1 :: c2 :: c3 :: c4 :: c5 :: c6 :: c7 :: c8 :: c9 :: c10 :: c11 :: c12 :: c13 :: c14 :: c15 :: c16 :: c17 :: c18 :: c19 :: c20 :: .o io (.l x) :: cs) (frz (.s 21))) k ↔ k (.lst x) := opK_some _ _
@[simp ↓] theorem V21_k (c0 c1 c2 c3 c4 c5 c6 c7 c8 c9 c10 c11 c12 c13 c14 c15 c16 c17 c18 c19 c20 : Cell) (io : Bool) (x : List (Key × D)) (cs : Cs) (k : D → Prop) : opK (view (c0 :: c1 :: c2 :: c3 :: c4 :: c5 :: c6 :: c7 :: c8 :: c9 :: c10 :: c11 :: c12 :: c13 :: c14 :: c15 :: c16 :: c17 :: c18 :: c19 :: c20 :: .o io (.k x) :: cs) (frz (.s 21))) k ↔ k (.dk x) := opK_some _ _
@[simp ↓] theorem K21 (c0 c1 c2 c3 c4 c5 c6 c7 c8 c9 c10 c11 c12 c13 c14 c15 c16 c17 c18 c19 c20 : Cell) (c d : Cell) (cs : Cs) (k : Cs → Prop) : Kset 21 c (c0 :: c1 :: c2 :: c3 :: c4 :: c5 :: c6 :: c7 :: c8 :: c9 :: c10 :: c11 :: c12 :: c13 :: c14 :: c15 :: c16 :: c17 :: c18 :: c19 :: c20 :: d :: cs) k ↔ k (c0 :: c1 :: c2 :: c3 :: c4 :: c5 :: c6 :: c7 :: c8 :: c9 :: c10 :: c11 :: c12 :: c13 :: c14 :: c15 :: c16 :: c17 :: c18 :: c19 :: c20 :: c :: cs) := Iff.rfl
@[simp ↓] theorem O21 (c0 c1 c2 c3 c4 c5 c6 c7 c8 c9 c10 c11 c12 c13 c14 c15 c16 c17 c18 c19 c20 : Cell) (io : Bool) (x : O) (cs : Cs) (k : Bool → O → Prop) : onO k (c0 :: c1 :: c2 :: c3 :: c4 :: c5 :: c6 :: c7 :: c8 :: c9 :: c10 :: c11 :: c12 :: c13 :: c14 :: c15 :: c16 :: c17 :: c18 :: c19 :: c20 :: .o io x :: cs)[21]? ↔ k io x := Iff.rfl
@[simp ↓] theorem G22_d (c0 c1 c2 c3 c4 c5 c6 c7 c8 c9 c10 c11 c12 c13 c14 c15 c16 c17 c18 c19 c20 c21 : Cell) (x : D) (cs : Cs) (Q : Res → Cs → Prop) : R (getV 22) (c0 :: c1 :: c2 :: c3 :: c4 :: c5 :: c6 :: c7 :: c8 :: c9 :: c10 :: c11 :: c12 :: c13 :: c14 :: c15 :: c16 :: c17 :: c18 :: c19 :: c20 :: c21 :: .d x :: cs) Q ↔ Q (.d x) (c0 :: c1 :: c2 :: c3 :: c4 :: c5 :: c6 :: c7 :: c8 :: c9 :: c10 :: c11 :: c12 :: c13 :: c14 :: c15 :: c16 :: c17 :: c18 :: c19 :: c20 :: c21 :: .d x :: cs) := R_getV _ _
@[simp ↓] theorem G22_o (c0 c1 c2 c3 c4 c5 c6 c7 c8 c9 c10 c11 c12 c13 c14 c15 c16 c17 c18 c19 c20 c21 : Cell) (io : Bool) (x : O) (cs : Cs) (Q : Res → Cs → Prop) : R (getV 22) (c0 :: c1 :: c2 :: c3 :: c4 :: c5 :: c6 :: c7 :: c8 :: c9 :: c10 :: c11 :: c12 :: c13 :: c14 :: c15 :: c16 :: c17 :: c18 :: c19 :: c20 :: c21 :: .o io x :: cs) Q ↔ Q (.s 22) (c0 :: c1 :: c2 :: c3 :: c4 :: c5 :: c6 :: c7 :: c8 :: c9 :: c10 :: c11 :: c12 :: c13 :: c14 :: c15 :: c16 :: c17 :: c18 :: c19 :: c20 :: c21 :: .o io x :: cs) := R_getV _ _
@[simp ↓] theorem Z22_d (c0 c1 c2 c3 c4 c5 c6 c7 c8 c9 c10 c11 c12 c13 c14 c15 c16 c17 c18 c19 c20 c21 : Cell) (x : D) (cs : Cs) (Q : Res → Cs → Prop) : R (fzV2 22) (c0 :: c1 :: c2 :: c3 :: c4 :: c5 :: c6 :: c7 :: c8 :: c9 :: c10 :: c11 :: c12 :: c13 :: c14 :: c15 :: c16 :: c17 :: c18 :: c19 :: c20 :: c21 :: .d x :: cs) Q ↔ Q (.d x) (c0 :: c1 :: c2 :: c3 :: c4 :: c5 :: c6 :: c7 :: c8 :: c9 :: c10 :: c11 :: c12 :: c13 :: c14 :: c15 :: c16 :: c17 :: c18 :: c19 :: c20 :: c21 :: .d x :: cs) := R_fzV2 _ _
@[simp ↓] theorem Z22_l (c0 c1 c2 c3 c4 c5 c6 c7 c8 c9 c10 c11 c12 c13 c14 c15 c16 c17 c18 c19 c20 c21 : Cell) (x : List D) (cs : Cs) (Q : Res → Cs → Prop) : R (fzV2 22) (c0 :: c1 :: c2 :: c3 :: c4 :: c5 :: c6 :: c7 :: c8 :: c9 :: c10 :: c11 :: c12 :: c13 :: c14 :: c15 :: c16 :: c17 :: c18 :: c19 :: c20 :: c21 :: .o false (.l x) :: cs) Q ↔ Q (.d (.lst x)) (c0 :: c1 :: c2 :: c3 :: c4 :: c5 :: c6 :: c7 :: c8 :: c9 :: c10 :: c11 :: c12 :: c13 :: c14 :: c15 :: c16 :: c17 :: c18 :: c19 :: c20 :: c21 :: .d (.lst x) :: cs) := R_fzV2 _ _
@[simp ↓] theorem Z22_k (c0 c1 c2 c3 c4 c5 c6 c7 c8 c9 c10 c11 c12 c13 c14 c15 c16 c17 c18 c19 c20 c21 : Cell) (x : List (Key × D)) (cs : Cs) (Q : Res → Cs → Prop) : R (fzV2 22) (c0 :: c1 :: c2 :: c3 :: c4 :: c5 :: c6 :: c7 :: c8 :: c9 :: c10 :: c11 :: c12 :: c13 :: c14 :: c15 :: c16 :: c17 :: c18 :: c19 :: c20 :: c21 :: .o false (.k x) :: cs) Q ↔ Q (.d (.dk x)) (c0 :: c1 :: c2 :: c3 :: c4 :: c5 :: c6 :: c7 :: c8 :: c9 :: c10 :: c11 :: c12 :: c13 :: c14 :: c15 :: c16 :: c17 :: c18 :: c19 :: c20 :: c21 :: .d (.dk x) :: cs) := R_fzV2 _ _
@[simp ↓] theorem V22_l (c0 c1 c2 c3 c4 c5 c6 c7 c8 c9 c10 c11 c12 c13 c14 c15 c16 c17 c18 c19 c20 c21 : Cell) (io : Bool) (x : List D) (cs : Cs) (k : D → Prop) : opK (view (c0 :: c1 :: c2 :: c3 :: c4 :: c5 :: c6 :: c7 :: c8 :: c9 :: c10 :: c11 :: c12 :: c13 :: c14 :: c15 :: c16 :: c17 :: c18 :: c19 :: c20 :: c21 :: .o io (.l x) :: cs) (frz (.s 22))) k ↔ k (.lst x) := opK_some _ _
@[simp ↓] theorem V22_k (c0 c1 c2 c3 c4 c5 c6 c7 c8 c9 c10 c11 c12 c13 c14 c15 c16 c17 c18 c19 c20 c21 : Cell) (io : Bool) (x : List (Key × D)) (cs : Cs) (k : D → Prop) : opK (view (c0 :: c1 :: c2 :: c3 :: c4 :: c5 :: c6 :: c7 :: c8 :: c9 :: c10 :: c11 :: c12 :: c13 :: c14 :: c15 :: c16 :: c17 :: c18 :: c19 :: c20 :: c21 :: .o io (.k x) :: cs) (frz (.s 22))) k ↔ k (.dk x) := opK_some _ _
@[simp ↓] theorem K22 (c0 c1 c2 c3 c4 c5 c6 c7 c8 c9 c10 c11 c12 c13 c14 c15 c16 c17 c18 c19 c20 c21 : Cell) (c d : Cell) (cs : Cs) (k : Cs → Prop) : Kset 22 c (c0 :: c1 :: c2 :: c3 :: c4 :: c5 :: c6 :: c7 :: c8 :: c9 :: c10 :: c11 :: c12 :: c13 :: c14 :: c15 :: c16 :: c17 :: c18 :: c19 :: c20 :: c21 :: d :: cs) k ↔ k (c0 :: c1 :: c2 :: c3 :: c4 :: c5 :: c6 :: c7 :: c8 :: c9 :: c10 :: c11 :: c12 :: c13 :: c14 :: c15 :: c16 :: c17 :: c18 :: c19 :: c20 :: c21 :: c :: cs) := Iff.rfl
@[simp ↓] theorem O22 (c0 c1 c2 c3 c4 c5 c6 c7 c8 c9 c10 c11 c12 c13 c14 c15 c16 c17 c18 c19 c20 c21 : Cell) (io : Bool) (x : O) (cs : Cs) (k : Bool → O → Prop) : onO k (c0 :: c1 :: c2 :: c3 :: c4 :: c5 :: c6 :: c7 :: c8 :: c9 :: c10 :: c11 :: c12 :: c13 :: c14 :: c15 :: c16 :: c17 :: c18 :: c19 :: c20 :: c21 :: .o io x :: cs)[22]? ↔ k io x := Iff.rfl
@[simp ↓] theorem G23_d (c0 c1 c2 c3 c4 c5 c6 c7 c8 c9 c10 c11 c12 c13 c14 c15 c16 c17 c18 c19 c20 c21 c22 : Cell) (x : D) (cs : Cs) (Q : Res → Cs → Prop) : R (getV 23) (c0 :: c1 :: c2 :: c3 :: c4 :: c5 :: c6 :: c7 :: c8 :: c9 :: c10 :: c11 :: c12 :: c13 :: c14 :: c15 :: c16 :: c17 :: c18 :: c19 :: c20 :: c21 :: c22 :: .d x :: cs) Q ↔ Q (.d x) (c0 :: c1 :: c2 :: c3 :: c4 :: c5 :: c6 :: c7 :: c8 :: c9 :: c10 :: c11 :: c12 :: c13 :: c14 :: c15 :: c16 :: c17 :: c18 :: c19 :: c20 :: c21 :: c22 :: .d x :: cs) := R_getV _ _
@[simp ↓] theorem G23_o (c0 c1 c2 c3 c4 c5 c6 c7 c8 c9 c10 c11 c12 c13 c14 c15 c16 c17 c18 c19 c20 c21 c22 : Cell) (io : Bool) (x : O) (cs : Cs) (Q : Res → Cs → Prop) : R (getV 23) (c0 :: c1 :: c2 :: c3 :: c4 :: c5 :: c6 :: c7 :: c8 :: c9 :: c10 :: c11 :: c12 :: c13 :: c14 :: c15 :: c16 :: c17 :: c18 :: c19 :: c20 :: c21 :: c22 :: .o io x :: cs) Q ↔ Q (.s 23) (c0 :: c1 :: c2 :: c3 :: c4 :: c5 :: c6 :: c7 :: c8 :: c9 :: c10 :: c11 :: c12 :: c13 :: c14 :: c15 :: c16 :: c17 :: c18 :: c19 :: c20 :: c21 :: c22 :: .o io x :: cs) := R_getV _ _
@[simp ↓] theorem Z23_d (c0 c1 c2 c3 c4 c5 c6 c7 c8 c9 c10 c11 c12 c13 c14 c15 c16 c17 c18 c19 c20 c21 c22 : Cell) (x : D) (cs : Cs) (Q : Res → Cs → Prop) : R (fzV2 23) (c0 :: c1 :: c2 :: c3 :: c4 :: c5 :: c6 :: c7 :: c8 :: c9 :: c10 :: c11 :: c12 :: c13 :: c14 :: c15 :: c16 :: c17 :: c18 :: c19 :: c20 :: c21 :: c22 :: .d x :: cs) Q ↔ Q (.d x) (c0 :: c1 :: c2 :: c3 :: c4 :: c5 :: c6 :: c7 :: c8 :: c9 :: c10 :: c11 :: c12 :: c13 :: c14 :: c15 :: c16 :: c17 :: c18 :: c19 :: c20 :: c21 :: c22 :: .d x :: cs) := R_fzV2 _ _
@[simp ↓] theorem Z23_l (c0 c1 c2 c3 c4 c5 c6 c7 c8 c9 c10 c11 c12 c13 c14 c15 c16 c17 c18 c19 c20 c21 c22 : Cell) (x : List D) (cs : Cs) (Q : Res → Cs → Prop) : R (fzV2 23) (c0 :: c1 :: c2 :: c3 :: c4 :: c5 :: c6 :: c7 :: c8 :: c9 :: c10 :: c11 :: c12 :: c13 :: c14 :: c15 :: c16 :: c17 :: c18 :: c19 :: c20 :: c21 :: c22 :: .o false (.l x) :: cs) Q ↔ Q (.d (.lst x)) (c0 :: c1 :: c2 :: c3 :: c4 :: c5 :: c6 :: c7 :: c8 :: c9 :: c10 :: c11 :: c12 :: c13 :: c14 :: c15 :: c16 :: c17 :: c18 :: c19 :: c20 :: c21 :: c22 :: .d (.lst x) :: cs) := R_fzV2 _ _
@[simp ↓] theorem Z23_k (c0 c1 c2 c3 c4 c5 c6 c7 c8 c9 c10 c11 c12 c13 c14 c15 c16 c17 c18 c19 c20 c21 c22 : Cell) (x : List (Key × D)) (cs : Cs) (Q : Res → Cs → Prop) : R (fzV2 23) (c0 :: c1 :: c2 :: c3 :: c4 :: c5 :: c6 :: c7 :: c8 :: c9 :: c10 :: c11 :: c12 :: c13 :: c14 :: c15 :: c16 :: c17 :: c18 :: c19 :: c20 :: c21 :: c22 :: .o false (.k x) :: cs) Q ↔ Q (.d (.dk x)) (c0 :: c1 :: c2 :: c3 :: c4 :: c5 :: c6 :: c7 :: c8 :: c9 :: c10 :: c11 :: c12 :: c13 :: c14 :: c15 :: c16 :: c17 :: c18 :: c19 :: c20 :: c21 :: c22 :: .d (.dk x) :: cs) := R_fzV2 _ _
@[simp ↓] theorem V23_l (c0 c1 c2 c3 c4 c5 c6 c7 c8 c9 c10 c11 c12 c13 c14 c15 c16 c17 c18 c19 c20 c21 c22 : Cell) (io : Bool) (x : List D) (cs : Cs) (k : D → Prop) : opK (view (c0 :: c1 :: c2 :: c3 :: c4 :: c5 :: c6 :: c7 :: c8 :: c9 :: c10 :: c11 :: c12 :: c13 :: c14 :: c15 :: c16 :: c17 :: c18 :: c19 :: c20 :: c21 :: c22 :: .o io (.l x) :: cs) (frz (.s 23))) k ↔ k (.lst x) := opK_some _ _
@[simp ↓] theorem V23_k (c0 c1 c2 c3 c4 c5 c6 c7 c8 c9 c10 c11 c12 c13 c14 c15 c16 c17 c18 c19 c20 c21 c22 : Cell) (io : Bool) (x : List (Key × D)) (cs : Cs) (k : D → Prop) : opK (view (c0 :: c1 :: c2 :: c3 :: c4 :: c5 :: c6 :: c7 :: c8 :: c9 :: c10 :: c11 :: c12 :: c13 :: c14 :: c15 :: c16 :: c17 :: c18 :: c19 :: c20 :: c21 :: c22 :: .o io (.k x) :: cs) (frz (.s 23))) k ↔ k (.dk x) := opK_some _ _
@[simp ↓] theorem K23 (c0 c1 c2 c3 c4 c5 c6 c7 c8 c9 c10 c11 c12 c13 c14 c15 c16 c17 c18 c19 c20 c21 c22 : Cell) (c d : Cell) (cs : Cs) (k : Cs → Prop) : Kset 23 c (c0 :: c1 :: c2 :: c3 :: c4 :: c5 :: c6 :: c7 :: c8 :: c9 :: c10 :: c11 :: c12 :: c13 :: c14 :: c15 :: c16 :: c17 :: c18 :: c19 :: c20 :: c21 :: c22 :: d :: cs) k ↔ k (c0 :: c1 :: c2 :: c3 :: c4 :: c5 :: c6 :: c7 :: c8 :: c9 :: c10 :: c11 :: c12 :: c13 :: c14 :: c15 :: c16 :: c17 :: c18 :: c19 :: c20 :: c21 :: c22 :: c :: cs) := Iff.rfl
@[simp ↓] theorem O23 (c0 c1 c2 c3 c4 c5 c6 c7 c8 c9 c10 c11 c12 c13 c14 c15 c16 c17 c18 c19 c20 c21 c22 : Cell) (io : Bool) (x : O) (cs : Cs) (k : Bool → O → Prop) : onO k (c0 :: c1 :: c2 :: c3 :: c4 :: c5 :: c6 :: c7 :: c8 :: c9 :: c10 :: c11 :: c12 :: c13 :: c14 :: c15 :: c16 :: c17 :: c18 :: c19 :: c20 :: c21 :: c22 :: .o io x :: cs)[23]? ↔ k io x := Iff.rfl
@[simp ↓] theorem G24_d (c0 c1 c2 c3 c4 c5 c6 c7 c8 c9 c10 c11 c12 c13 c14 c15 c16 c17 c18 c19 c20 c21 c22 c23 : Cell) (x : D) (cs : Cs) (Q : Res → Cs → Prop) : R (getV 24) (c0 :: c1 :: c2 :: c3 :: c4 :: c5 :: c6 :: c7 :: c8 :: c9 :: c10 :: c11 :: c12 :: c13 :: c14 :: c15 :: c16 :: c17 :: c18 :: c19 :: c20 :: c21 :: c22 :: c23 :: .d x :: cs) Q ↔ Q (.d x) (c0 :: c1 :: c2 :: c3 :: c4 :: c5 :: c6 :: c7 :: c8 :: c9 :: c10 :: c11 :: c12 :: c13 :: c14 :: c15 :: c16 :: c17 :: c18 :: c19 :: c20 :: c21 :: c22 :: c23 :: .d x :: cs) := R_getV _ _
@[simp ↓] theorem G24_o (c0 c1 c2 c3 c4 c5 c6 c7 c8 c9 c10 c11 c12 c13 c14 c15 c16 c17 c18 c19 c20 c21 c22 c23 : Cell) (io : Bool) (x : O) (cs : Cs) (Q : Res → Cs → Prop) : R (getV 24) (c0 :: c1 :: c2 :: c3 :: c4 :: c5 :: c6 :: c7 :: c8 :: c9 :: c10 :: c11 :: c12 :: c13 :: c14 :: c15 :: c16 :: c17 :: c18 :: c19 :: c20 :: c21 :: c22 :: c23 :: .o io x :: cs) Q ↔ Q (.s 24) (c0 :: c1 :: c2 :: c3 :: c4 :: c5 :: c6 :: c7 :: c8 :: c9 :: c10 :: c11 :: c12 :: c13 :: c14 :: c15 :: c16 :: c17 :: c18 :: c19 :: c20 :: c21 :: c22 :: c23 :: .o io x :: cs) := R_getV _ _
@[simp ↓] theorem Z24_d (c0 c1 c2 c3 c4 c5 c6 c7 c8 c9 c10 c11 c12 c13 c14 c15 c16 c17 c18 c19 c20 c21 c22 c23 : Cell) (x : D) (cs : Cs) (Q : Res → Cs → Prop) : R (fzV2 24) (c0 :: c1 :: c2 :: c3 :: c4 :: c5 :: c6 :: c7 :: c8 :: c9 :: c10 :: c11 :: c12 :: c13 :: c14 :: c15 :: c16 :: c17 :: c18 :: c19 :: c20 :: c21 :: c22 :: c23 :: .d x :: cs) Q ↔ Q (.d x) (c0 :: c1 :: c2 :: c3 :: c4 :: c5 :: c6 :: c7 :: c8 :: c9 :: c10 :: c11 :: c12 :: c13 :: c14 :: c15 :: c16 :: c17 :: c18 :: c19 :: c20 :: c21 :: c22 :: c23 :: .d x :: cs) := R_fzV2 _ _
@[simp ↓] theorem Z24_l (c0 c1 c2 c3 c4 c5 c6 c7 c8 c9 c10 c11 c12 c13 c14 c15 c16 c17 c18 c19 c20 c21 c22 c23 : Cell) (x : List D) (cs : Cs) (Q : Res → Cs → Prop) : R (fzV2 24) (c0 :: c1 :: c2 :: c3 :: c4 :: c5 :: c6 :: c7 :: c8 :: c9 :: c10 :: c11 :: c12 :: c13 :: c14 :: c15 :: c16 :: c17 :: c18 :: c19 :: c20 :: c21 :: c22 :: c23 :: .o false (.l x) :: cs) Q ↔ Q (.d (.lst x)) (c0 :: c1 :: c2 :: c3 :: c4 :: c5 :: c6 :: c7 :: c8 :: c9 :: c10 :: c11 :: c12 :: c13 :: c14 :: c15 :: c16 :: c17 :: c18 :: c19 :: c20 :: c21 :: c22 :: c23 :: .d (.lst x) :: cs) := R_fzV2 _ _
@[simp ↓] theorem Z24_k (c0 c1 c2 c3 c4 c5 c6 c7 c8 c9 c10 c11 c12 c13 c14 c15 c16 c17 c18 c19 c20 c21 c22 c23 : Cell) (x : List (Key × D)) (cs : Cs) (Q : Res → Cs → Prop) : R (fzV2 24) (c0 :: c1 :: c2 :: c3 :: c4 :: c5 :: c6 :: c7 :: c8 :: c9 :: c10 :: c11 :: c12 :: c13 :: c14 :: c15 :: c16 :: c17 :: c18 :: c19 :: c20 :: c21 :: c22 :: c23 :: .o false (.k x) :: cs) Q ↔ Q (.d (.dk x)) (c0 :: c1 :: c2 :: c3 :: c4 :: c5 :: c6 :: c7 :: c8 :: c9 :: c10 :: c11 :: c12 :: c13 :: c14 :: c15 :: c16 :: c17 :: c18 :: c19 :: c20 :: c21 :: c22 :: c23 :: .d (.dk x) :: cs) := R_fzV2 _ _
@[simp ↓] theorem V24_l (c0 c1 c2 c3 c4 c5 c6 c7 c8 c9 c10 c11 c12 c13 c14 c15 c16 c17 c18 c19 c20 c21 c22 c23 : Cell) (io : Bool) (x : List D) (cs : Cs) (k : D → Prop) : opK (view (c0 :: c1 :: c2 :: c3 :: c4 :: c5 :: c6 :: c7 :: c8 :: c9 :: c10 :: c11 :: c12 :: c13 :: c14 :: c15 :: c16 :: c17 :: c18 :: c19 :: c20 :: c21 :: c22 :: c23 :: .o io (.l x) :: cs) (frz (.s 24))) k ↔ k (.lst x) := opK_some _ _
@[simp ↓] theorem V24_k (c0 c1 c2 c3 c4 c5 c6 c7 c8 c9 c10 c11 c12 c13 c14 c15 c16 c17 c18 c19 c20 c21 c22 c23 : Cell) (io : Bool) (x : List (Key × D)) (cs : Cs) (k : D → Prop) : opK (view (c0 :: c1 :: c2 :: c3 :: c4 :: c5 :: c6 :: c7 :: c8 :: c9 :: c10 :: c11 :: c12 :: c13 :: c14 :: c15 :: c16 :: c17 :: c18 :: c19 :: c20 :: c21 :: c22 :: c23 :: .o io (.k x) :: cs) (frz (.s 24))) k ↔ k (.dk x) := opK_some _ _
@[simp ↓] theorem K24 (c0 c1 c2 c3 c4 c5 c6 c7 c8 c9 c10 c11 c12 c13 c14 c15 c16 c17 c18 c19 c20 c21 c22 c23 : Cell) (c d : Cell) (cs : Cs) (k : Cs → Prop) : Kset 24 c (c0 :: c1 :: c2 :: c3 :: c4 :: c5 :: c6 :: c7 :: c8 :: c9 :: c10 :: c11 :: c12 :: c13 :: c14 :: c15 :: c16 :: c17 :: c18 :: c19 :: c20 :: c21 :: c22 :: c23 :: d :: cs) k ↔ k (c0 :: c1 :: c2 :: c3 :: c4 :: c5 :: c6 :: c7 :: c8 :: c9 :: c10 :: c11 :: c12 :: c13 :: c14 :: c15 :: c16 :: c17 :: c18 :: c19 :: c20 :: c21 :: c22 :: c23 :: c :: cs) := Iff.rfl
@[simp ↓] theorem O24 (c0 c1 c2 c3 c4 c5 c6 c7 c8 c9 c10 c11 c12 c13 c14 c15 c16 c17 c18 c19 c20 c21 c22 c23 : Cell) (io : Bool) (x : O) (cs : Cs) (k : Bool → O → Prop) : onO k (c0 :: c1 :: c2 :: c3 :: c4 :: c5 :: c6 :: c7 :: c8 :: c9 :: c10 :: c11 :: c12 :: c13 :: c14 :: c15 :: c16 :: c17 :: c18 :: c19 :: c20 :: c21 :: c22 :: c23 :: .o io x :: cs)[24]? ↔ k io x := Iff.rfl
@[simp ↓] theorem G25_d (c0 c1 c2 c3 c4 c5 c6 c7 c8 c9 c10 c11 c12 c13 c14 c15 c16 c17 c18 c19 c20 c21 c22 c23 c24 : Cell) (x : D) (cs : Cs) (Q : Res → Cs → Prop) : R (getV 25) (c0 :: c1 :: c2 :: c3 :: c4 :: c5 :: c6 :: c7 :: c8 :: c9 :: c10 :: c11 :: c12 :: c13 :: c14 :: c15 :: c16 :: c17 :: c18 :: c19 :: c20 :: c21 :: c22 :: c23 :: c24 :: .d x :: cs) Q ↔ Q (.d x) (c0 :: c1 :: c2 :: c3 :: c4 :: c5 :: c6 :: c7 :: c8 :: c9 :: c10 :: c11 :: c12 :: c13 :: c14 :: c15 :: c16 :: c17 :: c18 :: c19 :: c20 :: c21 :: c22 :: c23 :: c24 :: .d x :: cs) := R_getV _ _
@[simp ↓] theorem G25_o (c0 c1 c2 c3 c4 c5 c6 c7 c8 c9 c10 c11 c12 c13 c14 c15 c16 c17 c18 c19 c20 c21 c22 c23 c24 : Cell) (io : Bool) (x : O) (cs : Cs) (Q : Res → Cs → Prop) : R (getV 25) (c0 :: c1 :: c2 :: c3 :: c4 :: c5 :: c6 :: c7 :: c8 :: c9 :: c10 :: c11 :: c12 :: c13 :: c14 :: c15 :: c16 :: c17 :: c18 :: c19 :: c20 :: c21 :: c22 :: c23 :: c24 :: .o io x :: cs) Q ↔ Q (.s 25) (c0 :: c1 :: c2 :: c3 :: c4 :: c5 :: c6 :: c7 :: c8 :: c9 :: c10 :: c11 :: c12 :: c13 :: c14 :: c15 :: c16 :: c17 :: c18 :: c19 :: c20 :: c21 :: c22 :: c23 :: c24 :: .o io x :: cs) := R_getV _ _
@[simp ↓] theorem Z25_d (c0 c1 c2 c3 c4 c5 c6 c7 c8 c9 c10 c11 c12 c13 c14 c15 c16 c17 c18 c19 c20 c21 c22 c23 c24 : Cell) (x : D) (cs : Cs) (Q : Res → Cs → Prop) : R (fzV2 25) (c0 :: c1 :: c2 :: c3 :: c4 :: c5 :: c6 :: c7 :: c8 :: c9 :: c10 :: c11 :: c12 :: c13 :: c14 :: c15 :: c16 :: c17 :: c18 :: c19 :: c20 :: c21 :: c22 :: c23 :: c24 :: .d x :: cs) Q ↔ Q (.d x) (c0 :: c1 :: c2 :: c3 :: c4 :: c5 :: c6 :: c7 :: c8 :: c9 :: c10 :: c11 :: c12 :: c13 :: c14 :: c15 :: c16 :: c17 :: c18 :: c19 :: c20 :: c21 :: c22 :: c23 :: c24 :: .d x :: cs) := R_fzV2 _ _
@[simp ↓] theorem Z25_l (c0 c1 c2 c3 c4 c5 c6 c7 c8 c9 c10 c11 c12 c13 c14 c15 c16 c17 c18 c19 c20 c21 c22 c23 c24 : Cell) (x : List D) (cs : Cs) (Q : Res → Cs → Prop) : R (fzV2 25) (c0 :: c1 :: c2 :: c3 :: c4 :: c5 :: c6 :: c7 :: c8 :: c9 :: c10 :: c11 :: c12 :: c13 :: c14 :: c15 :: c16 :: c17 :: c18 :: c19 :: c20 :: c21 :: c22 :: c23 :: c24 :: .o false (.l x) :: cs) Q ↔ Q (.d (.lst x)) (c0 :: c1 :: c2 :: c3 :: c4 :: c5 :: c6 :: c7 :: c8 :: c9 :: c10 :: c11 :: c12 :: c13 :: c14 :: c15 :: c16 :: c17 :: c18 :: c19 :: c20 :: c21 :: c22 :: c23 :: c24 :: .d (.lst x) :: cs) := R_fzV2 _ _
@[simp ↓] theorem Z25_k (c0 c1 c2 c3 c4 c5 c6 c7 c8 c9 c10 c11 c12 c13 c14 c15 c16 c17 c18 c19 c20 c21 c22 c23 c24 : Cell) (x : List (Key × D)) (cs : Cs) (Q : Res → Cs → Prop) : R (fzV2 25) (c0 :: c1 :: c2 :: c3 :: c4 :: c5 :: c6 :: c7 :: c8 :: c9 :: c10 :: c11 :: c12 :: c13 :: c14 :: c15 :: c16 :: c17 :: c18 :: c19 :: c20 :: c21 :: c22 :: c23 :: c24 :: .o false (.k x) :: cs) Q ↔ Q (.d (.dk x)) (c0 :: c1 :: c2 :: c3 :: c4 :: c5 :: c6 :: c7 :: c8 :: c9 :: c10 :: c11 :: c12 :: c13 :: c14 :: c15 :: c16 :: c17 :: c18 :: c19 :: c20 :: c21 :: c22 :: c23 :: c24 :: .d (.dk x) :: cs) := R_fzV2 _ _
@[simp ↓] theorem V25_l (c0 c1 c2 c3 c4 c5 c6 c7 c8 c9 c10 c11 c12 c13 c14 c15 c16 c17 c18 c19 c20 c21 c22 c23 c24 : Cell) (io : Bool) (x : List D) (cs : Cs) (k : D → Prop) : opK (view (c0 :: c1 :: c2 :: c3 :: c4 :: c5 :: c6 :: c7 :: c8 :: c9 :: c10 :: c11 :: c12 :: c13 :: c14 :: c15 :: c16 :: c17 :: c18 :: c19 :: c20 :: c21 :: c22 :: c23 :: c24 :: .o io (.l x) :: cs) (frz (.s 25))) k ↔ k (.lst x) := opK_some _ _
@[simp ↓] theorem V25_k (c0 c1 c2 c3 c4 c5 c6 c7 c8 c9 c10 c11 c12 c13 c14 c15 c16 c17 c18 c19 c20 c21 c22 c23 c24 : Cell) (io : Bool) (x : List (Key × D)) (cs : Cs) (k : D → Prop) : opK (view (c0 :: c1 :: c2 :: c3 :: c4 :: c5 :: c6 :: c7 :: c8 :: c9 :: c10 :: c11 :: c12 :: c13 :: c14 :: c15 :: c16 :: c17 :: c18 :: c19 :: c20 :: c21 :: c22 :: c23 :: c24 :: .o io (.k x) :: cs) (frz (.s 25))) k ↔ k (.dk x) := opK_some _ _
@[simp ↓] theorem K25 (c0 c1 c2 c3 c4 c5 c6 c7 c8 c9 c10 c11 c12 c13 c14 c15 c16 c17 c18 c19 c20 c21 c22 c23 c24 : Cell) (c d : Cell) (cs : Cs) (k : Cs → Prop) : Kset 25 c (c0 :: c1 :: c2 :: c3 :: c4 :: c5 :: c6 :: c7 :: c8 :: c9 :: c10 :: c11 :: c12 :: c13 :: c14 :: c15 :: c16 :: c17 :: c18 :: c19 :: c20 :: c21 :: c22 :: c23 :: c24 :: d :: cs) k ↔ k (c0 :: c1 :: c2 :: c3 :: c4 :: c5 :: c6 :: c7 :: c8 :: c9 :: c10 :: c11 :: c12 :: c13 :: c14 :: c15 :: c16 :: c17 :: c18 :: c19 :: c20 :: c21 :: c22 :: c23 :: c24 :: c :: cs) := Iff.rfl
@[simp ↓] theorem O25 (c0 c1 c2 c3 c4 c5 c6 c7 c8 c9 c10 c11 c12 c13 c14 c15 c16 c17 c18 c19 c20 c21 c22 c23 c24 : Cell) (io : Bool) (x : O) (cs : Cs) (k : Bool → O → Prop) : onO k (c0 :: c1 :: c2 :: c3 :: c4 :: c5 :: c6 :: c7 :: c8 :: c9 :: c10 :: c11 :: c12 :: c13 :: c14 :: c15 :: c16 :: c17 :: c18 :: c19 :: c20 :: c21 :: c22 :: c23 :: c24 :: .o io x :: cs)[25]? ↔ k io x := Iff.rfl
@[simp ↓] theorem vd (cs : Cs) (x : D) (k : D → Prop) : opK (view cs (frz (.d x))) k ↔ k x := opK_some _ _
@[simp ↓] theorem vl (cs : Cs) (x : List D) (k : D → Prop) : opK (view cs (frz (.o (.l x)))) k ↔ k (.lst x) := opK_some _ _
@[simp ↓] theorem vk (cs : Cs) (x : List (Key × D)) (k : D → Prop) : opK (view cs (frz (.o (.k x)))) k ↔ k (.dk x) := opK_some _ _
@[simp ↓] theorem vsn (cs : Cs) (k : List D → Prop) : opK (views cs []) k ↔ k [] := opK_some _ _
@[simp ↓] theorem vsc (cs : Cs) (r : Res) (rs : List Res) (k : List D → Prop) : opK (views cs (r :: rs)) k ↔ opK (view cs r) fun x => opK (views cs rs) fun xs => k (x :: xs) := by
  rw [views_cons]
  unfold opK
  constructor
  · rintro ⟨z, e, q⟩
    split at e
    · rename_i x hx
      split at e
      · rename_i xs hxs; cases e; exact ⟨x, hx, xs, hxs, q⟩
      · cases e
    · cases e
  · rintro ⟨x, hx, xs, hxs, q⟩
    exact ⟨x :: xs, by rw [hx, hxs], q⟩
@[simp ↓] theorem dtn (k : List D → Prop) : opK (datas []) k ↔ k [] := opK_some _ _
@[simp ↓] theorem dtd (x : D) (rs : List Res) (k : List D → Prop) : opK (datas (frz (.d x) :: rs)) k ↔ opK (datas rs) fun xs => k (x :: xs) := by
  rw [frz_d, datas_d]
  unfold opK
  constructor
  · rintro ⟨z, e, q⟩
    split at e
    · rename_i xs hxs; cases e; exact ⟨xs, hxs, q⟩
    · cases e
  · rintro ⟨xs, hxs, q⟩
    exact ⟨x :: xs, by rw [hxs], q⟩
@[simp ↓] theorem dtl (x : List D) (rs : List Res) (k : List D → Prop) : opK (datas (frz (.o (.l x)) :: rs)) k ↔ opK (datas rs) fun xs => k (.lst x :: xs) := dtd (.lst x) rs k
@[simp ↓] theorem dtk (x : List (Key × D)) (rs : List Res) (k : List D → Prop) : opK (datas (frz (.o (.k x)) :: rs)) k ↔ opK (datas rs) fun xs => k (.dk x :: xs) := dtd (.dk x) rs k
@[simp ↓] theorem od (x : D) (k : D → Prop) : onD k (frz (.d x)) ↔ k x := Iff.rfl
@[simp ↓] theorem ol (x : List D) (k : D → Prop) : onD k (frz (.o (.l x))) ↔ k (.lst x) := Iff.rfl
@[simp ↓] theorem ok (x : List (Key × D)) (k : D → Prop) : onD k (frz (.o (.k x))) ↔ k (.dk x) := Iff.rfl
@[simp ↓] theorem sd (i : Nat) (k : Cs → Prop) (x : D) (cs : Cs) : stR i k (.d x) cs ↔ Kset i (.d x) cs k := Iff.rfl
@[simp ↓] theorem so (i : Nat) (k : Cs → Prop) (x : O) (cs : Cs) : stR i k (.o x) cs ↔ Kset i (.o false x) cs k := Iff.rfl
@[simp ↓] theorem ab (b : Bool) (k : Bool → Prop) : opK (asB (.d (.bl b))) k ↔ k b := opK_some _ _
/-! ### defs -/
/-- F gives y for the data xs, and leaves them -/
def Fv (F : Fd) (xs : List D) (y : Res) : Prop := F (xs.map .d) = some (y, xs.map .d) ∧ ∀ i, y ≠ .s i
theorem outA_dat : ∀ {xs : List D} {cs : Cs}, xs.length ≤ cs.length → outA (xs.map Cell.d) cs = some (xs.map .d)
  | [], _, _ => rfl
  | x :: xs, [], h => by simp at h
  | x :: xs, c :: cs, h => by
    simp only [List.map_cons, outA]
    rw [outA_dat (by simpa using h)]
    cases c <;> rfl
/-- how a body ends: with y, the arguments being data -/
def Ends1 (n : Nat) (y : Res) : Out → Prop
  | .rt r cs => n ≤ cs.length ∧ outR cs r = some y
  | .nx cs => n ≤ cs.length ∧ y = .d .non
  | _ => False
theorem fv_of {N : Nat} {g : S} {xs : List D} {y : Res} (h : RS g (xs.map .d ++ List.replicate (N - xs.length) .un) (Ends1 xs.length y)) : Fv (bodyF N g) xs y := by
  obtain ⟨o, e, q⟩ := h
  have nos : ∀ (cs : Cs) (r : Res) (z : Res), outR cs r = some z → ∀ i, z ≠ .s i := by
    intro cs r z hz i
    cases r with
    | d x => cases hz; simp
    | o c => cases hz; simp
    | s j =>
      simp only [outR] at hz
      split at hz
      · cases hz; simp
      · cases hz
  unfold Fv bodyF
  rw [List.length_map, e]
  cases o with
  | rt r cs =>
    obtain ⟨hl, hr⟩ := q
    refine ⟨?_, nos _ _ _ hr⟩
    show fin _ _ _ = _
    unfold fin
    rw [hr, outA_dat hl]
  | nx cs =>
    obtain ⟨hl, rfl⟩ := q
    refine ⟨?_, by simp⟩
    show fin _ _ _ = _
    unfold fin
    rw [outA_dat hl]
    rfl
  | bk cs => exact False.elim q
  | ct cs => exact False.elim q
theorem slots_dat : ∀ xs : List D, slots (xs.map Res.d) = []
  | [] => rfl
  | x :: xs => slots_dat xs
theorem mkArgs_dat {cs : Cs} : ∀ xs : List D, mkArgs cs (xs.map Res.d) = some (xs.map .d)
  | [] => rfl
  | x :: xs => by simp only [List.map_cons, mkArgs, mkArgs_dat xs]
theorem putBack_dat {cs : Cs} : ∀ (xs : List D) (as : Cs), putBack cs (xs.map Res.d) as = cs
  | [], _ => by unfold putBack; rfl
  | x :: xs, [] => by unfold putBack; rfl
  | x :: xs, a :: as => by
    simp only [List.map_cons, putBack]
    exact putBack_dat xs as
theorem backOk_dat : ∀ (xs : List D), backOk (xs.map Res.d) (xs.map Cell.d) = true
  | [] => by unfold backOk; rfl
  | x :: xs => by
    simp only [List.map_cons, backOk]
    exact backOk_dat xs
/-- a call with data -/
theorem R_call {F : Fd} {xs : List D} {y : Res} {rs : List Res} {cs : Cs} {Q : Res → Cs → Prop} (h : Fv F xs y) (e : rs = xs.map .d) (q : Q y cs) : R (callR F rs) cs Q := by
  subst e
  refine ⟨y, cs, ?_, q⟩
  unfold callR
  rw [slots_dat, if_pos List.nodup_nil, mkArgs_dat]
  dsimp only
  rw [h.1]
  cases y with
  | d x => dsimp only; rw [backOk_dat, putBack_dat]; rfl
  | o c => dsimp only; rw [backOk_dat, putBack_dat]; rfl
  | s i => exact absurd rfl (h.2 i)
end DS

set_option Elab.async false
set_option linter.all false
set_option maxRecDepth 100000
set_option maxHeartbeats 2000000
set_option autoImplicit false
namespace DS
open PySem PySem.Spec L2
/-! ### defs whose first argument is a source of draws -/
def src (io : Bool) (a b : Int) : Cell := .o io (.l [.int a, .int b])
def FvS (F : Fd) (xs : List D) (P : Res → Prop) : Prop := ∀ a b : Int, ∃ (y : Res) (a' b' : Int), F (src true a b :: xs.map .d) = some (y, src true a' b' :: xs.map .d) ∧ P y ∧ ∀ i, y ≠ .s i
def Ends2 (n : Nat) (P : Res → Prop) : Out → Prop
  | .rt r cs => ∃ a' b' rest, cs = src true a' b' :: rest ∧ n ≤ rest.length ∧ ∃ y, outR cs r = some y ∧ P y
  | .nx cs => ∃ a' b' rest, cs = src true a' b' :: rest ∧ n ≤ rest.length ∧ P (.d .non)
  | _ => False
theorem outR_nos {cs : Cs} {r z : Res} (hz : outR cs r = some z) : ∀ i, z ≠ .s i := by
  intro i
  cases r with
  | d x => cases hz; simp
  | o c => cases hz; simp
  | s j =>
    simp only [outR] at hz
    split at hz
    · cases hz; simp
    · cases hz
theorem outA_src {xs : List D} {rest : Cs} (hl : xs.length ≤ rest.length) (a b a' b' : Int) : outA (src true a b :: xs.map .d) (src true a' b' :: rest) = some (src true a' b' :: xs.map .d) := by
  simp only [src, outA, outA_dat hl]
  rfl
theorem fvS_of {N : Nat} {g : S} {xs : List D} {P : Res → Prop} (h : ∀ a b, RS g (src true a b :: xs.map .d ++ List.replicate (N - (xs.length + 1)) .un) (Ends2 xs.length P)) : FvS (bodyF N g) xs P := by
  intro a b
  obtain ⟨o, e, q⟩ := h a b
  have e0 : bodyF N g (src true a b :: xs.map .d) = (match some o with
    | some (.rt r cs') => fin (src true a b :: xs.map .d) r cs'
    | some (.nx cs') => fin (src true a b :: xs.map .d) (.d .non) cs'
    | _ => none) := by
    unfold bodyF
    rw [List.length_cons, List.length_map, e]
    try rfl
  cases o with
  | rt r cs =>
    obtain ⟨a', b', rest, rfl, hl, y, hy, p⟩ := q
    refine ⟨y, a', b', ?_, p, outR_nos hy⟩
    rw [e0]
    show fin _ _ _ = _
    unfold fin
    rw [hy, outA_src hl]
  | nx cs =>
    obtain ⟨a', b', rest, rfl, hl, p⟩ := q
    refine ⟨_, a', b', ?_, p, by simp⟩
    rw [e0]
    show fin _ _ _ = _
    unfold fin
    rw [outA_src hl]
    rfl
  | bk cs => exact False.elim q
  | ct cs => exact False.elim q
/-- a call that hands the source on -/
theorem R_callS {F : Fd} {xs : List D} {P : Res → Prop} {rs : List Res} {cs : Cs} {j : Nat} {io : Bool} {a b : Int} {Q : Res → Cs → Prop} (h : FvS F xs P) (e : rs = .s j :: xs.map .d) (hj : cs[j]? = some (src io a b))
    (q : ∀ y a' b', P y → Q y (cs.set j (src io a' b'))) : R (callR F rs) cs Q := by
  subst e
  obtain ⟨y, a', b', e1, p, ns⟩ := h a b
  refine ⟨y, cs.set j (src io a' b'), ?_, q y a' b' p⟩
  have hs : slots (.s j :: xs.map Res.d) = [j] := by
    show j :: slots (xs.map Res.d) = [j]
    rw [slots_dat]
  have hm : mkArgs cs (.s j :: xs.map Res.d) = some (src true a b :: xs.map .d) := by
    simp only [mkArgs, hj, src, mkArgs_dat]
  have hb : backOk (.s j :: xs.map Res.d) (src true a' b' :: xs.map Cell.d) = true := by
    show backOk (xs.map Res.d) (xs.map Cell.d) = true
    exact backOk_dat xs
  have hp : putBack cs (.s j :: xs.map Res.d) (src true a' b' :: xs.map Cell.d) = cs.set j (src io a' b') := by
    show putO (putBack cs (xs.map Res.d) (xs.map Cell.d)) j (.l [.int a', .int b']) = _
    rw [putBack_dat]
    unfold putO
    rw [hj]
    rfl
  unfold callR
  rw [hs, if_pos (by simp), hm]
  dsimp only
  rw [e1]
  cases y with
  | d x => dsimp only; rw [hb, hp]; rfl
  | o c => dsimp only; rw [hb, hp]; rfl
  | s i => exact absurd rfl (ns i)
theorem src_fz (io : Bool) (a b : Int) : src io a b = .o io (.l [.int a, .int b]) := rfl
/-! stores -/
@[simp ↓] theorem RS_sSub (i : Nat) (fv fk : M Res) (cs : Cs) (Q : Out → Prop) : RS (sSub i fv fk) cs Q ↔ R (asD fv) cs fun v cs1 => onO (fun _ _ => R (asD fk) cs1 fun y cs2 => onO (fun io c => opK (opSet c y v) fun c' => Kset i (.o io c') cs2 fun cs3 => Q (.nx cs3)) cs2[i]?) cs1[i]? := by
  constructor
  · rintro ⟨o, e, q⟩
    unfold sSub at e
    cases h1 : asD fv cs with
    | none => rw [h1] at e; cases e
    | some z =>
      obtain ⟨v, cs1⟩ := z
      rw [h1] at e
      dsimp only at e
      refine ⟨v, cs1, h1, ?_⟩
      split at e
      · rename_i io0 c0 h2
        refine onO_mk h2 ?_
        cases h3 : asD fk cs1 with
        | none => rw [h3] at e; cases e
        | some z =>
          obtain ⟨y, cs2⟩ := z
          rw [h3] at e
          dsimp only at e
          refine ⟨y, cs2, h3, ?_⟩
          split at e
          · rename_i io c h4
            refine onO_mk h4 ?_
            split at e
            · rename_i c' h5; cases e; exact ⟨c', h5, q⟩
            · cases e
          · cases e
      · cases e
  · rintro ⟨v, cs1, h1, h⟩
    obtain ⟨io0, c0, h2, y, cs2, h3, h⟩ := onO_inv h
    obtain ⟨io, c, h4, c', h5, q⟩ := onO_inv h
    refine ⟨_, ?_, q⟩
    unfold sSub
    rw [h1]
    dsimp only
    rw [h2]
    dsimp only
    rw [h3]
    dsimp only
    rw [h4]
    dsimp only
    rw [h5]
@[simp ↓] theorem R_mtV (t : O → Bool) (i : Nat) (fs : M (List Res)) (op : O → List D → Option (D × O)) (cs : Cs) (Q : Res → Cs → Prop) : R (mtV t i fs op) cs Q ↔
    onO (fun _ c0 => t c0 = true ∧ R fs cs fun rs cs1 => opK (datas rs) fun ds => onO (fun io c => opK (op c ds) fun zc => Kset i (.o io zc.2) cs1 fun cs2 => Q (.d zc.1) cs2) cs1[i]?) cs[i]? := by
  constructor
  · rintro ⟨r, cs', e, q⟩
    unfold mtV at e
    split at e
    · rename_i io0 c0 h1
      refine onO_mk h1 ?_
      split at e
      · rename_i ht
        refine ⟨ht, ?_⟩
        split at e
        · rename_i rs cs1 h2
          refine ⟨rs, cs1, h2, ?_⟩
          split at e
          · rename_i ds io c h3 h4
            refine ⟨ds, h3, ?_⟩
            refine onO_mk h4 ?_
            split at e
            · rename_i z c' h5; cases e; exact ⟨(z, c'), h5, q⟩
            · cases e
          · cases e
        · cases e
      · cases e
    · cases e
  · intro h
    obtain ⟨io0, c0, h1, ht, rs, cs1, h2, ds, h3, h⟩ := onO_inv h
    obtain ⟨io, c, h4, ⟨z, c'⟩, h5, q⟩ := onO_inv h
    refine ⟨_, _, ?_, q⟩
    unfold mtV
    rw [h1]
    dsimp only
    rw [if_pos ht, h2]
    dsimp only
    rw [h3, h4]
    dsimp only
    rw [h5]
/-! operators on data -/
section
variable (i j : Int) (s t : Str) (xs ys : List D) (b : Bool) (k : Res → Prop)
@[simp ↓] theorem pAdd_i : opK (oAdd (.int i) (.int j)) k ↔ k (.d (.int (i + j))) := opK_some _ _
@[simp ↓] theorem pAdd_t : opK (oAdd (.tup xs) (.tup ys)) k ↔ xs.length + ys.length ≤ sizeLine ∧ k (.d (.tup (xs ++ ys))) := opK_ite _ _ _
@[simp ↓] theorem pAdd_l : opK (oAdd (.lst xs) (.lst ys)) k ↔ xs.length + ys.length ≤ sizeLine ∧ k (.o (.l (xs ++ ys))) := opK_ite _ _ _
@[simp ↓] theorem pSub_i : opK (oSub (.int i) (.int j)) k ↔ k (.d (.int (i - j))) := opK_some _ _
@[simp ↓] theorem pMul_i : opK (oMul (.int i) (.int j)) k ↔ ((-(2 ^ 64) < i ∧ i < 2 ^ 64) ∨ (-(2 ^ 64) < j ∧ j < 2 ^ 64)) ∧ k (.d (.int (i * j))) := opK_ite _ _ _
@[simp ↓] theorem pDiv_i : opK (oDiv (.int i) (.int j)) k ↔ (0 < j ∧ j < 1073741824) ∧ k (.d (.int (i / j))) := opK_ite _ _ _
@[simp ↓] theorem pMod_i : opK (oMod (.int i) (.int j)) k ↔ 0 < j ∧ k (.d (.int (i % j))) := opK_ite _ _ _
@[simp ↓] theorem pPow_i : opK (oPow (.int i) (.int j)) k ↔ (0 ≤ j ∧ j ≤ 1000000 ∧ i.natAbs < 2 ^ 64) ∧ k (.d (.int (i ^ j.toNat))) := opK_ite _ _ _
@[simp ↓] theorem pNeg_i : opK (oNeg (.int i)) k ↔ k (.d (.int (-i))) := opK_some _ _
@[simp ↓] theorem pLt_i : opK (oLt (.int i) (.int j)) k ↔ k (.d (.bl (decide (i < j)))) := opK_some _ _
@[simp ↓] theorem pLe_i : opK (oLe (.int i) (.int j)) k ↔ k (.d (.bl (decide (i ≤ j)))) := opK_some _ _
@[simp ↓] theorem pGt_i : opK (oGt (.int i) (.int j)) k ↔ k (.d (.bl (decide (j < i)))) := opK_some _ _
@[simp ↓] theorem pGe_i : opK (oGe (.int i) (.int j)) k ↔ k (.d (.bl (decide (j ≤ i)))) := opK_some _ _
theorem eqD_i : eqD (.int i) (.int j) = some (decide (i = j)) := by
  simp only [eqD, shp, pyD]
  rfl
@[simp ↓] theorem pEq_i : opK (oEq (.int i) (.int j)) k ↔ k (.d (.bl (decide (i = j)))) := by
  unfold oEq
  rw [eqD_i]
  exact opK_some _ _
@[simp ↓] theorem pNe_i : opK (oNe (.int i) (.int j)) k ↔ k (.d (.bl (!decide (i = j)))) := by
  unfold oNe
  rw [eqD_i]
  exact opK_some _ _
@[simp ↓] theorem pTru_b (k : Bool → Prop) : opK (truD (.bl b)) k ↔ k b := opK_some _ _
@[simp ↓] theorem pSet_l (v : D) (k : O → Prop) : opK (opSet (.l xs) (.int i) v) k ↔ opK (ixN xs.length i) fun j => k (.l (xs.set j v)) := by
  show opK (match ixN xs.length i with | some j => some (O.l (xs.set j v)) | none => none) k ↔ _
  cases ixN xs.length i with
  | none => rw [opK_none, opK_none]
  | some j => rw [opK_some, opK_some]
theorem opK_map {α β : Type} (f : α → β) (o : Option α) (k : β → Prop) : opK (o.map f) k ↔ opK o fun x => k (f x) := by
  cases o with
  | none => rw [Option.map_none, opK_none, opK_none]
  | some x => rw [Option.map_some, opK_some, opK_some]
@[simp ↓] theorem pIx_t : opK (oIx (.tup xs) (.int i)) k ↔ opK (atI xs i) fun x => k (.d x) := opK_map _ _ _
@[simp ↓] theorem pIx_l : opK (oIx (.lst xs) (.int i)) k ↔ opK (atI xs i) fun x => k (.d x) := opK_map _ _ _
@[simp ↓] theorem pInt_i : opK (oInt [.int i]) k ↔ k (.d (.int i)) := opK_some _ _
@[simp ↓] theorem pLen_t : opK (oLen [.tup xs]) k ↔ k (.d (.int xs.length)) := opK_some _ _
@[simp ↓] theorem pLen_l : opK (oLen [.lst xs]) k ↔ k (.d (.int xs.length)) := opK_some _ _
@[simp ↓] theorem pLen_s (ns : List Int) : opK (oLen [.scr ns]) k ↔ k (.d (.int ns.length)) := opK_some _ _
@[simp ↓] theorem pLen_k (m : List (Key × D)) : opK (oLen [.dk m]) k ↔ k (.d (.int m.length)) := opK_some _ _
@[simp ↓] theorem pTup_l : opK (oTuple [.lst xs]) k ↔ k (.d (.tup xs)) := opK_some _ _
@[simp ↓] theorem pTup_t : opK (oTuple [.tup xs]) k ↔ k (.d (.tup xs)) := opK_some _ _
@[simp ↓] theorem pLst_l : opK (oList [.lst xs]) k ↔ k (.o (.l xs)) := opK_some _ _
@[simp ↓] theorem pLst_t : opK (oList [.tup xs]) k ↔ k (.o (.l xs)) := opK_some _ _
@[simp ↓] theorem it_t (k : List D → Prop) : opK (itemsD (.tup xs)) k ↔ k xs := opK_some _ _
@[simp ↓] theorem it_l (k : List D → Prop) : opK (itemsD (.lst xs)) k ↔ k xs := opK_some _ _
@[simp ↓] theorem pApp (x : D) (k : D × O → Prop) : opK (opAppend (.l xs) [x]) k ↔ xs.length < sizeLine ∧ k (.non, .l (xs ++ [x])) := opK_ite _ _ _
@[simp ↓] theorem pExt (k : D × O → Prop) : opK (opExtend (.l xs) [.lst ys]) k ↔ xs.length + ys.length ≤ sizeLine ∧ k (.non, .l (xs ++ ys)) := opK_ite _ _ _
@[simp ↓] theorem isL_l : isL (.l xs) = true := rfl
section
variable (x0 x1 x2 x3 : D) (k : D → Prop)
theorem at_nat {xs : List D} {j : Nat} {x : D} (h : xs[j]? = some x) : opK (atI xs (j : Int)) k ↔ k x := by
  rw [atI_nat h]
  exact opK_some _ _
@[simp ↓] theorem at0 : opK (atI (x0 :: xs) 0) k ↔ k x0 := at_nat (j := 0) (k := k) rfl
@[simp ↓] theorem at1 : opK (atI (x0 :: x1 :: xs) 1) k ↔ k x1 := at_nat (j := 1) (k := k) rfl
@[simp ↓] theorem at2 : opK (atI (x0 :: x1 :: x2 :: xs) 2) k ↔ k x2 := at_nat (j := 2) (k := k) rfl
@[simp ↓] theorem at3 : opK (atI (x0 :: x1 :: x2 :: x3 :: xs) 3) k ↔ k x3 := at_nat (j := 3) (k := k) rfl
variable (k : Nat → Prop)
theorem ix_nat {n j : Nat} (h : j < n) : opK (ixN n (j : Int)) k ↔ k j := by
  have e : ixN n (j : Int) = some j := by
    unfold ixN
    rw [if_pos (Int.natCast_nonneg j), if_pos (by omega)]
    rfl
  rw [e]
  exact opK_some _ _
@[simp ↓] theorem ix0 : opK (ixN (x0 :: xs).length 0) k ↔ k 0 := ix_nat (j := 0) (k := k) (by simp)
@[simp ↓] theorem ix1 : opK (ixN (x0 :: x1 :: xs).length 1) k ↔ k 1 := ix_nat (j := 1) (k := k) (by simp)
end
end
end DS

set_option Elab.async false
set_option linter.all false
set_option maxRecDepth 100000
set_option maxHeartbeats 2000000
set_option autoImplicit false
namespace DS
open PySem PySem.Spec L2
section
variable {cs : Cs}
/-! targets -/
def RGs (g : List D → Cs → Option Cs) (xs : List D) (cs : Cs) (Q : Cs → Prop) : Prop := ∃ cs', g xs cs = some cs' ∧ Q cs'
@[simp ↓] theorem RG_gT (n : Nat) (g : List D → Cs → Option Cs) (xs : List D) (Q : Cs → Prop) : RG (gT n g) (.tup xs) cs Q ↔ xs.length = n ∧ RGs g xs cs Q := by
  unfold RG RGs
  by_cases h : xs.length = n
  · have e : gT n g (.tup xs) cs = g xs cs := if_pos h
    rw [e]
    exact ⟨fun q => ⟨h, q⟩, fun q => q.2⟩
  · have e : gT n g (.tup xs) cs = none := if_neg h
    rw [e]
    exact ⟨fun ⟨_, z, _⟩ => (nomatch z), fun q => absurd q.1 h⟩
@[simp ↓] theorem RGs_nil (Q : Cs → Prop) : RGs gsN [] cs Q ↔ Q cs := ⟨fun ⟨_, e, q⟩ => by cases e; exact q, fun q => ⟨_, rfl, q⟩⟩
@[simp ↓] theorem RGs_cons (h : D → Cs → Option Cs) (g : List D → Cs → Option Cs) (x : D) (xs : List D) (Q : Cs → Prop) : RGs (gsC h g) (x :: xs) cs Q ↔ RG h x cs fun c1 => RGs g xs c1 Q := by
  unfold RGs RG gsC
  dsimp only
  constructor
  · rintro ⟨c, e, q⟩
    split at e
    · rename_i c1 h1; exact ⟨c1, h1, c, e, q⟩
    · cases e
  · rintro ⟨c1, h1, c, e, q⟩
    exact ⟨c, by rw [h1]; exact e, q⟩
@[simp ↓] theorem RS_sG (h : D → Cs → Option Cs) (f : M Res) (Q : Out → Prop) : RS (sG h f) cs Q ↔ R f cs fun r c1 => onD (fun x => RG h x c1 fun c2 => Q (.nx c2)) (frz r) := by
  have key : RS (sG h f) cs Q ↔ R (asD f) cs fun x c1 => RG h x c1 fun c2 => Q (.nx c2) := by
    unfold RS sG R RG
    constructor
    · rintro ⟨o, e, q⟩
      split at e
      · rename_i x c1 h1
        split at e
        · rename_i c2 h2; cases e; exact ⟨x, c1, h1, c2, h2, q⟩
        · cases e
      · cases e
    · rintro ⟨x, c1, h1, c2, h2, q⟩
      exact ⟨_, by rw [h1]; dsimp only; rw [h2], q⟩
  rw [key, R_asD]
/-! iterables -/
def zipO : D → D → Option (List D)
  | .tup xs, .tup ys => some (zipD xs ys)
  | .lst xs, .lst ys => some (zipD xs ys)
  | _, _ => none
@[simp ↓] theorem R_zip2 (f g : M Res) (Q : List D → Cs → Prop) : R (zip2 f g) cs Q ↔ R (asD f) cs fun x c1 => R (asD g) c1 fun y c2 => opK (zipO x y) fun z => Q z c2 := by
  have e : zip2 f g = bnd (asD f) fun x => bnd (asD g) fun y => lft (zipO x y) := rfl
  rw [e]
  simp only [R_bnd, R_lft]
@[simp ↓] theorem zipO_t (xs ys : List D) (k : List D → Prop) : opK (zipO (.tup xs) (.tup ys)) k ↔ k (zipD xs ys) := opK_some _ _
@[simp ↓] theorem zipO_l (xs ys : List D) (k : List D → Prop) : opK (zipO (.lst xs) (.lst ys)) k ↔ k (zipD xs ys) := opK_some _ _
def rngO : D → Option (List D)
  | .int j => if -(2 ^ 62) ≤ j ∧ j < 2 ^ 62 then some (rngD 0 j.toNat) else none
  | _ => none
@[simp ↓] theorem R_rng1 (f : M Res) (Q : List D → Cs → Prop) : R (rng1 f) cs Q ↔ R (asD f) cs fun x c1 => opK (rngO x) fun z => Q z c1 := by
  have e : rng1 f = bnd (asD f) fun x => lft (rngO x) := rfl
  rw [e]
  simp only [R_bnd, R_lft]
@[simp ↓] theorem rngO_i (j : Int) (k : List D → Prop) : opK (rngO (.int j)) k ↔ (-(2 ^ 62) ≤ j ∧ j < 2 ^ 62) ∧ k (rngD 0 j.toNat) := opK_ite _ _ _
def rngO2 : D → D → Option (List D)
  | .int i, .int j => if -(2 ^ 62) ≤ i ∧ i < 2 ^ 62 ∧ -(2 ^ 62) ≤ j ∧ j < 2 ^ 62 then some (rngD i (j - i).toNat) else none
  | _, _ => none
@[simp ↓] theorem R_rng2 (f g : M Res) (Q : List D → Cs → Prop) : R (rng2 f g) cs Q ↔ R (asD f) cs fun x c1 => R (asD g) c1 fun y c2 => opK (rngO2 x y) fun z => Q z c2 := by
  have e : rng2 f g = bnd (asD f) fun x => bnd (asD g) fun y => lft (rngO2 x y) := rfl
  rw [e]
  simp only [R_bnd, R_lft]
@[simp ↓] theorem rngO2_i (i j : Int) (k : List D → Prop) : opK (rngO2 (.int i) (.int j)) k ↔ (-(2 ^ 62) ≤ i ∧ i < 2 ^ 62 ∧ -(2 ^ 62) ≤ j ∧ j < 2 ^ 62) ∧ k (rngD i (j - i).toNat) := opK_ite _ _ _
/-! dicts -/
def asDk : D → Option (List (Key × D))
  | .dk m => some m
  | _ => none
@[simp ↓] theorem asDk_k (m : List (Key × D)) (k : List (Key × D) → Prop) : opK (asDk (.dk m)) k ↔ k m := opK_some _ _
theorem dkOf_as (o : Option D) (k : List (Key × D) → Prop) : opK (dkOf o) k ↔ opK o fun x => opK (asDk x) k := by
  cases o with
  | none => exact ⟨fun ⟨_, e, _⟩ => (nomatch e), fun ⟨_, e, _⟩ => (nomatch e)⟩
  | some x =>
    rw [opK_some]
    cases x <;> exact Iff.rfl
theorem R_dkq (r : Res) (Q : Unit → Cs → Prop) : R (dkq r) cs Q ↔ opK (view cs r) fun x => opK (asDk x) fun _ => Q () cs := by
  rw [← dkOf_as]
  unfold R dkq opK
  constructor
  · rintro ⟨u, c, e, q⟩
    split at e
    · rename_i m h; cases e; exact ⟨m, h, q⟩
    · cases e
  · rintro ⟨m, h, q⟩
    rw [h]
    exact ⟨_, _, rfl, q⟩
@[simp ↓] theorem R_get2 (f g h : M Res) (Q : Res → Cs → Prop) : R (get2 f g h) cs Q ↔ R f cs fun r c1 => opK (view c1 (frz r)) fun x => opK (asDk x) fun _ => R g c1 fun r2 c2 => R (asD h) c2 fun y c3 => opK (views c3 [frz r, frz r2]) fun xs => opK (oGet2 (xs ++ [y])) fun z => Q z c3 := by
  unfold get2
  simp only [R_bnd, R_asR, R_vws, R_lft, R_dkq]
@[simp ↓] theorem R_get1 (f g : M Res) (Q : Res → Cs → Prop) : R (get1 f g) cs Q ↔ R f cs fun r c1 => opK (view c1 (frz r)) fun x => opK (asDk x) fun _ => R g c1 fun r2 c2 => opK (views c2 [frz r, frz r2]) fun xs => opK (oGet1 xs) fun z => Q z c2 := by
  unfold get1
  simp only [R_bnd, R_asR, R_vws, R_lft, R_dkq]
@[simp ↓] theorem pGet2_s (m : List (Key × D)) (s : Str) (y : D) (k : Res → Prop) : opK (oGet2 ([.dk m, .str s] ++ [y])) k ↔ k (.d ((dGet m (.inr s)).getD y)) := opK_some _ _
@[simp ↓] theorem pGet2_i (m : List (Key × D)) (s : Int) (y : D) (k : Res → Prop) : opK (oGet2 ([.dk m, .int s] ++ [y])) k ↔ k (.d ((dGet m (.inl s)).getD y)) := opK_some _ _
@[simp ↓] theorem dKey_s (s : Str) (k : Key → Prop) : opK (dKey (.str s)) k ↔ k (.inr s) := opK_some _ _
@[simp ↓] theorem dKey_i (i : Int) (k : Key → Prop) : opK (dKey (.int i)) k ↔ k (.inl i) := opK_some _ _
theorem R_match {o : Option Key} (f : Key → M Res) (Q : Res → Cs → Prop) : R (match o with | some k => f k | none => fun _ => none) cs Q ↔ opK o fun k => R (f k) cs Q := by
  cases o with
  | none => exact ⟨fun ⟨_, _, e, _⟩ => (nomatch e), fun ⟨_, e, _⟩ => (nomatch e)⟩
  | some k => rw [opK_some]
@[simp ↓] theorem R_starP (f g h : M Res) (Q : Res → Cs → Prop) : R (starP f g h) cs Q ↔ R f cs fun r c1 => opK (view c1 (frz r)) fun x => opK (asDk x) fun m => R (asD g) c1 fun kd c2 => R (asD h) c2 fun vd c3 => opK (dKey kd) fun k => (dMerge [] m).length + 1 ≤ sizeLine ∧ Q (.o (.k (dMerge (dMerge [] m) [(k, vd)]))) c3 := by
  unfold starP
  rw [R_bnd, R_asR]
  have key : ∀ (r : Res) (c1 : Cs), R (fun cs => match dkOf (view cs r) with
      | some m => bnd (asD g) (fun kd => bnd (asD h) fun vd => match dKey kd with
        | some k => if (dMerge [] m).length + 1 ≤ sizeLine then ret (.o (.k (dMerge (dMerge [] m) [(k, vd)]))) else fun _ => none
        | none => fun _ => none) cs
      | none => none) c1 Q ↔ opK (view c1 r) fun x => opK (asDk x) fun m => R (asD g) c1 fun kd c2 => R (asD h) c2 fun vd c3 => opK (dKey kd) fun k => (dMerge [] m).length + 1 ≤ sizeLine ∧ Q (.o (.k (dMerge (dMerge [] m) [(k, vd)]))) c3 := by
    intro r c1
    rw [← dkOf_as]
    have e2 : ∀ m, R (bnd (asD g) fun kd => bnd (asD h) fun vd => match dKey kd with
        | some k => if (dMerge [] m).length + 1 ≤ sizeLine then ret (.o (.k (dMerge (dMerge [] m) [(k, vd)]))) else fun _ => none
        | none => fun _ => none) c1 Q ↔ R (asD g) c1 fun kd c2 => R (asD h) c2 fun vd c3 => opK (dKey kd) fun k => (dMerge [] m).length + 1 ≤ sizeLine ∧ Q (.o (.k (dMerge (dMerge [] m) [(k, vd)]))) c3 := by
      intro m
      simp only [R_bnd, R_match, R_ite, R_ret, R_fail]
      have e3 : ∀ (c : Prop) [Decidable c] (p : Prop), (if c then p else False) ↔ c ∧ p := fun c _ p => by
        by_cases h : c <;> simp [h]
      simp only [e3]
    cases hd : dkOf (view c1 r) with
    | none =>
      rw [opK_none]
      unfold R
      dsimp only
      rw [hd]
      exact ⟨fun ⟨_, _, e, _⟩ => (nomatch e), fun q => False.elim q⟩
    | some m =>
      rw [opK_some, ← e2 m]
      unfold R
      dsimp only
      rw [hd]
  exact ⟨fun ⟨r, c1, e, q⟩ => ⟨r, c1, e, (key _ _).mp q⟩, fun ⟨r, c1, e, q⟩ => ⟨r, c1, e, (key _ _).mpr q⟩⟩
@[simp ↓] theorem R_dspK (f : M (List (Key × D))) (Q : Res → Cs → Prop) : R (dspK f) cs Q ↔ R f cs fun m c => Q (.o (.k (dMerge [] m))) c := by
  unfold dspK
  simp only [R_bnd, R_ret]
@[simp ↓] theorem R_pairsN (Q : List (Key × D) → Cs → Prop) : R pairsN cs Q ↔ Q [] cs := R_ret _ _
@[simp ↓] theorem R_pairsC (f g : M Res) (h : M (List (Key × D))) (Q : List (Key × D) → Cs → Prop) : R (pairsC f g h) cs Q ↔ R (asD f) cs fun x c1 => R (asD g) c1 fun y c2 => R h c2 fun r c3 => opK (dKey x) fun k => Q ((k, y) :: r) c3 := by
  unfold pairsC
  simp only [R_bnd]
  constructor
  · rintro ⟨x, c1, e1, y, c2, e2, r, c3, e3, q⟩
    refine ⟨x, c1, e1, y, c2, e2, r, c3, e3, ?_⟩
    cases hk : dKey x with
    | none => rw [hk] at q; exact False.elim ((R_fail _).mp q)
    | some k => rw [hk] at q; exact ⟨k, by first | exact hk | rfl, (R_ret _ _).mp q⟩
  · rintro ⟨x, c1, e1, y, c2, e2, r, c3, e3, k, hk, q⟩
    refine ⟨x, c1, e1, y, c2, e2, r, c3, e3, ?_⟩
    rw [hk]
    exact (R_ret _ _).mpr q
@[simp ↓] theorem R_callSt (F : Fd) (fs : M (List Res)) (Q : Res → Cs → Prop) : R (callSt F fs) cs Q ↔ R fs cs fun rs c => opK (datas rs) fun xs => xs.length ≤ sizeLine ∧ R (callR F [.d (.tup xs)]) c Q := by
  unfold callSt
  rw [R_bnd]
  constructor
  · rintro ⟨rs, c, e, q⟩
    refine ⟨rs, c, e, ?_⟩
    cases hd : datas rs with
    | none => rw [hd] at q; exact False.elim ((R_fail _).mp q)
    | some xs =>
      rw [hd] at q
      dsimp only at q
      split at q
      · rename_i hl
        rw [R_callF, R_ret] at q
        exact ⟨xs, hd, hl, q⟩
      · exact False.elim ((R_fail _).mp q)
  · rintro ⟨rs, c, e, xs, hd, hl, q⟩
    refine ⟨rs, c, e, ?_⟩
    dsimp only
    rw [hd]
    dsimp only
    rw [if_pos hl, R_callF, R_ret]
    exact q
/-! comprehensions -/
def RLc (own : List Nat) (h : D → Cs → Option Cs) (t : M Bool) (f : M D) (xs acc : List D) (cs : Cs) (Q : List D → Cs → Prop) : Prop := ∃ ys cs', lcL own h t f xs acc cs = some (ys, cs') ∧ Q ys cs'
@[simp ↓] theorem R_lcF (fi : M (List D)) (own : List Nat) (h : D → Cs → Option Cs) (t : M Bool) (f : M D) (Q : Res → Cs → Prop) : R (lcF fi own h t f) cs Q ↔ R fi cs fun xs c1 => RLc own h t f xs [] c1 fun ys c2 => Q (.o (.l ys)) c2 := by
  unfold R lcF RLc
  constructor
  · rintro ⟨r, c, e, q⟩
    split at e
    · cases e
    · rename_i xs c1 h1
      split at e
      · cases e
      · rename_i ys c2 h2; cases e; exact ⟨xs, c1, h1, ys, _, h2, q⟩
  · rintro ⟨xs, c1, h1, ys, c2, h2, q⟩
    exact ⟨_, _, by rw [h1]; dsimp only; rw [h2], q⟩
theorem lc_inv {own : List Nat} {h : D → Cs → Option Cs} {t : M Bool} {f : M D} {Q : List D → Cs → Prop} (I : List D → List D → Cs → Prop)
    (step : ∀ x xs acc cs, I (x :: xs) acc cs → noOw cs own = true ∧ RG h x (wipeC cs own) fun c1 => R t c1 fun b c2 => if b = true then R f c2 fun y c3 => acc.length < sizeLine ∧ I xs (acc ++ [y]) (reC cs own c3) else I xs acc (reC cs own c2))
    (done : ∀ acc cs, I [] acc cs → Q acc cs) : ∀ (xs acc : List D) (cs : Cs), I xs acc cs → RLc own h t f xs acc cs Q
  | [], acc, cs, i => ⟨acc, cs, rfl, done acc cs i⟩
  | x :: xs, acc, cs, i => by
    obtain ⟨no, c1, h1, b, c2, h2, q⟩ := step x xs acc cs i
    cases b with
    | false =>
      obtain ⟨ys, c', e, q'⟩ := lc_inv I step done xs acc _ (show I xs acc (reC cs own c2) from q)
      refine ⟨ys, c', ?_, q'⟩
      unfold lcL
      rw [if_pos no]
      have e1 : lcT own h t f x cs = some (none, reC cs own c2) := by
        unfold lcT
        rw [h1]
        dsimp only
        rw [h2]
      rw [e1]
      exact e
    | true =>
      obtain ⟨y, c3, h3, hl, i'⟩ := (show R f c2 fun y c3 => acc.length < sizeLine ∧ I xs (acc ++ [y]) (reC cs own c3) from q)
      obtain ⟨ys, c', e, q'⟩ := lc_inv I step done xs (acc ++ [y]) _ i'
      refine ⟨ys, c', ?_, q'⟩
      unfold lcL
      rw [if_pos no]
      have e1 : lcT own h t f x cs = some (some y, reC cs own c3) := by
        unfold lcT
        rw [h1]
        dsimp only
        rw [h2]
        dsimp only
        rw [h3]
      rw [e1]
      dsimp only
      rw [if_pos hl]
      exact e
/-- a comprehension that changes nothing: what it gives -/
theorem lc_pure {own : List Nat} {h : D → Cs → Option Cs} {t : M Bool} {f : M D} {Q : List D → Cs → Prop} {xs : List D} {cs : Cs} (p : D → Bool) (v : D → D) (no : noOw cs own = true) (hl : xs.length ≤ sizeLine)
    (step : ∀ x ∈ xs, RG h x (wipeC cs own) fun c1 => R t c1 fun b c2 => b = p x ∧ if b = true then R f c2 fun y c3 => y = v x ∧ reC cs own c3 = cs else reC cs own c2 = cs) (q : Q ((xs.filter p).map v) cs) : RLc own h t f xs [] cs Q := by
  refine lc_inv (fun ys acc c => c = cs ∧ ∃ zs, xs = zs ++ ys ∧ acc = (zs.filter p).map v) ?_ ?_ xs [] cs ⟨rfl, [], rfl, rfl⟩
  · rintro x ys acc c ⟨rfl, zs, e, rfl⟩
    refine ⟨no, ?_⟩
    obtain ⟨c1, h1, b, c2, h2, hb, s⟩ := step x (by rw [e]; simp)
    refine ⟨c1, h1, b, c2, h2, ?_⟩
    have e' : xs = (zs ++ [x]) ++ ys := by rw [e]; simp
    cases b with
    | false =>
      have s' : reC c own c2 = c := s
      dsimp only
      rw [if_neg (by simp)]
      exact ⟨s', zs ++ [x], e', by simp [List.filter_append, ← hb]⟩
    | true =>
      have s' : R f c2 fun y c3 => y = v x ∧ reC c own c3 = c := s
      obtain ⟨y, c3, h3, rfl, s2⟩ := s'
      dsimp only
      rw [if_pos rfl]
      refine ⟨_, c3, h3, ?_, s2, zs ++ [x], e', by simp [List.filter_append, ← hb]⟩
      have l1 : ((zs.filter p).map v).length ≤ zs.length := by rw [List.length_map]; exact List.length_filter_le _ _
      have l2 : zs.length + 1 ≤ xs.length := by rw [e']; simp
      omega
  · rintro acc c ⟨rfl, zs, e, rfl⟩
    have : zs = xs := by rw [e]; simp
    rw [this]
    exact q
end
end DS

set_option Elab.async false
set_option linter.all false
set_option maxRecDepth 100000
set_option maxHeartbeats 2000000
set_option autoImplicit false
namespace DS
open PySem PySem.Spec L2
/-- a turn of a loop that leaves at the first item of a kind -/
def Pick (b : Bool) (r : Res) (P : Cs → Prop) : Out → Prop
  | .nx cs => b = false ∧ P cs
  | .rt z cs => b = true ∧ z = r ∧ P cs
  | .ct cs => b = false ∧ P cs
  | .bk _ => False
@[simp ↓] theorem Pick_nx (b : Bool) (r : Res) (P : Cs → Prop) (cs : Cs) : Pick b r P (.nx cs) ↔ b = false ∧ P cs := Iff.rfl
@[simp ↓] theorem Pick_rt (b : Bool) (r z : Res) (P : Cs → Prop) (cs : Cs) : Pick b r P (.rt z cs) ↔ b = true ∧ z = r ∧ P cs := Iff.rfl
theorem RL_any {α : Type} (enc : α → D) (p : α → Bool) (P : Cs → Prop) {h : D → Cs → Option Cs} {g : S} {Q : Out → Prop} {r : Res} : ∀ (xs : List α) (cs : Cs), (∀ x ∈ xs, ∀ cs, P cs → RG h (enc x) cs fun c1 => RS g c1 (Pick (p x) r P)) → P cs →
    (xs.any p = false → ∀ c, P c → Q (.nx c)) → (xs.any p = true → ∀ c, P c → Q (.rt r c)) → RL h g (xs.map enc) cs Q
  | [], cs, _, hp, h1, _ => by
    rw [List.map_nil, RL_nil]
    exact h1 rfl cs hp
  | x :: xs, cs, st, hp, h1, h2 => by
    rw [List.map_cons, RL_cons]
    obtain ⟨c1, e1, o, e2, q⟩ := st x List.mem_cons_self cs hp
    refine ⟨c1, e1, o, e2, ?_⟩
    have go : ∀ c, p x = false → P c → RL h g (xs.map enc) c Q := fun c hb hc =>
      RL_any enc p P xs c (fun y hy => st y (List.mem_cons_of_mem _ hy)) hc (fun h => h1 (by rw [List.any_cons, hb, h]; rfl)) (fun h => h2 (by rw [List.any_cons, h, Bool.or_true]))
    cases o with
    | nx c => exact go c q.1 q.2
    | ct c => exact go c q.1 q.2
    | bk c => exact False.elim q
    | rt z c =>
      obtain ⟨hb, hz, hc⟩ := q
      subst hz
      exact h2 (by rw [List.any_cons, hb, Bool.true_or]) c hc
/-- a loop that never leaves, by an invariant over what it has taken -/
theorem RL_fold {α : Type} (enc : α → D) (I : List α → Cs → Prop) {h : D → Cs → Option Cs} {g : S} {Q : Out → Prop} (xs : List α)
    (step : ∀ (zs : List α) (x : α) (ys : List α) (cs : Cs), xs = zs ++ x :: ys → I zs cs → RG h (enc x) cs fun c1 => RS g c1 (turn (fun _ => False) fun c2 => I (zs ++ [x]) c2)) {cs : Cs} (h0 : I [] cs) (done : ∀ c, I xs c → Q (.nx c)) : RL h g (xs.map enc) cs Q := by
  have key : ∀ (ys zs : List α) (cs : Cs), xs = zs ++ ys → I zs cs → RL h g (ys.map enc) cs Q := by
    intro ys
    induction ys with
    | nil =>
      intro zs cs e i
      rw [List.append_nil] at e
      subst e
      rw [List.map_nil, RL_nil]
      exact done cs i
    | cons x ys ih =>
      intro zs cs e i
      rw [List.map_cons, RL_cons]
      obtain ⟨c1, e1, o, e2, q⟩ := step zs x ys cs e i
      refine ⟨c1, e1, o, e2, ?_⟩
      cases o with
      | nx c => exact ih (zs ++ [x]) c (by rw [e]; simp) q
      | ct c => exact ih (zs ++ [x]) c (by rw [e]; simp) q
      | bk c => exact False.elim q
      | rt r c => exact False.elim q
  exact key xs [] cs rfl h0
end DS

set_option Elab.async false
set_option linter.all false
set_option maxRecDepth 100000
set_option maxHeartbeats 2000000
set_option autoImplicit false
namespace DS
open PySem PySem.Spec L2
/-! ### equality and membership of encoded data -/
def eRow (r : List Int) : D := .tup (r.map .int)
theorem pyDs_ints : ∀ r : List Int, pyDs (r.map .int) = some (r.map .int)
  | [] => rfl
  | i :: r => by simp only [List.map_cons, pyDs, pyD, pyDs_ints r]
theorem pyDs_strs : ∀ r : List Str, pyDs (r.map .str) = some (r.map .str)
  | [] => rfl
  | i :: r => by simp only [List.map_cons, pyDs, pyD, pyDs_strs r]
theorem pyDs_rows : ∀ rs : List (List Int), pyDs (rs.map eRow) = some (rs.map fun r => .tuple (r.map .int))
  | [] => rfl
  | r :: rs => by
    have h := pyDs_rows rs
    have h1 : pyD (eRow r) = some (.tuple (r.map .int)) := by
      unfold eRow
      simp only [pyD, pyDs_ints, Option.map_some]
    simp only [List.map_cons, pyDs, h, h1]
theorem lay_rows : ∀ rs : List (List Int), PyData.canLayAll0 (rs.map fun r => PyData.tuple (r.map .int)) = true
  | [] => rfl
  | r :: rs => by
    simp only [List.map_cons, PyData.canLayAll0, PyData.canLay0, PySem.W.ke_canLayAll0, lay_rows rs, Bool.and_self]
theorem depth_rows : ∀ rs : List (List Int), PyData.depthAll (rs.map fun r => PyData.tuple (r.map .int)) ≤ 1
  | [] => by simp [PyData.depthAll]
  | r :: rs => by
    have := depth_rows rs
    simp only [List.map_cons, PyData.depthAll, PyData.depth, PySem.W.ke_depthAll]
    omega
theorem shp_row (r : List Int) : shp (eRow r) = some (.tuple (r.map .int)) := by
  unfold shp eRow
  simp only [pyD, pyDs_ints, Option.map_some]
  rw [if_pos]
  simp [SeqAt.shaped, PyData.canLay0, PyData.depth, PySem.W.ke_canLayAll0, PySem.W.ke_depthAll]
theorem shp_rows (rs : List (List Int)) : shp (.tup (rs.map eRow)) = some (.tuple (rs.map fun r => .tuple (r.map .int))) := by
  unfold shp
  simp only [pyD, pyDs_rows, Option.map_some]
  rw [if_pos]
  have h := depth_rows rs
  have h2 : (PyData.tuple (rs.map fun r => .tuple (r.map .int))).depth ≤ 64 := by
    rw [PyData.depth]
    omega
  have h3 : (PyData.tuple (rs.map fun r => .tuple (r.map .int))).canLay0 = true := by
    rw [PyData.canLay0]
    exact lay_rows rs
  unfold SeqAt.shaped
  rw [h3, decide_eq_true h2]
  rfl
theorem any_rows (r : List Int) : ∀ rs : List (List Int), ((rs.map fun r => PyData.tuple (r.map .int)).any fun z => PyData.eqv z (.tuple (r.map .int))) = decide (r ∈ rs)
  | [] => by simp
  | z :: rs => by
    rw [List.map_cons, List.any_cons, any_rows r rs]
    simp only [PyData.eqv, PySem.W.ked_eqvAll, List.mem_cons]
    by_cases h : z = r
    · simp [h]
    · simp [h, Ne.symm h]
theorem pIn_rows (r : List Int) (rs : List (List Int)) (k : Res → Prop) : opK (oIn (eRow r) (.tup (rs.map eRow))) k ↔ k (.d (.bl (decide (r ∈ rs)))) := by
  have e : oInB (eRow r) (.tup (rs.map eRow)) = some (decide (r ∈ rs)) := by
    unfold oInB
    simp only [shp_row, shp_rows, pyDs_rows, any_rows]
  unfold oIn
  rw [e]
  exact opK_some _ _
def SOk (s : Str) : Prop := PyData.strOk s = true
theorem lay_strs : ∀ ns : List Str, (∀ n ∈ ns, SOk n) → PyData.canLayAll0 (ns.map PyData.str) = true
  | [], _ => rfl
  | n :: ns, h => by
    have h1 : PyData.strOk n = true := h n List.mem_cons_self
    simp only [List.map_cons, PyData.canLayAll0, PyData.canLay0, lay_strs ns fun m hm => h m (List.mem_cons_of_mem _ hm), h1, Bool.and_self]
theorem depth_strs : ∀ ns : List Str, PyData.depthAll (ns.map PyData.str) = 0
  | [] => by simp [PyData.depthAll]
  | n :: ns => by simp [PyData.depthAll, PyData.depth, depth_strs ns]
theorem shp_str {s : Str} (h : SOk s) : shp (.str s) = some (.str s) := by
  unfold shp
  simp only [pyD]
  rw [if_pos]
  have h' : PyData.strOk s = true := h
  simp [SeqAt.shaped, PyData.canLay0, PyData.depth, h']
theorem shp_strs {ns : List Str} (h : ∀ n ∈ ns, SOk n) : shp (.tup (ns.map .str)) = some (.tuple (ns.map .str)) := by
  unfold shp
  simp only [pyD, pyDs_strs, Option.map_some]
  rw [if_pos]
  simp [SeqAt.shaped, PyData.canLay0, PyData.depth, lay_strs ns h, depth_strs]
theorem any_strs (s : Str) : ∀ ns : List Str, ((ns.map PyData.str).any fun z => PyData.eqv z (.str s)) = decide (s ∈ ns)
  | [] => by simp
  | z :: ns => by
    rw [List.map_cons, List.any_cons, any_strs s ns]
    simp only [PyData.eqv, List.mem_cons]
    by_cases h : z = s
    · simp [h]
    · simp [h, Ne.symm h]
theorem oInB_strs {s : Str} {ns : List Str} (hs : SOk s) (hn : ∀ n ∈ ns, SOk n) : oInB (.str s) (.tup (ns.map .str)) = some (decide (s ∈ ns)) := by
  unfold oInB
  simp only [shp_str hs, shp_strs hn, pyDs_strs, any_strs]
theorem pIn_strs {s : Str} {ns : List Str} (hs : SOk s) (hn : ∀ n ∈ ns, SOk n) (k : Res → Prop) : opK (oIn (.str s) (.tup (ns.map .str))) k ↔ k (.d (.bl (decide (s ∈ ns)))) := by
  unfold oIn
  rw [oInB_strs hs hn]
  exact opK_some _ _
theorem pNotIn_strs {s : Str} {ns : List Str} (hs : SOk s) (hn : ∀ n ∈ ns, SOk n) (k : Res → Prop) : opK (oNotIn (.str s) (.tup (ns.map .str))) k ↔ k (.d (.bl (!decide (s ∈ ns)))) := by
  unfold oNotIn
  rw [oInB_strs hs hn]
  exact opK_some _ _
@[simp ↓] theorem pIn_dk (s : Str) (m : List (Key × D)) (k : Res → Prop) : opK (oIn (.str s) (.dk m)) k ↔ k (.d (.bl (dGet m (.inr s)).isSome)) := opK_some _ _
@[simp ↓] theorem pNotIn_dk (s : Str) (m : List (Key × D)) (k : Res → Prop) : opK (oNotIn (.str s) (.dk m)) k ↔ k (.d (.bl (!(dGet m (.inr s)).isSome))) := opK_some _ _
@[simp ↓] theorem pIx_dk (s : Str) (m : List (Key × D)) (k : Res → Prop) : opK (oIx (.dk m) (.str s)) k ↔ opK (dGet m (.inr s)) fun x => k (.d x) := by
  have e : oIx (.dk m) (.str s) = (dGet m (.inr s)).map .d := rfl
  rw [e, opK_map]
section
variable (i : Int) (b : Bool) (s : Str) (xs : List D) (m : List (Key × D)) (k : Bool → Prop) (q : Res → Prop)
@[simp ↓] theorem ty_ii : opK (isTy (.int i) .int) k ↔ k true := opK_some _ _
@[simp ↓] theorem ty_ib : opK (isTy (.int i) .bool) k ↔ k false := opK_some _ _
@[simp ↓] theorem ty_is : opK (isTy (.int i) .str) k ↔ k false := opK_some _ _
@[simp ↓] theorem ty_it : opK (isTy (.int i) .tuple) k ↔ k false := opK_some _ _
@[simp ↓] theorem ty_bi : opK (isTy (.bl b) .int) k ↔ k true := opK_some _ _
@[simp ↓] theorem ty_bb : opK (isTy (.bl b) .bool) k ↔ k true := opK_some _ _
@[simp ↓] theorem ty_si : opK (isTy (.str s) .int) k ↔ k false := opK_some _ _
@[simp ↓] theorem ty_ss : opK (isTy (.str s) .str) k ↔ k true := opK_some _ _
@[simp ↓] theorem ty_ti : opK (isTy (.tup xs) .int) k ↔ k false := opK_some _ _
@[simp ↓] theorem ty_tb : opK (isTy (.tup xs) .bool) k ↔ k false := opK_some _ _
@[simp ↓] theorem ty_tt : opK (isTy (.tup xs) .tuple) k ↔ k true := opK_some _ _
@[simp ↓] theorem ty_ts : opK (isTy (.tup xs) .str) k ↔ k false := opK_some _ _
@[simp ↓] theorem ty_kd : opK (isTy (.dk m) .dict) k ↔ k true := opK_some _ _
@[simp ↓] theorem ty_nd : opK (isTy .non .dict) k ↔ k false := opK_some _ _
@[simp ↓] theorem ty_ni : opK (isTy .non .int) k ↔ k false := opK_some _ _
@[simp ↓] theorem isN_n : opK (oIsN .non .non) q ↔ q (.d (.bl true)) := opK_some _ _
@[simp ↓] theorem isN_i : opK (oIsN (.int i) .non) q ↔ q (.d (.bl false)) := opK_some _ _
@[simp ↓] theorem isN_t : opK (oIsN (.tup xs) .non) q ↔ q (.d (.bl false)) := opK_some _ _
@[simp ↓] theorem isN_k : opK (oIsN (.dk m) .non) q ↔ q (.d (.bl false)) := opK_some _ _
@[simp ↓] theorem notN_n : opK (oNotN .non .non) q ↔ q (.d (.bl false)) := opK_some _ _
@[simp ↓] theorem notN_i : opK (oNotN (.int i) .non) q ↔ q (.d (.bl true)) := opK_some _ _
@[simp ↓] theorem notN_t : opK (oNotN (.tup xs) .non) q ↔ q (.d (.bl true)) := opK_some _ _
@[simp ↓] theorem notN_k : opK (oNotN (.dk m) .non) q ↔ q (.d (.bl true)) := opK_some _ _
@[simp ↓] theorem dget_some (x : D) (q : D → Prop) : opK (some x) q ↔ q x := opK_some _ _
end
end DS

set_option Elab.async false
set_option linter.all false
set_option maxRecDepth 100000
set_option maxHeartbeats 2000000
set_option autoImplicit false
namespace DS
open PySem PySem.Spec L2
section
variable {cs : Cs}
theorem R_fail2 {α : Type} (Q : α → Cs → Prop) : R (fun _ => none) cs Q ↔ False := R_fail Q
@[simp ↓] theorem R_chain (fa fb fc : M Res) (o1 o2 : D → D → Option Res) (Q : Res → Cs → Prop) : R (chain fa fb fc o1 o2) cs Q ↔
    R fa cs fun r1 c1 => R fb c1 fun r2 c2 => opK (view c2 (frz r1)) fun x => opK (view c2 (frz r2)) fun y => opK (o1 x y) fun z => opK (asB z) fun b =>
      if b = true then R fc c2 fun r3 c3 => opK (view c3 (frz r2)) fun y' => opK (view c3 (frz r3)) fun w => opK (o2 y' w) fun z => Q z c3 else Q (.d (.bl false)) c2 := by
  unfold chain
  simp only [R_bnd, R_asR, R_vw, R_lft]
  have e : ∀ (r1 r2 : Res) (c2 : Cs) (z : Res), R (match z with
      | .d (.bl true) => bnd (asR fc) fun r3 => bnd (vw (frz r2)) fun y' => bnd (vw r3) fun w => lft (o2 y' w)
      | .d (.bl false) => ret (.d (.bl false))
      | _ => fun _ => none) c2 Q ↔ opK (asB z) fun b => if b = true then R fc c2 fun r3 c3 => opK (view c3 (frz r2)) fun y' => opK (view c3 (frz r3)) fun w => opK (o2 y' w) fun z => Q z c3 else Q (.d (.bl false)) c2 := by
    intro r1 r2 c2 z
    have hn : R (fun _ => none) c2 Q ↔ opK (none : Option Bool) fun b => if b = true then R fc c2 fun r3 c3 => opK (view c3 (frz r2)) fun y' => opK (view c3 (frz r3)) fun w => opK (o2 y' w) fun z => Q z c3 else Q (.d (.bl false)) c2 := by
      rw [R_fail, opK_none]
    cases z with
    | s i => exact hn
    | o c => exact hn
    | d x =>
      cases x with
      | bl b =>
        cases b with
        | true =>
          show R (bnd (asR fc) fun r3 => bnd (vw (frz r2)) fun y' => bnd (vw r3) fun w => lft (o2 y' w)) c2 Q ↔ _
          simp only [R_bnd, R_asR, R_vw, R_lft]
          rw [asB_bl, opK_some, if_pos rfl]
        | false =>
          show R (ret _) c2 Q ↔ _
          rw [R_ret]
          rw [asB_bl, opK_some, if_neg (by simp)]
      | _ => exact hn
  constructor
  · rintro ⟨r1, c1, e1, r2, c2, e2, x, hx, y, hy, z, hz, q⟩
    exact ⟨r1, c1, e1, r2, c2, e2, x, hx, y, hy, z, hz, (e r1 r2 c2 z).mp q⟩
  · rintro ⟨r1, c1, e1, r2, c2, e2, x, hx, y, hy, z, hz, q⟩
    exact ⟨r1, c1, e1, r2, c2, e2, x, hx, y, hy, z, hz, (e r1 r2 c2 z).mpr q⟩
@[simp ↓] theorem R_stars (f g : M Res) (Q : Res → Cs → Prop) : R (stars f g) cs Q ↔ R f cs fun r c1 => opK (view c1 (frz r)) fun x => opK (asDk x) fun m => R g c1 fun r2 c2 => opK (view c2 (frz r2)) fun y => opK (asDk y) fun n => (dMerge [] m).length + n.length ≤ sizeLine ∧ Q (.o (.k (dMerge (dMerge [] m) n))) c2 := by
  have key : ∀ (r : Res) (c1 : Cs), R (fun cs => match dkOf (view cs r) with
      | some m => (bnd (asR g) fun r2 cs2 => match dkOf (view cs2 r2) with
          | some n => if (dMerge [] m).length + n.length ≤ sizeLine then some (Res.o (.k (dMerge (dMerge [] m) n)), cs2) else none
          | none => none) cs
      | none => none) c1 Q ↔ opK (view c1 r) fun x => opK (asDk x) fun m => R g c1 fun r2 c2 => opK (view c2 (frz r2)) fun y => opK (asDk y) fun n => (dMerge [] m).length + n.length ≤ sizeLine ∧ Q (.o (.k (dMerge (dMerge [] m) n))) c2 := by
    intro r c1
    rw [← dkOf_as]
    cases hd : dkOf (view c1 r) with
    | none =>
      rw [opK_none]
      unfold R
      dsimp only
      rw [hd]
      exact ⟨fun ⟨_, _, e, _⟩ => (nomatch e), fun q => False.elim q⟩
    | some m =>
      rw [opK_some]
      have e : R (fun cs => match dkOf (view cs r) with
      | some m => (bnd (asR g) fun r2 cs2 => match dkOf (view cs2 r2) with
          | some n => if (dMerge [] m).length + n.length ≤ sizeLine then some (Res.o (.k (dMerge (dMerge [] m) n)), cs2) else none
          | none => none) cs
      | none => none) c1 Q ↔ R (bnd (asR g) fun r2 cs2 => match dkOf (view cs2 r2) with
          | some n => if (dMerge [] m).length + n.length ≤ sizeLine then some (Res.o (.k (dMerge (dMerge [] m) n)), cs2) else none
          | none => none) c1 Q := by
        unfold R
        dsimp only
        rw [hd]
      rw [e, R_bnd, R_asR]
      have e2 : ∀ (r2 : Res) (c2 : Cs), R (fun cs2 => match dkOf (view cs2 r2) with
          | some n => if (dMerge [] m).length + n.length ≤ sizeLine then some (Res.o (.k (dMerge (dMerge [] m) n)), cs2) else none
          | none => none) c2 Q ↔ opK (view c2 r2) fun y => opK (asDk y) fun n => (dMerge [] m).length + n.length ≤ sizeLine ∧ Q (.o (.k (dMerge (dMerge [] m) n))) c2 := by
        intro r2 c2
        rw [← dkOf_as]
        cases hd2 : dkOf (view c2 r2) with
        | none =>
          rw [opK_none]
          unfold R
          dsimp only
          rw [hd2]
          exact ⟨fun ⟨_, _, e, _⟩ => (nomatch e), fun q => False.elim q⟩
        | some n =>
          rw [opK_some]
          unfold R
          dsimp only
          rw [hd2]
          dsimp only
          by_cases hl : (dMerge [] m).length + n.length ≤ sizeLine
          · rw [if_pos hl]
            exact ⟨fun ⟨_, _, e, q⟩ => by cases e; exact ⟨hl, q⟩, fun q => ⟨_, _, rfl, q.2⟩⟩
          · rw [if_neg hl]
            exact ⟨fun ⟨_, _, e, _⟩ => (nomatch e), fun q => absurd q.1 hl⟩
      exact ⟨fun ⟨r2, c2, e, q⟩ => ⟨r2, c2, e, (e2 _ _).mp q⟩, fun ⟨r2, c2, e, q⟩ => ⟨r2, c2, e, (e2 _ _).mpr q⟩⟩
  unfold stars
  rw [R_bnd, R_asR]
  exact ⟨fun ⟨r, c1, e, q⟩ => ⟨r, c1, e, (key _ _).mp q⟩, fun ⟨r, c1, e, q⟩ => ⟨r, c1, e, (key _ _).mpr q⟩⟩
/-! lending -/
def onL (f : M Res) (i : Nat) (cs : Cs) (Q : Res → Cs → Prop) : Option Cell → Prop
  | some (.o _ c) => R f (lent cs i c.fz) fun r _ => onD (fun x => flat x = true ∧ Q (.d x) cs) r
  | _ => R f cs Q
theorem R_bor (i : Nat) (f : M Res) (Q : Res → Cs → Prop) : R (bor i f) cs Q ↔ onL f i cs Q cs[i]? := by
  unfold R bor
  cases h : cs[i]? with
  | none => exact Iff.rfl
  | some c =>
    cases c with
    | un => exact Iff.rfl
    | d x => exact Iff.rfl
    | o io c =>
      dsimp only
      constructor
      · rintro ⟨r, c1, e, q⟩
        split at e
        · rename_i x c2 e2
          split at e
          · rename_i hf; cases e; exact ⟨_, _, e2, hf, q⟩
          · cases e
        · cases e
      · rintro ⟨r, c1, e, q⟩
        cases r with
        | d x => exact ⟨_, _, by rw [e]; dsimp only; rw [if_pos q.1], q.2⟩
        | o c => exact False.elim q
        | s i => exact False.elim q
theorem R_bor_o {i : Nat} {f : M Res} {io : Bool} {c : O} {Q : Res → Cs → Prop} (h : cs[i]? = some (.o io c)) : R (bor i f) cs Q ↔ R f (lent cs i c.fz) fun r _ => onD (fun x => flat x = true ∧ Q (.d x) cs) r := by
  rw [R_bor, h]
  exact Iff.rfl
theorem R_bor_d {i : Nat} {f : M Res} {x : D} {Q : Res → Cs → Prop} (h : cs[i]? = some (.d x)) : R (bor i f) cs Q ↔ R f cs Q := by
  rw [R_bor, h]
  exact Iff.rfl
end
/-! more of the data rules -/
section
variable (xs ys : List D) (m : List (Key × D)) (k : Res → Prop)
theorem blsD_map : ∀ bs : List Bool, blsD (bs.map .bl) = some bs
  | [] => rfl
  | b :: bs => by simp only [List.map_cons, blsD, blsD_map bs]
theorem pAll_bl (bs : List Bool) : opK (oAll [.lst (bs.map .bl)]) k ↔ k (.d (.bl (bs.all id))) := by
  have e : oAll [.lst (bs.map .bl)] = some (.d (.bl (bs.all id))) := by
    unfold oAll
    simp only [blsD_map]
  rw [e]
  exact opK_some _ _
@[simp ↓] theorem pSet_k (s : Str) (v : D) (k : O → Prop) : opK (opSet (.k m) (.str s) v) k ↔ m.length < sizeLine ∧ k (.k (dPut m (.inr s) v)) := opK_ite _ _ _
@[simp ↓] theorem it_k (k : List D → Prop) : opK (itemsD (.dk m)) k ↔ k (m.map fun kv => keyD kv.1) := opK_some _ _
@[simp ↓] theorem pLst_k : opK (oList [.dk m]) k ↔ k (.o (.l (m.map fun kv => keyD kv.1))) := opK_some _ _
@[simp ↓] theorem pMax2 (i j : Int) : opK (oMax2 [.int i, .int j]) k ↔ k (.d (.int (if j > i then j else i))) := opK_some _ _
theorem keysD_strs : ∀ ns : List Str, keysD (ns.map .str) = some (ns.map .inr)
  | [] => rfl
  | n :: ns => by
    have e : dKey (.str n) = some (.inr n) := rfl
    simp only [List.map_cons, keysD, keysD_strs ns, e]
theorem pDictZip (ns : List Str) : opK (oDictZip [.tup (ns.map .str), .tup ys]) k ↔ k (.o (.k (dMerge [] ((ns.map Sum.inr).zip ys)))) := by
  have e : oDictZip [.tup (ns.map .str), .tup ys] = some (.o (.k (dMerge [] ((ns.map Sum.inr).zip ys)))) := by
    unfold oDictZip
    simp only [keysD_strs]
  rw [e]
  exact opK_some _ _
end
/-! ### dicts of names and ints -/
abbrev Ps := List (Str × Int)
def mkd (ps : Ps) : List (Key × D) := ps.map fun p => (.inr p.1, .int p.2)
def look (ps : Ps) (n : Str) : Option Int := (ps.find? fun p => decide (p.1 = n)).map (·.2)
def put (ps : Ps) (s : Str) (v : Int) : Ps := if (ps.any fun p => decide (p.1 = s)) = true then ps.map (fun p => if p.1 = s then (p.1, v) else p) else ps ++ [(s, v)]
def mrg (ps qs : Ps) : Ps := qs.foldl (fun a q => put a q.1 q.2) ps
def Nd (ps : Ps) : Prop := (ps.map (·.1)).Nodup
theorem mkd_len (ps : Ps) : (mkd ps).length = ps.length := List.length_map _
theorem mkd_keys (ps : Ps) : (mkd ps).map (fun kv => keyD kv.1) = (ps.map (·.1)).map .str := by
  unfold mkd
  rw [List.map_map, List.map_map]
  rfl
theorem inr_dec (a b : Str) : decide ((Sum.inr a : Key) = .inr b) = decide (a = b) := by
  by_cases h : a = b
  · simp [h]
  · have : ¬ (Sum.inr a : Key) = .inr b := fun e => h (Sum.inr.inj e)
    simp [h, this]
theorem mkd_get (ps : Ps) (n : Str) : dGet (mkd ps) (.inr n) = (look ps n).map .int := by
  unfold dGet look mkd
  induction ps with
  | nil => rfl
  | cons p ps ih =>
    rw [List.map_cons, List.find?_cons, List.find?_cons, inr_dec]
    cases decide (p.1 = n) with
    | true => rfl
    | false => exact ih
theorem mkd_any (ps : Ps) (s : Str) : ((mkd ps).any fun kv => decide (kv.1 = .inr s)) = ps.any fun p => decide (p.1 = s) := by
  unfold mkd
  rw [List.any_map]
  congr 1
  funext p
  exact inr_dec _ _
theorem mkd_put (ps : Ps) (s : Str) (v : Int) : dPut (mkd ps) (.inr s) (.int v) = mkd (put ps s v) := by
  unfold dPut put
  rw [mkd_any]
  split
  · unfold mkd
    rw [List.map_map, List.map_map]
    apply List.map_congr_left
    intro p _
    show (if (Sum.inr p.1 : Key) = .inr s then _ else _) = _
    by_cases h : p.1 = s
    · simp [h]
    · have : ¬ (Sum.inr p.1 : Key) = .inr s := fun e => h (Sum.inr.inj e)
      simp [h]
  · unfold mkd
    simp
theorem mkd_mrg (qs : Ps) : ∀ ps : Ps, dMerge (mkd ps) (mkd qs) = mkd (mrg ps qs) := by
  induction qs with
  | nil => intro ps; rfl
  | cons q qs ih =>
    intro ps
    show dMerge (dPut (mkd ps) (.inr q.1) (.int q.2)) (mkd qs) = mkd (mrg (put ps q.1 q.2) qs)
    rw [mkd_put, ih]
theorem any_look (ps : Ps) (s : Str) : (ps.any fun p => decide (p.1 = s)) = (look ps s).isSome := by
  unfold look
  induction ps with
  | nil => rfl
  | cons p ps ih =>
    rw [List.any_cons, List.find?_cons]
    cases decide (p.1 = s) with
    | true => rfl
    | false => rw [Bool.false_or]; exact ih
theorem look_nil (n : Str) : look [] n = none := rfl
theorem look_cons (p : Str × Int) (ps : Ps) (n : Str) : look (p :: ps) n = if p.1 = n then some p.2 else look ps n := by
  unfold look
  rw [List.find?_cons]
  by_cases h : p.1 = n
  · simp [h]
  · simp [h]
theorem look_app (ps qs : Ps) (n : Str) : look (ps ++ qs) n = (look ps n).or (look qs n) := by
  induction ps with
  | nil => rfl
  | cons p ps ih =>
    rw [List.cons_append, look_cons, look_cons, ih]
    split <;> rfl
theorem look_set (s : Str) (v : Int) (n : Str) : ∀ ps : Ps, look (ps.map fun p => if p.1 = s then (p.1, v) else p) n = if n = s then (look ps n).map fun _ => v else look ps n
  | [] => by simp [look_nil]
  | p :: ps => by
    rw [List.map_cons, look_cons, look_cons, look_set s v n ps]
    by_cases h1 : p.1 = s
    · by_cases h2 : n = s
      · simp [h1, h2]
      · have : ¬ s = n := fun e => h2 e.symm
        simp [h1, h2, this]
    · by_cases h2 : n = s
      · have : ¬ p.1 = n := fun e => h1 (e.trans h2)
        simp [h1, h2]
      · simp [h1, h2]
theorem look_put (ps : Ps) (s : Str) (v : Int) (n : Str) : look (put ps s v) n = if n = s then some v else look ps n := by
  unfold put
  rw [any_look]
  by_cases hs : (look ps s).isSome = true
  · rw [if_pos hs, look_set]
    by_cases h : n = s
    · subst h
      rw [if_pos rfl, if_pos rfl]
      obtain ⟨x, e⟩ := Option.isSome_iff_exists.mp hs
      rw [e]
      rfl
    · rw [if_neg h, if_neg h]
  · rw [if_neg hs, look_app, look_cons, look_nil]
    have e : look ps s = none := by simpa using hs
    by_cases h : n = s
    · subst h
      rw [e]
      simp
    · have : ¬ s = n := fun z => h z.symm
      simp [h, this]
theorem look_none {ps : Ps} {n : Str} : look ps n = none ↔ n ∉ ps.map (·.1) := by
  induction ps with
  | nil => simp [look_nil]
  | cons p ps ih =>
    rw [look_cons, List.map_cons, List.mem_cons]
    by_cases h : p.1 = n
    · simp [h]
    · have : ¬ n = p.1 := fun e => h e.symm
      rw [if_neg h, ih]
      simp [this]
theorem put_keys (ps : Ps) (s : Str) (v : Int) : (put ps s v).map (·.1) = if (look ps s).isSome = true then ps.map (·.1) else ps.map (·.1) ++ [s] := by
  unfold put
  rw [any_look]
  split
  · rw [List.map_map]
    apply List.map_congr_left
    intro p _
    dsimp only [Function.comp]
    split <;> rfl
  · simp
theorem put_nd {ps : Ps} (h : Nd ps) (s : Str) (v : Int) : Nd (put ps s v) := by
  unfold Nd
  rw [put_keys]
  split
  · exact h
  · rename_i hs
    have e : look ps s = none := by simpa using hs
    have := look_none.mp e
    refine List.nodup_append.mpr ⟨h, by simp, ?_⟩
    intro a ha b hb
    rw [List.mem_singleton] at hb
    subst hb
    intro e
    subst e
    exact this ha
theorem put_len (ps : Ps) (s : Str) (v : Int) : (put ps s v).length ≤ ps.length + 1 := by
  have := congrArg List.length (put_keys ps s v)
  rw [List.length_map] at this
  rw [this]
  split <;> simp
theorem put_new {ps : Ps} {s : Str} (h : look ps s = none) (v : Int) : put ps s v = ps ++ [(s, v)] := by
  unfold put
  rw [any_look, h]
  rfl
theorem mrg_nd (qs : Ps) : ∀ ps : Ps, Nd (ps ++ qs) → mrg ps qs = ps ++ qs := by
  induction qs with
  | nil => intro ps _; simp [mrg]
  | cons q qs ih =>
    intro ps h
    have hq : look ps q.1 = none := by
      rw [look_none]
      intro hm
      unfold Nd at h
      rw [List.map_append, List.nodup_append] at h
      exact h.2.2 _ hm q.1 (by simp) rfl
    show mrg (put ps q.1 q.2) qs = _
    rw [put_new hq, ih]
    · simp
    · simpa using h
theorem mrg_nil {ps : Ps} (h : Nd ps) : mrg [] ps = ps := by
  have := mrg_nd ps [] (by simpa using h)
  simpa using this
theorem mrg_len (qs : Ps) : ∀ ps : Ps, (mrg ps qs).length ≤ ps.length + qs.length := by
  induction qs with
  | nil => intro ps; simp [mrg]
  | cons q qs ih =>
    intro ps
    have h1 := ih (put ps q.1 q.2)
    have h2 := put_len ps q.1 q.2
    show (mrg (put ps q.1 q.2) qs).length ≤ _
    rw [List.length_cons]
    omega
theorem mrg_ndd (qs : Ps) : ∀ ps : Ps, Nd ps → Nd (mrg ps qs) := by
  induction qs with
  | nil => intro ps h; exact h
  | cons q qs ih => intro ps h; exact ih _ (put_nd h _ _)
theorem look_mrg (qs : Ps) : ∀ (ps : Ps) (n : Str), Nd qs → look (mrg ps qs) n = (look qs n).or (look ps n) := by
  induction qs with
  | nil => intro ps n _; rfl
  | cons q qs ih =>
    intro ps n h
    have h2 : Nd qs := (List.nodup_cons.mp h).2
    have h3 : q.1 ∉ qs.map (·.1) := (List.nodup_cons.mp h).1
    show look (mrg (put ps q.1 q.2) qs) n = _
    rw [ih _ _ h2, look_put, look_cons]
    by_cases e : n = q.1
    · subst e
      rw [look_none.mpr h3]
      simp
    · have : ¬ q.1 = n := fun z => e z.symm
      simp [e, this]
end DS

set_option Elab.async false
set_option linter.all false
set_option maxRecDepth 100000
set_option maxHeartbeats 2000000
set_option autoImplicit false
namespace DS
open PySem PySem.Spec L2
/-- a comprehension over encoded items that changes nothing -/
theorem lc_enc {α : Type} {own : List Nat} {h : D → Cs → Option Cs} {t : M Bool} {f : M D} {Q : List D → Cs → Prop} {as : List α} {cs : Cs} (enc : α → D) (p : α → Bool) (v : α → D) (no : noOw cs own = true) (hl : as.length ≤ sizeLine)
    (step : ∀ a ∈ as, RG h (enc a) (wipeC cs own) fun c1 => R t c1 fun b c2 => b = p a ∧ if b = true then R f c2 fun y c3 => y = v a ∧ reC cs own c3 = cs else reC cs own c2 = cs) (q : Q ((as.filter p).map v) cs) : RLc own h t f (as.map enc) [] cs Q := by
  refine lc_inv (fun ys acc c => c = cs ∧ ∃ zs ys', as = zs ++ ys' ∧ ys = ys'.map enc ∧ acc = (zs.filter p).map v) ?_ ?_ _ [] cs ⟨rfl, [], as, rfl, rfl, rfl⟩
  · rintro x ys acc c ⟨rfl, zs, ys', e, e2, rfl⟩
    cases ys' with
    | nil => cases e2
    | cons a ys' =>
      rw [List.map_cons] at e2
      obtain ⟨rfl, rfl⟩ := List.cons.inj e2
      refine ⟨no, ?_⟩
      obtain ⟨c1, h1, b, c2, h2, hb, s⟩ := step a (by rw [e]; simp)
      refine ⟨c1, h1, b, c2, h2, ?_⟩
      have e' : as = (zs ++ [a]) ++ ys' := by rw [e]; simp
      cases b with
      | false =>
        have s' : reC c own c2 = c := s
        dsimp only
        rw [if_neg (by simp)]
        exact ⟨s', zs ++ [a], ys', e', rfl, by simp [List.filter_append, ← hb]⟩
      | true =>
        have s' : R f c2 fun y c3 => y = v a ∧ reC c own c3 = c := s
        obtain ⟨y, c3, h3, rfl, s2⟩ := s'
        dsimp only
        rw [if_pos rfl]
        refine ⟨_, c3, h3, ?_, s2, zs ++ [a], ys', e', rfl, by simp [List.filter_append, ← hb]⟩
        have l1 : ((zs.filter p).map v).length ≤ zs.length := by rw [List.length_map]; exact List.length_filter_le _ _
        have l2 : zs.length + 1 ≤ as.length := by rw [e']; simp
        omega
  · rintro acc c ⟨rfl, zs, ys', e, e2, rfl⟩
    cases ys' with
    | nil =>
      rw [List.append_nil] at e
      rw [← e]
      exact q
    | cons a ys' => cases e2
/-- a comprehension with draws: what the items and the cells may be -/
theorem lc_gen {α : Type} {own : List Nat} {h : D → Cs → Option Cs} {t : M Bool} {f : M D} {Q : List D → Cs → Prop} {as : List α} (enc : α → D) (I : Cs → Prop) (P : D → Prop) (hl : as.length ≤ sizeLine)
    (step : ∀ a ∈ as, ∀ cs, I cs → noOw cs own = true ∧ RG h (enc a) (wipeC cs own) fun c1 => R t c1 fun b c2 => if b = true then R f c2 fun y c3 => P y ∧ I (reC cs own c3) else I (reC cs own c2))
    (q : ∀ ys cs, (∀ y ∈ ys, P y) → ys.length ≤ as.length → I cs → Q ys cs) {cs : Cs} (i0 : I cs) : RLc own h t f (as.map enc) [] cs Q := by
  refine lc_inv (fun ys acc c => I c ∧ (∀ y ∈ acc, P y) ∧ ∃ zs ys', as = zs ++ ys' ∧ ys = ys'.map enc ∧ acc.length ≤ zs.length) ?_ ?_ _ [] cs ⟨i0, by simp, [], as, rfl, rfl, by simp⟩
  · rintro x ys acc c ⟨i, hp, zs, ys', e, e2, hz⟩
    cases ys' with
    | nil => cases e2
    | cons a ys' =>
      rw [List.map_cons] at e2
      obtain ⟨rfl, rfl⟩ := List.cons.inj e2
      obtain ⟨no, c1, h1, b, c2, h2, s⟩ := step a (by rw [e]; simp) c i
      refine ⟨no, c1, h1, b, c2, h2, ?_⟩
      have e' : as = (zs ++ [a]) ++ ys' := by rw [e]; simp
      cases b with
      | false =>
        have s' : I (reC c own c2) := s
        dsimp only
        rw [if_neg (by simp)]
        exact ⟨s', hp, zs ++ [a], ys', e', rfl, by simp; omega⟩
      | true =>
        have s' : R f c2 fun y c3 => P y ∧ I (reC c own c3) := s
        obtain ⟨y, c3, h3, py, s2⟩ := s'
        dsimp only
        rw [if_pos rfl]
        refine ⟨_, c3, h3, ?_, s2, ?_, zs ++ [a], ys', e', rfl, by simp; omega⟩
        · have l2 : zs.length + 1 ≤ as.length := by rw [e']; simp
          omega
        · intro z hz
          rcases List.mem_append.mp hz with hz | hz
          · exact hp z hz
          · rw [List.mem_singleton.mp hz]; exact py
  · rintro acc c ⟨i, hp, zs, ys', e, e2, hz⟩
    exact q acc c hp (by rw [e]; simp; omega) i
end DS

set_option Elab.async false
set_option linter.all false
set_option maxRecDepth 100000
set_option maxHeartbeats 2000000
set_option autoImplicit false
namespace DS
open PySem PySem.Spec L2
/-- a comprehension without a test, with draws -/
theorem lc_all {α : Type} {own : List Nat} {h : D → Cs → Option Cs} {t : M Bool} {f : M D} {Q : List D → Cs → Prop} {as : List α} (enc : α → D) (I : Cs → Prop) (P : D → Prop) (hl : as.length ≤ sizeLine)
    (step : ∀ a ∈ as, ∀ cs, I cs → noOw cs own = true ∧ RG h (enc a) (wipeC cs own) fun c1 => R t c1 fun b c2 => b = true ∧ R f c2 fun y c3 => P y ∧ I (reC cs own c3))
    (q : ∀ ys cs, (∀ y ∈ ys, P y) → ys.length = as.length → I cs → Q ys cs) {cs : Cs} (i0 : I cs) : RLc own h t f (as.map enc) [] cs Q := by
  refine lc_inv (fun ys acc c => I c ∧ (∀ y ∈ acc, P y) ∧ ∃ zs ys', as = zs ++ ys' ∧ ys = ys'.map enc ∧ acc.length = zs.length) ?_ ?_ _ [] cs ⟨i0, by simp, [], as, rfl, rfl, by simp⟩
  · rintro x ys acc c ⟨i, hp, zs, ys', e, e2, hz⟩
    cases ys' with
    | nil => cases e2
    | cons a ys' =>
      rw [List.map_cons] at e2
      obtain ⟨rfl, rfl⟩ := List.cons.inj e2
      obtain ⟨no, c1, h1, b, c2, h2, hb, s⟩ := step a (by rw [e]; simp) c i
      subst hb
      refine ⟨no, c1, h1, true, c2, h2, ?_⟩
      have e' : as = (zs ++ [a]) ++ ys' := by rw [e]; simp
      obtain ⟨y, c3, h3, py, s2⟩ := s
      dsimp only
      rw [if_pos rfl]
      refine ⟨_, c3, h3, ?_, s2, ?_, zs ++ [a], ys', e', rfl, by simp; omega⟩
      · have l2 : zs.length + 1 ≤ as.length := by rw [e']; simp
        omega
      · intro z hz
        rcases List.mem_append.mp hz with hz | hz
        · exact hp z hz
        · rw [List.mem_singleton.mp hz]; exact py
  · rintro acc c ⟨i, hp, zs, ys', e, e2, hz⟩
    cases ys' with
    | nil => exact q acc c hp (by rw [e]; simp; omega) i
    | cons a ys' => cases e2
end DS

set_option Elab.async false
set_option linter.all false
set_option maxRecDepth 100000
set_option maxHeartbeats 2000000
set_option autoImplicit false
namespace DS
open PySem PySem.Spec L2
/-- a loop that leaves for good at the first item of a kind -/
theorem RL_find {α : Type} (enc : α → D) (p : α → Bool) (P : Cs → Prop) {h : D → Cs → Option Cs} {g : S} {Q : Out → Prop} : ∀ (xs : List α) (cs : Cs),
    (∀ x ∈ xs, p x = false → ∀ cs, P cs → RG h (enc x) cs fun c1 => RS g c1 (turn (fun _ => False) P)) →
    (∀ x ∈ xs, p x = true → ∀ cs, P cs → RG h (enc x) cs fun c1 => RS g c1 (turn Q fun _ => False)) → P cs →
    ((∀ x ∈ xs, p x = false) → ∀ c, P c → Q (.nx c)) → RL h g (xs.map enc) cs Q
  | [], cs, _, _, hp, h1 => by
    rw [List.map_nil, RL_nil]
    exact h1 (by simp) cs hp
  | x :: xs, cs, s0, s1, hp, h1 => by
    rw [List.map_cons, RL_cons]
    cases hb : p x with
    | true =>
      obtain ⟨c1, e1, o, e2, q⟩ := s1 x List.mem_cons_self hb cs hp
      refine ⟨c1, e1, o, e2, ?_⟩
      cases o with
      | nx c => exact False.elim q
      | ct c => exact False.elim q
      | bk c => exact q
      | rt z c => exact q
    | false =>
      obtain ⟨c1, e1, o, e2, q⟩ := s0 x List.mem_cons_self hb cs hp
      refine ⟨c1, e1, o, e2, ?_⟩
      have go : ∀ c, P c → RL h g (xs.map enc) c Q := fun c hc =>
        RL_find enc p P xs c (fun y hy => s0 y (List.mem_cons_of_mem _ hy)) (fun y hy => s1 y (List.mem_cons_of_mem _ hy)) hc (fun hall => h1 fun y hy => by
          rcases List.mem_cons.mp hy with rfl | hy
          · exact hb
          · exact hall y hy)
      cases o with
      | nx c => exact go c q
      | ct c => exact go c q
      | bk c => exact False.elim q
      | rt z c => exact False.elim q
theorem nodup_le {α : Type} [DecidableEq α] : ∀ {xs ys : List α}, xs.Nodup → (∀ x ∈ xs, x ∈ ys) → xs.length ≤ ys.length
  | [], _, _, _ => Nat.zero_le _
  | x :: xs, ys, hn, hs => by
    have hx := hs x List.mem_cons_self
    have h2 := List.nodup_cons.mp hn
    have := nodup_le (xs := xs) (ys := ys.erase x) h2.2 (fun y hy => by
      have hne : y ≠ x := fun e => h2.1 (e ▸ hy)
      exact (List.mem_erase_of_ne hne).mpr (hs y (List.mem_cons_of_mem _ hy)))
    rw [List.length_erase_of_mem hx] at this
    have hp : 0 < ys.length := List.length_pos_of_mem hx
    rw [List.length_cons]
    omega
end DS

set_option Elab.async false
set_option linter.all false
set_option maxRecDepth 100000
set_option maxHeartbeats 2000000
set_option autoImplicit false
namespace DS
open PySem PySem.Spec L2
/-- a comprehension that keeps some of its items, with draws -/
theorem lc_sub {α : Type} {own : List Nat} {h : D → Cs → Option Cs} {t : M Bool} {f : M D} {Q : List D → Cs → Prop} {as : List α} (enc : α → D) (I : Cs → Prop) (hl : as.length ≤ sizeLine)
    (step : ∀ a ∈ as, ∀ cs, I cs → noOw cs own = true ∧ RG h (enc a) (wipeC cs own) fun c1 => R t c1 fun b c2 => if b = true then R f c2 fun y c3 => y = enc a ∧ I (reC cs own c3) else I (reC cs own c2))
    (q : ∀ (ys : List α) cs, ys.Sublist as → I cs → Q (ys.map enc) cs) {cs : Cs} (i0 : I cs) : RLc own h t f (as.map enc) [] cs Q := by
  refine lc_inv (fun ys acc c => I c ∧ ∃ bs zs ys', as = zs ++ ys' ∧ ys = ys'.map enc ∧ bs.Sublist zs ∧ acc = bs.map enc) ?_ ?_ _ [] cs ⟨i0, [], [], as, rfl, rfl, List.Sublist.refl _, rfl⟩
  · rintro x ys acc c ⟨i, bs, zs, ys', e, e2, hz, rfl⟩
    cases ys' with
    | nil => cases e2
    | cons a ys' =>
      rw [List.map_cons] at e2
      obtain ⟨rfl, rfl⟩ := List.cons.inj e2
      obtain ⟨no, c1, h1, b, c2, h2, s⟩ := step a (by rw [e]; simp) c i
      refine ⟨no, c1, h1, b, c2, h2, ?_⟩
      have e' : as = (zs ++ [a]) ++ ys' := by rw [e]; simp
      cases b with
      | false =>
        have s' : I (reC c own c2) := s
        dsimp only
        rw [if_neg (by simp)]
        exact ⟨s', bs, zs ++ [a], ys', e', rfl, hz.trans (List.sublist_append_left _ _), rfl⟩
      | true =>
        have s' : R f c2 fun y c3 => y = enc a ∧ I (reC c own c3) := s
        obtain ⟨y, c3, h3, rfl, s2⟩ := s'
        dsimp only
        rw [if_pos rfl]
        refine ⟨_, c3, h3, ?_, s2, bs ++ [a], zs ++ [a], ys', e', rfl, hz.append (List.Sublist.refl _), by simp⟩
        have l2 : zs.length + 1 ≤ as.length := by rw [e']; simp
        have := hz.length_le
        rw [List.length_map]
        omega
  · rintro acc c ⟨i, bs, zs, ys', e, e2, hz, rfl⟩
    cases ys' with
    | nil =>
      rw [List.append_nil] at e
      subst e
      exact q bs c hz i
    | cons a ys' => cases e2
end DS

set_option Elab.async false
set_option linter.all false
set_option maxRecDepth 100000
set_option maxHeartbeats 4000000
set_option autoImplicit false
namespace K21
open PySem PySem.Spec L2 DS

/-! printed by gen.py from the program of law_k21_trees_of_cases -/
def top (i : Nat) : Stmt := PySem.Challenge.pw_shadowplays_k21_trees_of_cases.main.body.getD i (.Pass ⟨0, 0, 0, 0⟩)
/-- where the top has put things -/
structure Ad where
  f__law_source : Addr
  d__law_source : FuncData
  f__law_all_rows : Addr
  d__law_all_rows : FuncData
  f__law_values : Addr
  d__law_values : FuncData
  f__law_fits : Addr
  d__law_fits : FuncData
  f__law_solutions : Addr
  d__law_solutions : FuncData
  f__law_draw : Addr
  d__law_draw : FuncData
  f__law_some : Addr
  d__law_some : FuncData
  f__law_table : Addr
  d__law_table : FuncData
  f__law_question : Addr
  d__law_question : FuncData
  f_Rows_holds : Addr
  d_Rows_holds : FuncData
  f_agrees : Addr
  d_agrees : FuncData
  f_can_hold : Addr
  d_can_hold : FuncData
  f_Rows_tree_of : Addr
  d_Rows_tree_of : FuncData
  f_Rows_certificate : Addr
  d_Rows_certificate : FuncData
  f_merge_names : Addr
  d_merge_names : FuncData
  f_join_tables : Addr
  d_join_tables : FuncData
  f_all_rows : Addr
  d_all_rows : FuncData
  f_Rows_normal : Addr
  d_Rows_normal : FuncData
  f_Rows_counterexample : Addr
  d_Rows_counterexample : FuncData
  f__law_can_hold : Addr
  d__law_can_hold : FuncData
  f__law_made : Addr
  d__law_made : FuncData
  f__law_order : Addr
  d__law_order : FuncData
  f_Rows_tree_shows : Addr
  d_Rows_tree_shows : FuncData
  f_Rows_accepts : Addr
  d_Rows_accepts : FuncData
  f__law_is_int : Addr
  d__law_is_int : FuncData
  f__law_breaks : Addr
  d__law_breaks : FuncData
  f__law_rows_show : Addr
  d__law_rows_show : FuncData
  f__law_leaf : Addr
  d__law_leaf : FuncData
  f__law_spoilt : Addr
  d__law_spoilt : FuncData
  f__law_changed : Addr
  d__law_changed : FuncData
  f__law_grown : Addr
  d__law_grown : FuncData
  f__law_is_tree : Addr
  d__law_is_tree : FuncData
  f_law : Addr
  d_law : FuncData
  C_Rows : Addr
  a_VALUES : Addr
def c_VALUES : D := .tup [.int 0, .int 1, .int 2]
def cv_VALUES : List V := [.int 0, .int 1, .int 2]
abbrev s__law_source : Stmt := top 14
abbrev s__law_all_rows : Stmt := top 20
abbrev s__law_values : Stmt := top 22
abbrev s__law_fits : Stmt := top 23
abbrev s__law_solutions : Stmt := top 24
abbrev s__law_draw : Stmt := top 15
abbrev s__law_some : Stmt := top 16
abbrev s__law_table : Stmt := top 21
abbrev s__law_question : Stmt := top 25
abbrev s_Rows_holds : Stmt := inClass (top 12) 3
abbrev s_agrees : Stmt := top 8
abbrev s_can_hold : Stmt := top 9
abbrev s_Rows_tree_of : Stmt := inClass (top 12) 11
abbrev s_Rows_certificate : Stmt := inClass (top 12) 10
abbrev s_merge_names : Stmt := top 4
abbrev s_join_tables : Stmt := top 10
abbrev s_all_rows : Stmt := top 7
abbrev s_Rows_normal : Stmt := inClass (top 12) 9
abbrev s_Rows_counterexample : Stmt := inClass (top 12) 14
abbrev s__law_can_hold : Stmt := top 18
abbrev s__law_made : Stmt := top 26
abbrev s__law_order : Stmt := top 33
abbrev s_Rows_tree_shows : Stmt := inClass (top 12) 13
abbrev s_Rows_accepts : Stmt := inClass (top 12) 12
abbrev s__law_is_int : Stmt := top 17
abbrev s__law_breaks : Stmt := top 32
abbrev s__law_rows_show : Stmt := top 19
abbrev s__law_leaf : Stmt := top 27
abbrev s__law_spoilt : Stmt := top 28
abbrev s__law_changed : Stmt := top 29
abbrev s__law_grown : Stmt := top 30
abbrev s__law_is_tree : Stmt := top 31
abbrev s_law : Stmt := top 34
structure Tx (K : PySem.W.Frag) (mg : Str → Option Value) (A : Ad) : Prop where
  F__law_source : Fun K "_law_source" "_law_source" s__law_source A.f__law_source A.d__law_source
  b__law_source : Binds K A.d__law_source ["script", "k"] []
  m__law_source : mg "_law_source" = some (.ref A.f__law_source)
  F__law_all_rows : Fun K "_law_all_rows" "_law_all_rows" s__law_all_rows A.f__law_all_rows A.d__law_all_rows
  b__law_all_rows : Binds K A.d__law_all_rows ["count"] []
  m__law_all_rows : mg "_law_all_rows" = some (.ref A.f__law_all_rows)
  F__law_values : Fun K "_law_values" "_law_values" s__law_values A.f__law_values A.d__law_values
  b__law_values : Binds K A.d__law_values ["names", "row"] []
  m__law_values : mg "_law_values" = some (.ref A.f__law_values)
  F__law_fits : Fun K "_law_fits" "_law_fits" s__law_fits A.f__law_fits A.d__law_fits
  b__law_fits : Binds K A.d__law_fits ["table", "values"] []
  m__law_fits : mg "_law_fits" = some (.ref A.f__law_fits)
  F__law_solutions : Fun K "_law_solutions" "_law_solutions" s__law_solutions A.f__law_solutions A.d__law_solutions
  b__law_solutions : Binds K A.d__law_solutions ["theory"] []
  m__law_solutions : mg "_law_solutions" = some (.ref A.f__law_solutions)
  F__law_draw : Fun K "_law_draw" "_law_draw" s__law_draw A.f__law_draw A.d__law_draw
  b__law_draw : Binds K A.d__law_draw ["source", "limit"] []
  m__law_draw : mg "_law_draw" = some (.ref A.f__law_draw)
  F__law_some : Fun K "_law_some" "_law_some" s__law_some A.f__law_some A.d__law_some
  b__law_some : Binds K A.d__law_some ["source", "names", "most"] []
  m__law_some : mg "_law_some" = some (.ref A.f__law_some)
  F__law_table : Fun K "_law_table" "_law_table" s__law_table A.f__law_table A.d__law_table
  b__law_table : Binds K A.d__law_table ["source", "names"] []
  m__law_table : mg "_law_table" = some (.ref A.f__law_table)
  F__law_question : Fun K "_law_question" "_law_question" s__law_question A.f__law_question A.d__law_question
  b__law_question : Binds K A.d__law_question ["source", "theory", "solutions"] []
  m__law_question : mg "_law_question" = some (.ref A.f__law_question)
  F_Rows_holds : Fun K "holds" "Rows.holds" s_Rows_holds A.f_Rows_holds A.d_Rows_holds
  b_Rows_holds : Binds K A.d_Rows_holds ["self", "constraint", "assignment"] []
  h_Rows_holds : Meth K A.C_Rows "holds" A.f_Rows_holds
  F_agrees : Fun K "agrees" "agrees" s_agrees A.f_agrees A.d_agrees
  b_agrees : Binds K A.d_agrees ["names", "row", "decided"] []
  m_agrees : mg "agrees" = some (.ref A.f_agrees)
  F_can_hold : Fun K "can_hold" "can_hold" s_can_hold A.f_can_hold A.d_can_hold
  b_can_hold : Binds K A.d_can_hold ["constraint", "decided"] []
  m_can_hold : mg "can_hold" = some (.ref A.f_can_hold)
  F_Rows_tree_of : Fun K "tree_of" "Rows.tree_of" s_Rows_tree_of A.f_Rows_tree_of A.d_Rows_tree_of
  b_Rows_tree_of : Binds K A.d_Rows_tree_of ["self", "theory", "constraint", "decided"] []
  h_Rows_tree_of : Meth K A.C_Rows "tree_of" A.f_Rows_tree_of
  F_Rows_certificate : Fun K "certificate" "Rows.certificate" s_Rows_certificate A.f_Rows_certificate A.d_Rows_certificate
  b_Rows_certificate : Binds K A.d_Rows_certificate ["self", "theory", "constraint"] []
  h_Rows_certificate : Meth K A.C_Rows "certificate" A.f_Rows_certificate
  F_merge_names : Fun K "merge_names" "merge_names" s_merge_names A.f_merge_names A.d_merge_names
  m_merge_names : mg "merge_names" = some (.ref A.f_merge_names)
  F_join_tables : Fun K "join_tables" "join_tables" s_join_tables A.f_join_tables A.d_join_tables
  b_join_tables : Binds K A.d_join_tables ["first", "second"] []
  m_join_tables : mg "join_tables" = some (.ref A.f_join_tables)
  F_all_rows : Fun K "all_rows" "all_rows" s_all_rows A.f_all_rows A.d_all_rows
  b_all_rows : Binds K A.d_all_rows ["count"] []
  m_all_rows : mg "all_rows" = some (.ref A.f_all_rows)
  F_Rows_normal : Fun K "normal" "Rows.normal" s_Rows_normal A.f_Rows_normal A.d_Rows_normal
  b_Rows_normal : Binds K A.d_Rows_normal ["self", "theory"] []
  h_Rows_normal : Meth K A.C_Rows "normal" A.f_Rows_normal
  F_Rows_counterexample : Fun K "counterexample" "Rows.counterexample" s_Rows_counterexample A.f_Rows_counterexample A.d_Rows_counterexample
  b_Rows_counterexample : Binds K A.d_Rows_counterexample ["self", "theory", "constraint"] []
  h_Rows_counterexample : Meth K A.C_Rows "counterexample" A.f_Rows_counterexample
  F__law_can_hold : Fun K "_law_can_hold" "_law_can_hold" s__law_can_hold A.f__law_can_hold A.d__law_can_hold
  b__law_can_hold : Binds K A.d__law_can_hold ["table", "decided"] []
  m__law_can_hold : mg "_law_can_hold" = some (.ref A.f__law_can_hold)
  F__law_made : Fun K "_law_made" "_law_made" s__law_made A.f__law_made A.d__law_made
  b__law_made : Binds K A.d__law_made ["source", "theory", "order", "decided"] []
  m__law_made : mg "_law_made" = some (.ref A.f__law_made)
  F__law_order : Fun K "_law_order" "_law_order" s__law_order A.f__law_order A.d__law_order
  b__law_order : Binds K A.d__law_order ["source", "names"] []
  m__law_order : mg "_law_order" = some (.ref A.f__law_order)
  F_Rows_tree_shows : Fun K "tree_shows" "Rows.tree_shows" s_Rows_tree_shows A.f_Rows_tree_shows A.d_Rows_tree_shows
  b_Rows_tree_shows : Binds K A.d_Rows_tree_shows ["self", "theory", "constraint", "tree", "decided"] []
  h_Rows_tree_shows : Meth K A.C_Rows "tree_shows" A.f_Rows_tree_shows
  F_Rows_accepts : Fun K "accepts" "Rows.accepts" s_Rows_accepts A.f_Rows_accepts A.d_Rows_accepts
  b_Rows_accepts : Binds K A.d_Rows_accepts ["self", "theory", "constraint", "certificate"] []
  h_Rows_accepts : Meth K A.C_Rows "accepts" A.f_Rows_accepts
  F__law_is_int : Fun K "_law_is_int" "_law_is_int" s__law_is_int A.f__law_is_int A.d__law_is_int
  b__law_is_int : Binds K A.d__law_is_int ["value"] []
  m__law_is_int : mg "_law_is_int" = some (.ref A.f__law_is_int)
  F__law_breaks : Fun K "_law_breaks" "_law_breaks" s__law_breaks A.f__law_breaks A.d__law_breaks
  b__law_breaks : Binds K A.d__law_breaks ["found", "question", "solutions"] []
  m__law_breaks : mg "_law_breaks" = some (.ref A.f__law_breaks)
  F__law_rows_show : Fun K "_law_rows_show" "_law_rows_show" s__law_rows_show A.f__law_rows_show A.d__law_rows_show
  b__law_rows_show : Binds K A.d__law_rows_show ["theory", "constraint", "tree", "decided"] []
  m__law_rows_show : mg "_law_rows_show" = some (.ref A.f__law_rows_show)
  F__law_leaf : Fun K "_law_leaf" "_law_leaf" s__law_leaf A.f__law_leaf A.d__law_leaf
  b__law_leaf : Binds K A.d__law_leaf ["source", "count"] []
  m__law_leaf : mg "_law_leaf" = some (.ref A.f__law_leaf)
  F__law_spoilt : Fun K "_law_spoilt" "_law_spoilt" s__law_spoilt A.f__law_spoilt A.d__law_spoilt
  b__law_spoilt : Binds K A.d__law_spoilt ["source", "names", "tree", "count"] []
  m__law_spoilt : mg "_law_spoilt" = some (.ref A.f__law_spoilt)
  F__law_changed : Fun K "_law_changed" "_law_changed" s__law_changed A.f__law_changed A.d__law_changed
  b__law_changed : Binds K A.d__law_changed ["source", "names", "tree", "count", "depth"] []
  m__law_changed : mg "_law_changed" = some (.ref A.f__law_changed)
  F__law_grown : Fun K "_law_grown" "_law_grown" s__law_grown A.f__law_grown A.d__law_grown
  b__law_grown : Binds K A.d__law_grown ["source", "names", "count", "depth"] []
  m__law_grown : mg "_law_grown" = some (.ref A.f__law_grown)
  F__law_is_tree : Fun K "_law_is_tree" "_law_is_tree" s__law_is_tree A.f__law_is_tree A.d__law_is_tree
  b__law_is_tree : Binds K A.d__law_is_tree ["tree", "depth"] []
  m__law_is_tree : mg "_law_is_tree" = some (.ref A.f__law_is_tree)
  F_law : Fun K "law" "law" s_law A.f_law A.d_law
  b_law : Binds K A.d_law ["script"] []
  m_law : mg "law" = some (.ref A.f_law)
  c_Rows : Cls K A.C_Rows
  k_Rows : Mk0 K A.C_Rows
  mC_Rows : mg "Rows" = some (.ref A.C_Rows)
  v_VALUES : mg "VALUES" = some (.ref A.a_VALUES)
  r_VALUES : ∀ G, Rep K G c_VALUES (.ref A.a_VALUES)
  z_all : mg "all" = none
  z_bool : mg "bool" = none
  z_dict : mg "dict" = none
  z_int : mg "int" = none
  z_isinstance : mg "isinstance" = none
  z_len : mg "len" = none
  z_list : mg "list" = none
  z_max : mg "max" = none
  z_range : mg "range" = none
  z_sorted : mg "sorted" = none
  z_str : mg "str" = none
  z_tuple : mg "tuple" = none
  z_zip : mg "zip" = none
noncomputable section
variable {P : Program} {w : World} {K : PySem.W.Frag} {mg : Str → Option Value} {base : Heap} {A : Ad}
/-! ### _law_source -/
abbrev N__law_source : List Str := ["script", "k", "number"]
theorem n__law_source : N__law_source.Nodup := by decide +kernel
theorem sc__law_source : FnScope N__law_source ["script", "k"] (defScope s__law_source) := ⟨rfl, rfl, rfl, by decide +kernel, rfl, by decide +kernel, by decide +kernel⟩
def g__law_source (A : Ad) : S := (seqS (sF 2 (kon (.int 0)))
  (seqS (ifS (tsb (bi (getV 1) (fn (argCons (getV 0) argNil) oLen) oLt))
  (sF 2 (fn (argCons (bi (getV 0) (getV 1) oIx) argNil) oInt))
  nxt)
  (rtS (mkL (argCons (getV 2) (argCons (bi (bi (kon (.int 100)) (getV 1) oMul) (fn (argCons (getV 0) argNil) oLen) oAdd) argNil))))))
def F__law_source (A : Ad) : Fd := bodyF N__law_source.length (g__law_source A)
theorem ok__law_source (T : Tx K mg A) : FnOk P w K mg base CX0 1 A.f__law_source A.d__law_source ["script", "k"] (spD K 2 (F__law_source A)) := fun_ok T.F__law_source sc__law_source fun cdv Ar outer s H E hr =>
  (eb_cons (es_setF (i := 2) n__law_source rfl (by first | exact .inl rfl | exact .inr rfl) (ev_int))
  (eb_cons (es_if (et_cmp or_lt lt_ok ((ev_var 1)) (ev_callB cr_len len_ok (by rfl) T.z_len bt_len (ex_cons ((ev_var 0)) ex_nil)) (by rfl))
  (eb_one (es_setF (i := 2) n__law_source rfl (by first | exact .inl rfl | exact .inr rfl) (ev_callT call_int1 int_ok (by rfl) T.z_int bt_int (ex_cons (ev_ix (or_ix (u65 hr)) ix_ok ((ev_var 0)) ((ev_var 1))) ex_nil))))
  eb_nil)
  (eb_one (es_ret (ev_lst (ex_cons ((ev_var 2)) (ex_cons (ev_op or_add add_ok (ev_op op_mul mul_ok (ev_int) ((ev_var 1))) (ev_callB cr_len len_ok (by rfl) T.z_len bt_len (ex_cons ((ev_var 0)) ex_nil))) ex_nil)))))))
/-! ### _law_all_rows -/
abbrev N__law_all_rows : List Str := ["count", "rows", "k", "longer", "row", "value"]
theorem n__law_all_rows : N__law_all_rows.Nodup := by decide +kernel
theorem sc__law_all_rows : FnScope N__law_all_rows ["count"] (defScope s__law_all_rows) := ⟨rfl, rfl, rfl, by decide +kernel, rfl, by decide +kernel, by decide +kernel⟩
def g__law_all_rows (A : Ad) : S := (seqS (sF 1 (mkL (argCons (mkT argNil) argNil)))
  (seqS (forS (rng1 (getV 0)) (gN 2)
  (seqS (sR 3 (mkL argNil))
  (seqS (forS (seqI (getV 1)) (gN 4)
  (forS (rng1 (kon (.int 3))) (gN 5)
  (exS (mtV isL 3 (argCons (bi (getV 4) (mkT (argCons (getV 5) argNil)) oAdd) argNil) opAppend))))
  (sF 1 (fn (argCons (getV 3) argNil) oList)))))
  (rtS (getV 1))))
def F__law_all_rows (A : Ad) : Fd := bodyF N__law_all_rows.length (g__law_all_rows A)
theorem ok__law_all_rows (T : Tx K mg A) : FnOk P w K mg base CX0 1 A.f__law_all_rows A.d__law_all_rows ["count"] (spD K 1 (F__law_all_rows A)) := fun_ok T.F__law_all_rows sc__law_all_rows fun cdv Ar outer s H E hr =>
  (eb_cons (es_setF (i := 1) n__law_all_rows rfl (by first | exact .inl rfl | exact .inr rfl) (ev_lst (ex_cons (ev_tup ex_nil) ex_nil)))
  (eb_cons (es_for PassesOwn.never rfl (ei_rng1 (by rfl) T.z_range ((ev_var 0))) (eg_name (i := 2) n__law_all_rows rfl (by first | exact .inl rfl | exact .inr rfl))
  (eb_cons (es_set (i := 3) n__law_all_rows rfl (by first | exact .inl rfl | exact .inr rfl) (ev_lst ex_nil))
  (eb_cons (es_for PassesOwn.never rfl (ei_seq ((ev_var 1))) (eg_name (i := 4) n__law_all_rows rfl (by first | exact .inl rfl | exact .inr rfl))
  (eb_one (es_for PassesOwn.never rfl (ei_rng1 (by rfl) T.z_range (ev_int)) (eg_name (i := 5) n__law_all_rows rfl (by first | exact .inl rfl | exact .inr rfl))
  (eb_one (es_expr (ev_mt ty_l append_ok PySem.F.plainAttrs_list PySem.F.slot_list_append PySem.F.type_list_append (mt_append) rfl (by first | exact Or.inl rfl | exact Or.inr (Or.inl rfl) | exact Or.inr (Or.inr rfl)) (ex_cons (ev_op or_add add_ok ((ev_var 4)) (ev_tup (ex_cons ((ev_var 5)) ex_nil))) ex_nil)))))))
  (eb_one (es_setF (i := 1) n__law_all_rows rfl (by first | exact .inl rfl | exact .inr rfl) (ev_callT (cr_list rfl) list_ok (by rfl) T.z_list bt_list (ex_cons ((ev_var 3)) ex_nil)))))))
  (eb_one (es_ret ((ev_var 1))))))
/-! ### _law_values -/
abbrev N__law_values : List Str := ["names", "row", "values", "k"]
theorem n__law_values : N__law_values.Nodup := by decide +kernel
theorem sc__law_values : FnScope N__law_values ["names", "row"] (defScope s__law_values) := ⟨rfl, rfl, rfl, by decide +kernel, rfl, by decide +kernel, by decide +kernel⟩
def g__law_values (A : Ad) : S := (seqS (sR 2 (newK))
  (seqS (forS (rng1 (fn (argCons (getV 0) argNil) oLen)) (gN 3)
  (sSub 2 (bi (getV 1) (getV 3) oIx) (bi (getV 0) (getV 3) oIx)))
  (rtS (getV 2))))
def F__law_values (A : Ad) : Fd := bodyF N__law_values.length (g__law_values A)
theorem ok__law_values (T : Tx K mg A) : FnOk P w K mg base CX0 1 A.f__law_values A.d__law_values ["names", "row"] (spD K 2 (F__law_values A)) := fun_ok T.F__law_values sc__law_values fun cdv Ar outer s H E hr =>
  (eb_cons (es_set (i := 2) n__law_values rfl (by first | exact .inl rfl | exact .inr rfl) (ev_dk0))
  (eb_cons (es_for PassesOwn.never rfl (ei_rng1 (by rfl) T.z_range (ev_callB cr_len len_ok (by rfl) T.z_len bt_len (ex_cons ((ev_var 0)) ex_nil))) (eg_name (i := 3) n__law_values rfl (by first | exact .inl rfl | exact .inr rfl))
  (eb_one (es_sub (u65 hr) (i := 2) rfl (by first | exact Or.inl rfl | exact Or.inr (Or.inl rfl) | exact Or.inr (Or.inr rfl)) (ev_ix (or_ix (u65 hr)) ix_ok ((ev_var 1)) ((ev_var 3))) (ev_ix (or_ix (u65 hr)) ix_ok ((ev_var 0)) ((ev_var 3))))))
  (eb_one (es_ret (ev_var 2)))))
/-! ### _law_fits -/
abbrev N__law_fits : List Str := ["table", "values", "name"]
theorem n__law_fits : N__law_fits.Nodup := by decide +kernel
theorem sc__law_fits : FnScope N__law_fits ["table", "values"] (defScope s__law_fits) := ⟨rfl, rfl, rfl, by decide +kernel, rfl, by decide +kernel, by decide +kernel⟩
def g__law_fits (A : Ad) : S := (rtS (bi (fn (argCons (lcF (seqI (bi (getV 0) (kon (.int 0)) oIx)) [2] (gN 2) (ret true) (asD (bi (getV 1) (getV 2) oIx))) argNil) oTuple) (bi (getV 0) (kon (.int 1)) oIx) oIn))
def F__law_fits (A : Ad) : Fd := bodyF N__law_fits.length (g__law_fits A)
theorem ok__law_fits (T : Tx K mg A) : FnOk P w K mg base CX0 1 A.f__law_fits A.d__law_fits ["table", "values"] (spD K 2 (F__law_fits A)) := fun_ok T.F__law_fits sc__law_fits fun cdv Ar outer s H E hr =>
  (eb_one (es_ret (ev_cmp (or_in (u65 hr)) in_ok (ev_callT call_tuple_of tuple_ok (by rfl) T.z_tuple bt_tuple (ex_cons (ev_lc rfl n__law_fits (ei_seq (ev_ix (or_ix (u65 hr)) ix_ok ((ev_var 0)) (ev_int))) (blkOk_by (own := [("name", 2)]) (by first | rfl | decide)) rfl (fun _ _ _ _ _ => (gc_name (i := 2) n__law_fits rfl (by first | exact .inl rfl | exact .inr rfl) (by decide) (by first | exact .inl rfl | exact .inr rfl))) (fun _ _ _ _ _ => ets_nil) (fun _ _ _ _ _ => (ev_ix (or_ix (u65 hr)) ix_ok ((ev_var 1)) ((ev_var 2))))) ex_nil)) (ev_ix (or_ix (u65 hr)) ix_ok ((ev_var 0)) (ev_int)) (by rfl))))
/-! ### _law_solutions -/
abbrev N__law_solutions : List Str := ["theory", "found", "row", "values", "table"]
theorem n__law_solutions : N__law_solutions.Nodup := by decide +kernel
theorem sc__law_solutions : FnScope N__law_solutions ["theory"] (defScope s__law_solutions) := ⟨rfl, rfl, rfl, by decide +kernel, rfl, by decide +kernel, by decide +kernel⟩
def g__law_solutions (A : Ad) : S := (seqS (sR 1 (mkL argNil))
  (seqS (forS (seqI (callF (F__law_all_rows A) (argCons (fn (argCons (bi (getV 0) (kon (.int 0)) oIx) argNil) oLen) argNil))) (gN 2)
  (seqS (sF 3 (callF (F__law_values A) (argCons (bi (getV 0) (kon (.int 0)) oIx) (argCons (getV 2) argNil))))
  (ifS (tsb (bi (fn (argCons (lcF (seqI (bi (getV 0) (kon (.int 1)) oIx)) [4] (gN 4) (notT (tst (callF (F__law_fits A) (argCons (getV 4) (argCons (getV 3) argNil))))) (asD (getV 4))) argNil) oLen) (kon (.int 0)) oEq))
  (exS (mtV isL 1 (argCons (getV 3) argNil) opAppend))
  nxt)))
  (rtS (getV 1))))
def F__law_solutions (A : Ad) : Fd := bodyF N__law_solutions.length (g__law_solutions A)
theorem ok__law_solutions (T : Tx K mg A) : FnOk P w K mg base CX0 2 A.f__law_solutions A.d__law_solutions ["theory"] (spD K 1 (F__law_solutions A)) := fun_ok T.F__law_solutions sc__law_solutions fun cdv Ar outer s H E hr =>
  (eb_cons (es_set (i := 1) n__law_solutions rfl (by first | exact .inl rfl | exact .inr rfl) (ev_lst ex_nil))
  (eb_cons (es_for PassesOwn.never rfl (ei_seq (ev_call (ok__law_all_rows T) (hr.mono (by decide)) (by rfl) T.m__law_all_rows T.F__law_all_rows.kp T.b__law_all_rows (ex_cons (ev_callB cr_len len_ok (by rfl) T.z_len bt_len (ex_cons (ev_ix (or_ix (u65 hr)) ix_ok ((ev_var 0)) (ev_int)) ex_nil)) ex_nil) (.cons .nil))) (eg_name (i := 2) n__law_solutions rfl (by first | exact .inl rfl | exact .inr rfl))
  (eb_cons (es_setF (i := 3) n__law_solutions rfl (by first | exact .inl rfl | exact .inr rfl) (ev_call (ok__law_values T) (hr.mono (by decide)) (by rfl) T.m__law_values T.F__law_values.kp T.b__law_values (ex_cons (ev_ix (or_ix (u65 hr)) ix_ok ((ev_var 0)) (ev_int)) (ex_cons ((ev_var 2)) ex_nil)) (.cons (.cons .nil))))
  (eb_one (es_if (et_cmp (op_eqD (u64 hr)) eq_ok (ev_callB cr_len len_ok (by rfl) T.z_len bt_len (ex_cons (ev_lc rfl n__law_solutions (ei_seq (ev_ix (or_ix (u65 hr)) ix_ok ((ev_var 0)) (ev_int))) (blkOk_by (own := [("table", 4)]) (by first | rfl | decide)) rfl (fun _ _ _ _ _ => (gc_name (i := 4) n__law_solutions rfl (by first | exact .inl rfl | exact .inr rfl) (by decide) (by first | exact .inl rfl | exact .inr rfl))) (fun _ _ _ _ _ => (ets_one (et_not (et_val (ev_call (ok__law_fits T) (hr.mono (by decide)) (by rfl) T.m__law_fits T.F__law_fits.kp T.b__law_fits (ex_cons ((ev_var 4)) (ex_cons ((ev_var 3)) ex_nil)) (.cons (.cons .nil))))))) (fun _ _ _ _ _ => ((ev_var 4)))) ex_nil)) (ev_int) (by rfl))
  (eb_one (es_expr (ev_mt ty_l append_ok PySem.F.plainAttrs_list PySem.F.slot_list_append PySem.F.type_list_append (mt_append) rfl (by first | exact Or.inl rfl | exact Or.inr (Or.inl rfl) | exact Or.inr (Or.inr rfl)) (ex_cons ((ev_var 3)) ex_nil))))
  eb_nil))))
  (eb_one (es_ret (ev_var 1)))))
/-! ### _law_draw -/
abbrev N__law_draw : List Str := ["source", "limit", "number", "mixed"]
theorem n__law_draw : N__law_draw.Nodup := by decide +kernel
theorem sc__law_draw : FnScope N__law_draw ["source", "limit"] (defScope s__law_draw) := ⟨rfl, rfl, rfl, by decide +kernel, rfl, by decide +kernel, by decide +kernel⟩
def g__law_draw (A : Ad) : S := (seqS (sF 2 (bi (getV 0) (kon (.int 0)) oIx))
  (seqS (ifS (tsb (bi (getV 2) (bi (kon (.int 10)) (kon (.int 18)) oPow) oGe))
  (seqS (sSub 0 (bi (getV 2) (getV 1) oDiv) (kon (.int 0)))
  (rtS (bi (fn (argCons (getV 2) argNil) oInt) (getV 1) oMod)))
  nxt)
  (seqS (sSub 0 (bi (bi (getV 0) (kon (.int 1)) oIx) (kon (.int 1)) oAdd) (kon (.int 1)))
  (seqS (sF 3 (bi (fn (argCons (bi (bi (bi (getV 2) (kon (.int 48271)) oMul) (bi (bi (getV 0) (kon (.int 1)) oIx) (kon (.int 69621)) oMul) oAdd) (kon (.int 7)) oAdd) argNil) oInt) (kon (.int 2147483647)) oMod))
  (seqS (sF 3 (bi (fn (argCons (bi (bi (bi (getV 3) (getV 3) oMul) (getV 2) oAdd) (bi (bi (getV 0) (kon (.int 1)) oIx) (kon (.int 40692)) oMul) oAdd) argNil) oInt) (kon (.int 2147483629)) oMod))
  (seqS (sF 3 (bi (fn (argCons (bi (bi (bi (getV 3) (getV 3) oMul) (bi (getV 3) (kon (.int 4096)) oDiv) oAdd) (kon (.int 12345)) oAdd) argNil) oInt) (kon (.int 2147483587)) oMod))
  (rtS (bi (bi (fn (argCons (getV 3) argNil) oInt) (kon (.int 64)) oDiv) (getV 1) oMod))))))))
def F__law_draw (A : Ad) : Fd := bodyF N__law_draw.length (g__law_draw A)
theorem ok__law_draw (T : Tx K mg A) : FnOk P w K mg base CX0 1 A.f__law_draw A.d__law_draw ["source", "limit"] (spD K 2 (F__law_draw A)) := fun_ok T.F__law_draw sc__law_draw fun cdv Ar outer s H E hr =>
  (eb_cons (es_setF (i := 2) n__law_draw rfl (by first | exact .inl rfl | exact .inr rfl) (ev_ix (or_ix (u65 hr)) ix_ok ((ev_var 0)) (ev_int)))
  (eb_cons (es_if (et_cmp or_ge ge_ok ((ev_var 2)) (ev_op op_pow pow_ok (ev_int) (ev_int)) (by rfl))
  (eb_cons (es_sub (u65 hr) (i := 0) rfl (by first | exact Or.inl rfl | exact Or.inr (Or.inl rfl) | exact Or.inr (Or.inr rfl)) (ev_op op_fdiv div_ok ((ev_var 2)) ((ev_var 1))) (ev_int))
  (eb_one (es_ret (ev_op op_mod mod_ok (ev_callT call_int1 int_ok (by rfl) T.z_int bt_int (ex_cons ((ev_var 2)) ex_nil)) ((ev_var 1))))))
  eb_nil)
  (eb_cons (es_sub (u65 hr) (i := 0) rfl (by first | exact Or.inl rfl | exact Or.inr (Or.inl rfl) | exact Or.inr (Or.inr rfl)) (ev_op or_add add_ok (ev_ix (or_ix (u65 hr)) ix_ok ((ev_var 0)) (ev_int)) (ev_int)) (ev_int))
  (eb_cons (es_setF (i := 3) n__law_draw rfl (by first | exact .inl rfl | exact .inr rfl) (ev_op op_mod mod_ok (ev_callT call_int1 int_ok (by rfl) T.z_int bt_int (ex_cons (ev_op or_add add_ok (ev_op or_add add_ok (ev_op op_mul mul_ok ((ev_var 2)) (ev_int)) (ev_op op_mul mul_ok (ev_ix (or_ix (u65 hr)) ix_ok ((ev_var 0)) (ev_int)) (ev_int))) (ev_int)) ex_nil)) (ev_int)))
  (eb_cons (es_setF (i := 3) n__law_draw rfl (by first | exact .inl rfl | exact .inr rfl) (ev_op op_mod mod_ok (ev_callT call_int1 int_ok (by rfl) T.z_int bt_int (ex_cons (ev_op or_add add_ok (ev_op or_add add_ok (ev_op op_mul mul_ok ((ev_var 3)) ((ev_var 3))) ((ev_var 2))) (ev_op op_mul mul_ok (ev_ix (or_ix (u65 hr)) ix_ok ((ev_var 0)) (ev_int)) (ev_int))) ex_nil)) (ev_int)))
  (eb_cons (es_setF (i := 3) n__law_draw rfl (by first | exact .inl rfl | exact .inr rfl) (ev_op op_mod mod_ok (ev_callT call_int1 int_ok (by rfl) T.z_int bt_int (ex_cons (ev_op or_add add_ok (ev_op or_add add_ok (ev_op op_mul mul_ok ((ev_var 3)) ((ev_var 3))) (ev_op op_fdiv div_ok ((ev_var 3)) (ev_int))) (ev_int)) ex_nil)) (ev_int)))
  (eb_one (es_ret (ev_op op_mod mod_ok (ev_op op_fdiv div_ok (ev_callT call_int1 int_ok (by rfl) T.z_int bt_int (ex_cons ((ev_var 3)) ex_nil)) (ev_int)) ((ev_var 1)))))))))))
/-! ### _law_some -/
abbrev N__law_some : List Str := ["source", "names", "most", "found", "name"]
theorem n__law_some : N__law_some.Nodup := by decide +kernel
theorem sc__law_some : FnScope N__law_some ["source", "names", "most"] (defScope s__law_some) := ⟨rfl, rfl, rfl, by decide +kernel, rfl, by decide +kernel, by decide +kernel⟩
def g__law_some (A : Ad) : S := (seqS (sR 3 (mkL argNil))
  (seqS (forS (seqI (getV 1)) (gN 4)
  (ifS ((andT (tsb (bi (fn (argCons (getV 3) argNil) oLen) (getV 2) oLt)) (tsb (bi (callF (F__law_draw A) (argCons (getV 0) (argCons (kon (.int 3)) argNil))) (kon (.int 0)) oGt))))
  (exS (mtV isL 3 (argCons (getV 4) argNil) opAppend))
  nxt))
  (rtS (getV 3))))
def F__law_some (A : Ad) : Fd := bodyF N__law_some.length (g__law_some A)
theorem ok__law_some (T : Tx K mg A) : FnOk P w K mg base CX0 2 A.f__law_some A.d__law_some ["source", "names", "most"] (spD K 3 (F__law_some A)) := fun_ok T.F__law_some sc__law_some fun cdv Ar outer s H E hr =>
  (eb_cons (es_set (i := 3) n__law_some rfl (by first | exact .inl rfl | exact .inr rfl) (ev_lst ex_nil))
  (eb_cons (es_for PassesOwn.never rfl (ei_seq ((ev_var 1))) (eg_name (i := 4) n__law_some rfl (by first | exact .inl rfl | exact .inr rfl))
  (eb_one (es_if ((ew_and (et_cmp or_lt lt_ok (ev_callB cr_len len_ok (by rfl) T.z_len bt_len (ex_cons ((ev_var 3)) ex_nil)) ((ev_var 2)) (by rfl)) (ew_and1 (et_cmp or_gt gt_ok (ev_call (ok__law_draw T) (hr.mono (by decide)) (by rfl) T.m__law_draw T.F__law_draw.kp T.b__law_draw (ex_cons ((ev_var 0)) (ex_cons (ev_int) ex_nil)) (.cons (.cons .nil))) (ev_int) (by rfl)))).t)
  (eb_one (es_expr (ev_mt ty_l append_ok PySem.F.plainAttrs_list PySem.F.slot_list_append PySem.F.type_list_append (mt_append) rfl (by first | exact Or.inl rfl | exact Or.inr (Or.inl rfl) | exact Or.inr (Or.inr rfl)) (ex_cons ((ev_var 4)) ex_nil))))
  eb_nil)))
  (eb_one (es_ret (ev_var 3)))))
/-! ### _law_table -/
abbrev N__law_table : List Str := ["source", "names", "wanted", "share", "row"]
theorem n__law_table : N__law_table.Nodup := by decide +kernel
theorem sc__law_table : FnScope N__law_table ["source", "names"] (defScope s__law_table) := ⟨rfl, rfl, rfl, by decide +kernel, rfl, by decide +kernel, by decide +kernel⟩
def g__law_table (A : Ad) : S := (seqS (sF 2 (fn (argCons (callF (F__law_some A) (argCons (getV 0) (argCons (getV 1) (argCons (callF (F__law_draw A) (argCons (getV 0) (argCons (kon (.int 4)) argNil))) argNil)))) argNil) oTuple))
  (seqS (sF 3 (callF (F__law_draw A) (argCons (getV 0) (argCons (kon (.int 4)) argNil))))
  (rtS (mkT (argCons (getV 2) (argCons (fn (argCons (lcF (seqI (callF (F__law_all_rows A) (argCons (fn (argCons (getV 2) argNil) oLen) argNil))) [4] (gN 4) (tsb (bi (callF (F__law_draw A) (argCons (getV 0) (argCons (kon (.int 4)) argNil))) (getV 3) oGe)) (asD (getV 4))) argNil) oTuple) argNil))))))
def F__law_table (A : Ad) : Fd := bodyF N__law_table.length (g__law_table A)
theorem ok__law_table (T : Tx K mg A) : FnOk P w K mg base CX0 3 A.f__law_table A.d__law_table ["source", "names"] (spD K 2 (F__law_table A)) := fun_ok T.F__law_table sc__law_table fun cdv Ar outer s H E hr =>
  (eb_cons (es_setF (i := 2) n__law_table rfl (by first | exact .inl rfl | exact .inr rfl) (ev_callT call_tuple_of tuple_ok (by rfl) T.z_tuple bt_tuple (ex_cons (ev_call (ok__law_some T) (hr.mono (by decide)) (by rfl) T.m__law_some T.F__law_some.kp T.b__law_some (ex_cons ((ev_var 0)) (ex_cons ((ev_var 1)) (ex_cons (ev_call (ok__law_draw T) (hr.mono (by decide)) (by rfl) T.m__law_draw T.F__law_draw.kp T.b__law_draw (ex_cons ((ev_var 0)) (ex_cons (ev_int) ex_nil)) (.cons (.cons .nil))) ex_nil))) (.cons (.cons (.cons .nil)))) ex_nil)))
  (eb_cons (es_setF (i := 3) n__law_table rfl (by first | exact .inl rfl | exact .inr rfl) (ev_call (ok__law_draw T) (hr.mono (by decide)) (by rfl) T.m__law_draw T.F__law_draw.kp T.b__law_draw (ex_cons ((ev_var 0)) (ex_cons (ev_int) ex_nil)) (.cons (.cons .nil))))
  (eb_one (es_ret (ev_tup (ex_cons ((ev_var 2)) (ex_cons (ev_callT call_tuple_of tuple_ok (by rfl) T.z_tuple bt_tuple (ex_cons (ev_lc rfl n__law_table (ei_seq (ev_call (ok__law_all_rows T) (hr.mono (by decide)) (by rfl) T.m__law_all_rows T.F__law_all_rows.kp T.b__law_all_rows (ex_cons (ev_callB cr_len len_ok (by rfl) T.z_len bt_len (ex_cons ((ev_var 2)) ex_nil)) ex_nil) (.cons .nil))) (blkOk_by (own := [("row", 4)]) (by first | rfl | decide)) rfl (fun _ _ _ _ _ => (gc_name (i := 4) n__law_table rfl (by first | exact .inl rfl | exact .inr rfl) (by decide) (by first | exact .inl rfl | exact .inr rfl))) (fun _ _ _ _ _ => (ets_one (et_cmp or_ge ge_ok (ev_call (ok__law_draw T) (hr.mono (by decide)) (by rfl) T.m__law_draw T.F__law_draw.kp T.b__law_draw (ex_cons ((ev_var 0)) (ex_cons (ev_int) ex_nil)) (.cons (.cons .nil))) ((ev_var 3)) (by rfl)))) (fun _ _ _ _ _ => ((ev_var 4)))) ex_nil)) ex_nil)))))))
/-! ### _law_question -/
abbrev N__law_question : List Str := ["source", "theory", "solutions", "names", "way", "taken", "name", "values", "rows", "row"]
theorem n__law_question : N__law_question.Nodup := by decide +kernel
theorem sc__law_question : FnScope N__law_question ["source", "theory", "solutions"] (defScope s__law_question) := ⟨rfl, rfl, rfl, by decide +kernel, rfl, by decide +kernel, by decide +kernel⟩
def g__law_question (A : Ad) : S := (seqS (sF 3 (fn (argCons (callF (F__law_some A) (argCons (getV 0) (argCons (bi (getV 1) (kon (.int 0)) oIx) (argCons (kon (.int 3)) argNil)))) argNil) oTuple))
  (seqS (sF 4 (callF (F__law_draw A) (argCons (getV 0) (argCons (kon (.int 6)) argNil))))
  (seqS (ifS (tsb (bi (getV 4) (kon (.int 0)) oEq))
  (rtS (callF (F__law_table A) (argCons (getV 0) (argCons (bi (getV 1) (kon (.int 0)) oIx) argNil))))
  nxt)
  (seqS (ifS ((andT (tsb (bi (getV 4) (kon (.int 1)) oEq)) (tsb (bi (fn (argCons (bi (getV 1) (kon (.int 1)) oIx) argNil) oLen) (kon (.int 0)) oGt))))
  (rtS (bi (bi (getV 1) (kon (.int 1)) oIx) (callF (F__law_draw A) (argCons (getV 0) (argCons (fn (argCons (bi (getV 1) (kon (.int 1)) oIx) argNil) oLen) argNil))) oIx))
  nxt)
  (seqS (sF 5 (lcF (seqI (getV 2)) [7] (gN 7) (ret true) (asD (fn (argCons (lcF (seqI (getV 3)) [6] (gN 6) (ret true) (asD (bi (getV 7) (getV 6) oIx))) argNil) oTuple))))
  (seqS (sR 8 (lcF (seqI (callF (F__law_all_rows A) (argCons (fn (argCons (getV 3) argNil) oLen) argNil))) [9] (gN 9) ((orT (tsb (bi (getV 9) (getV 5) oIn)) ((andT (tsb (bi (getV 4) (kon (.int 2)) oEq)) (tsb (bi (callF (F__law_draw A) (argCons (getV 0) (argCons (kon (.int 2)) argNil))) (kon (.int 0)) oEq)))))) (asD (getV 9))))
  (seqS (ifS ((andT (tsb (bi (getV 4) (kon (.int 3)) oEq)) (tsb (bi (fn (argCons (getV 8) argNil) oLen) (kon (.int 0)) oGt))))
  (exS (mtV isL 8 (argCons (callF (F__law_draw A) (argCons (getV 0) (argCons (fn (argCons (getV 8) argNil) oLen) argNil))) argNil) opPopAt))
  nxt)
  (rtS (mkT (argCons (getV 3) (argCons (fn (argCons (getV 8) argNil) oTuple) argNil)))))))))))
def F__law_question (A : Ad) : Fd := bodyF N__law_question.length (g__law_question A)
theorem ok__law_question (T : Tx K mg A) : FnOk P w K mg base CX0 4 A.f__law_question A.d__law_question ["source", "theory", "solutions"] (spD K 3 (F__law_question A)) := fun_ok T.F__law_question sc__law_question fun cdv Ar outer s H E hr =>
  (eb_cons (es_setF (i := 3) n__law_question rfl (by first | exact .inl rfl | exact .inr rfl) (ev_callT call_tuple_of tuple_ok (by rfl) T.z_tuple bt_tuple (ex_cons (ev_call (ok__law_some T) (hr.mono (by decide)) (by rfl) T.m__law_some T.F__law_some.kp T.b__law_some (ex_cons ((ev_var 0)) (ex_cons (ev_ix (or_ix (u65 hr)) ix_ok ((ev_var 1)) (ev_int)) (ex_cons (ev_int) ex_nil))) (.cons (.cons (.cons .nil)))) ex_nil)))
  (eb_cons (es_setF (i := 4) n__law_question rfl (by first | exact .inl rfl | exact .inr rfl) (ev_call (ok__law_draw T) (hr.mono (by decide)) (by rfl) T.m__law_draw T.F__law_draw.kp T.b__law_draw (ex_cons ((ev_var 0)) (ex_cons (ev_int) ex_nil)) (.cons (.cons .nil))))
  (eb_cons (es_if (et_cmp (op_eqD (u64 hr)) eq_ok ((ev_var 4)) (ev_int) (by rfl))
  (eb_one (es_ret (ev_call (ok__law_table T) (hr.mono (by decide)) (by rfl) T.m__law_table T.F__law_table.kp T.b__law_table (ex_cons ((ev_var 0)) (ex_cons (ev_ix (or_ix (u65 hr)) ix_ok ((ev_var 1)) (ev_int)) ex_nil)) (.cons (.cons .nil)))))
  eb_nil)
  (eb_cons (es_if ((ew_and (et_cmp (op_eqD (u64 hr)) eq_ok ((ev_var 4)) (ev_int) (by rfl)) (ew_and1 (et_cmp or_gt gt_ok (ev_callB cr_len len_ok (by rfl) T.z_len bt_len (ex_cons (ev_ix (or_ix (u65 hr)) ix_ok ((ev_var 1)) (ev_int)) ex_nil)) (ev_int) (by rfl)))).t)
  (eb_one (es_ret (ev_ix (or_ix (u65 hr)) ix_ok (ev_ix (or_ix (u65 hr)) ix_ok ((ev_var 1)) (ev_int)) (ev_call (ok__law_draw T) (hr.mono (by decide)) (by rfl) T.m__law_draw T.F__law_draw.kp T.b__law_draw (ex_cons ((ev_var 0)) (ex_cons (ev_callB cr_len len_ok (by rfl) T.z_len bt_len (ex_cons (ev_ix (or_ix (u65 hr)) ix_ok ((ev_var 1)) (ev_int)) ex_nil)) ex_nil)) (.cons (.cons .nil))))))
  eb_nil)
  (eb_cons (es_setF (i := 5) n__law_question rfl (by first | exact .inl rfl | exact .inr rfl) (ev_lc rfl n__law_question (ei_seq ((ev_var 2))) (blkOk_by (own := [("values", 7)]) (by first | rfl | decide)) rfl (fun _ _ _ _ _ => (gc_name (i := 7) n__law_question rfl (by first | exact .inl rfl | exact .inr rfl) (by decide) (by first | exact .inl rfl | exact .inr rfl))) (fun _ _ _ _ _ => ets_nil) (fun _ _ _ _ _ => (ev_callT call_tuple_of tuple_ok (by rfl) T.z_tuple bt_tuple (ex_cons (ev_lc rfl n__law_question (ei_seq ((ev_var 3))) (blkOk_by (own := [("name", 6)]) (by first | rfl | decide)) rfl (fun _ _ _ _ _ => (gc_name (i := 6) n__law_question rfl (by first | exact .inl rfl | exact .inr rfl) (by decide) (by first | exact .inl rfl | exact .inr rfl))) (fun _ _ _ _ _ => ets_nil) (fun _ _ _ _ _ => (ev_ix (or_ix (u65 hr)) ix_ok ((ev_var 7)) ((ev_var 6))))) ex_nil)))))
  (eb_cons (es_lc false rfl n__law_question rfl rfl (sw_true rfl rfl rfl (by rfl)) (ei_seq (ev_call (ok__law_all_rows T) (hr.mono (by decide)) (by rfl) T.m__law_all_rows T.F__law_all_rows.kp T.b__law_all_rows (ex_cons (ev_callB cr_len len_ok (by rfl) T.z_len bt_len (ex_cons ((ev_var 3)) ex_nil)) ex_nil) (.cons .nil))) (blkOk_by (own := [("row", 9)]) (by first | rfl | decide)) rfl (fun _ _ _ _ _ => (gc_name (i := 9) n__law_question rfl (by first | exact .inl rfl | exact .inr rfl) (by decide) (by first | exact .inl rfl | exact .inr rfl))) (fun _ _ _ _ _ => (ets_one ((ew_or (et_cmp (or_in (u65 hr)) in_ok ((ev_var 9)) ((ev_var 5)) (by rfl)) (ew_or1 ((ew_and (et_cmp (op_eqD (u64 hr)) eq_ok ((ev_var 4)) (ev_int) (by rfl)) (ew_and1 (et_cmp (op_eqD (u64 hr)) eq_ok (ev_call (ok__law_draw T) (hr.mono (by decide)) (by rfl) T.m__law_draw T.F__law_draw.kp T.b__law_draw (ex_cons ((ev_var 0)) (ex_cons (ev_int) ex_nil)) (.cons (.cons .nil))) (ev_int) (by rfl)))).t))).t))) (fun _ _ _ _ _ => ((ev_var 9))))
  (eb_cons (es_if ((ew_and (et_cmp (op_eqD (u64 hr)) eq_ok ((ev_var 4)) (ev_int) (by rfl)) (ew_and1 (et_cmp or_gt gt_ok (ev_callB cr_len len_ok (by rfl) T.z_len bt_len (ex_cons ((ev_var 8)) ex_nil)) (ev_int) (by rfl)))).t)
  (eb_one (es_expr (ev_mt ty_l popAt_ok PySem.F.plainAttrs_list PySem.F.slot_list_pop PySem.F.type_list_pop mt_popAt rfl (by first | exact Or.inl rfl | exact Or.inr (Or.inl rfl) | exact Or.inr (Or.inr rfl)) (ex_cons (ev_call (ok__law_draw T) (hr.mono (by decide)) (by rfl) T.m__law_draw T.F__law_draw.kp T.b__law_draw (ex_cons ((ev_var 0)) (ex_cons (ev_callB cr_len len_ok (by rfl) T.z_len bt_len (ex_cons ((ev_var 8)) ex_nil)) ex_nil)) (.cons (.cons .nil))) ex_nil))))
  eb_nil)
  (eb_one (es_ret (ev_tup (ex_cons ((ev_var 3)) (ex_cons (ev_callT call_tuple_of tuple_ok (by rfl) T.z_tuple bt_tuple (ex_cons ((ev_var 8)) ex_nil)) ex_nil))))))))))))
/-! ### Rows.holds -/
abbrev N_Rows_holds : List Str := ["self", "constraint", "assignment", "name"]
theorem n_Rows_holds : N_Rows_holds.Nodup := by decide +kernel
theorem sc_Rows_holds : FnScope N_Rows_holds ["self", "constraint", "assignment"] (defScope s_Rows_holds) := ⟨rfl, rfl, rfl, by decide +kernel, rfl, by decide +kernel, by decide +kernel⟩
def g_Rows_holds (A : Ad) : S := (rtS (bi (fn (argCons (lcF (seqI (bi (getV 1) (kon (.int 0)) oIx)) [3] (gN 3) (ret true) (asD (bi (getV 2) (getV 3) oIx))) argNil) oTuple) (bi (getV 1) (kon (.int 1)) oIx) oIn))
def F_Rows_holds (A : Ad) : Fd := bodyF N_Rows_holds.length (g_Rows_holds A)
theorem ok_Rows_holds (T : Tx K mg A) : FnOk P w K mg base CX0 1 A.f_Rows_holds A.d_Rows_holds ["self", "constraint", "assignment"] (spD K 3 (F_Rows_holds A)) := fun_ok T.F_Rows_holds sc_Rows_holds fun cdv Ar outer s H E hr =>
  (eb_one (es_ret (ev_cmp (or_in (u65 hr)) in_ok (ev_callT call_tuple_of tuple_ok (by rfl) T.z_tuple bt_tuple (ex_cons (ev_lc rfl n_Rows_holds (ei_seq (ev_ix (or_ix (u65 hr)) ix_ok ((ev_var 1)) (ev_int))) (blkOk_by (own := [("name", 3)]) (by first | rfl | decide)) rfl (fun _ _ _ _ _ => (gc_name (i := 3) n_Rows_holds rfl (by first | exact .inl rfl | exact .inr rfl) (by decide) (by first | exact .inl rfl | exact .inr rfl))) (fun _ _ _ _ _ => ets_nil) (fun _ _ _ _ _ => (ev_ix (or_ix (u65 hr)) ix_ok ((ev_var 2)) ((ev_var 3))))) ex_nil)) (ev_ix (or_ix (u65 hr)) ix_ok ((ev_var 1)) (ev_int)) (by rfl))))
/-! ### agrees -/
abbrev N_agrees : List Str := ["names", "row", "decided", "name", "value"]
theorem n_agrees : N_agrees.Nodup := by decide +kernel
theorem sc_agrees : FnScope N_agrees ["names", "row", "decided"] (defScope s_agrees) := ⟨rfl, rfl, rfl, by decide +kernel, rfl, by decide +kernel, by decide +kernel⟩
def g_agrees (A : Ad) : S := (seqS (forS (zip2 (getV 0) (getV 1)) (gT 2 (gsC (gN 3) (gsC (gN 4) gsN)))
  (ifS (tsb (bi (get2 (getV 2) (getV 3) (getV 4)) (getV 4) oNe))
  (rtS (kon (.bl false)))
  nxt))
  (rtS (kon (.bl true))))
def F_agrees (A : Ad) : Fd := bodyF N_agrees.length (g_agrees A)
theorem ok_agrees (T : Tx K mg A) : FnOk P w K mg base CX0 1 A.f_agrees A.d_agrees ["names", "row", "decided"] (spD K 3 (F_agrees A)) := fun_ok T.F_agrees sc_agrees fun cdv Ar outer s H E hr =>
  (eb_cons (es_for PassesOwn.never rfl (ei_zip (by rfl) T.z_zip ((ev_var 0)) ((ev_var 1))) (eg_tup rfl (egs_cons (eg_name (i := 3) n_agrees rfl (by first | exact .inl rfl | exact .inr rfl)) (egs_cons (eg_name (i := 4) n_agrees rfl (by first | exact .inl rfl | exact .inr rfl)) egs_nil)))
  (eb_one (es_if (et_cmp (op_neD (u64 hr)) ne_ok (ev_get2 (u65 hr) ((ev_var 2)) ((ev_var 3)) ((ev_var 4)) ⟨by rfl, by rfl, by rfl, by rfl⟩) ((ev_var 4)) (by rfl))
  (eb_one (es_ret (ev_bl)))
  eb_nil)))
  (eb_one (es_ret (ev_bl))))
/-! ### can_hold -/
abbrev N_can_hold : List Str := ["constraint", "decided", "row"]
theorem n_can_hold : N_can_hold.Nodup := by decide +kernel
theorem sc_can_hold : FnScope N_can_hold ["constraint", "decided"] (defScope s_can_hold) := ⟨rfl, rfl, rfl, by decide +kernel, rfl, by decide +kernel, by decide +kernel⟩
def g_can_hold (A : Ad) : S := (seqS (forS (seqI (bi (getV 0) (kon (.int 1)) oIx)) (gN 2)
  (ifS (tst (callF (F_agrees A) (argCons (bi (getV 0) (kon (.int 0)) oIx) (argCons (getV 2) (argCons (getV 1) argNil)))))
  (rtS (kon (.bl true)))
  nxt))
  (rtS (kon (.bl false))))
def F_can_hold (A : Ad) : Fd := bodyF N_can_hold.length (g_can_hold A)
theorem ok_can_hold (T : Tx K mg A) : FnOk P w K mg base CX0 2 A.f_can_hold A.d_can_hold ["constraint", "decided"] (spD K 2 (F_can_hold A)) := fun_ok T.F_can_hold sc_can_hold fun cdv Ar outer s H E hr =>
  (eb_cons (es_for PassesOwn.never rfl (ei_seq (ev_ix (or_ix (u65 hr)) ix_ok ((ev_var 0)) (ev_int))) (eg_name (i := 2) n_can_hold rfl (by first | exact .inl rfl | exact .inr rfl))
  (eb_one (es_if (et_val (ev_call (ok_agrees T) (hr.mono (by decide)) (by rfl) T.m_agrees T.F_agrees.kp T.b_agrees (ex_cons (ev_ix (or_ix (u65 hr)) ix_ok ((ev_var 0)) (ev_int)) (ex_cons ((ev_var 2)) (ex_cons ((ev_var 1)) ex_nil))) (.cons (.cons (.cons .nil)))))
  (eb_one (es_ret (ev_bl)))
  eb_nil)))
  (eb_one (es_ret (ev_bl))))
/-! ### Rows.tree_of -/
abbrev N_Rows_tree_of : List Str := ["self", "theory", "constraint", "decided", "names", "constraints", "k", "name", "cases", "value", "case"]
theorem n_Rows_tree_of : N_Rows_tree_of.Nodup := by decide +kernel
theorem sc_Rows_tree_of : FnScope N_Rows_tree_of ["self", "theory", "constraint", "decided"] (defScope s_Rows_tree_of) := ⟨rfl, rfl, rfl, by decide +kernel, rfl, by decide +kernel, by decide +kernel⟩
def g_Rows_tree_of (A : Ad) (R : Fd) : S := (seqS (sG (gT 2 (gsC (gN 4) (gsC (gN 5) gsN))) (getV 1))
  (seqS (forS (rng1 (fn (argCons (getV 5) argNil) oLen)) (gN 6)
  (ifS (notT (tst (callF (F_can_hold A) (argCons (bi (getV 5) (getV 6) oIx) (argCons (getV 3) argNil)))))
  (rtS (getV 6))
  nxt))
  (seqS (ifS ((andT (tst (fn (argCons (lcF (seqI (bi (getV 2) (kon (.int 0)) oIx)) [7] (gN 7) (ret true) (asD (bi (getV 7) (getV 3) oIn))) argNil) oAll)) (tst (methF A.C_Rows (F_Rows_holds A) (getV 0) (argCons (getV 2) (argCons (getV 3) argNil))))))
  (rtS (un (kon (.int 1)) oNeg))
  nxt)
  (seqS (forS (seqI (getV 4)) (gN 7)
  (ifS (tsb (bi (getV 7) (getV 3) oNotIn))
  (seqS (sR 8 (mkL (argCons (getV 7) argNil)))
  (seqS (forS (seqI (kon c_VALUES)) (gN 9)
  (seqS (sF 10 (methF A.C_Rows R (getV 0) (argCons (getV 1) (argCons (getV 2) (argCons (starP (getV 3) (getV 7) (getV 9)) argNil)))))
  (seqS (ifS (tsb (bi (getV 10) (kon .non) oIsN))
  (rtS (kon .non))
  nxt)
  (exS (mtV isL 8 (argCons (getV 10) argNil) opAppend)))))
  (rtS (fn (argCons (getV 8) argNil) oTuple))))
  nxt))
  (rtS (kon .non))))))
def F_Rows_tree_of (A : Ad) : Nat → Fd
  | 0 => fun _ => none
  | n + 1 => bodyF N_Rows_tree_of.length (g_Rows_tree_of A (F_Rows_tree_of A n))
theorem ok_Rows_tree_of (T : Tx K mg A) : ∀ n : Nat, FnOk P w K mg base CX0 (2 + n) A.f_Rows_tree_of A.d_Rows_tree_of ["self", "theory", "constraint", "decided"] (spD K 4 (F_Rows_tree_of A n))
  | 0 => fn_none
  | n + 1 => fun_ok T.F_Rows_tree_of sc_Rows_tree_of fun cdv Ar outer s H E hr => by
    have IH := ok_Rows_tree_of T n
    exact (eb_cons (es_asg ((ev_var 1)) (eg_tup rfl (egs_cons (eg_name (i := 4) n_Rows_tree_of rfl (by first | exact .inl rfl | exact .inr rfl)) (egs_cons (eg_name (i := 5) n_Rows_tree_of rfl (by first | exact .inl rfl | exact .inr rfl)) egs_nil))))
  (eb_cons (es_for PassesOwn.never rfl (ei_rng1 (by rfl) T.z_range (ev_callB cr_len len_ok (by rfl) T.z_len bt_len (ex_cons ((ev_var 5)) ex_nil))) (eg_name (i := 6) n_Rows_tree_of rfl (by first | exact .inl rfl | exact .inr rfl))
  (eb_one (es_if (et_not (et_val (ev_call (ok_can_hold T) (hr.mono (Nat.le_trans (show 2 ≤ 2 by decide) (Nat.le_add_right 2 n))) (by rfl) T.m_can_hold T.F_can_hold.kp T.b_can_hold (ex_cons (ev_ix (or_ix (u65 hr)) ix_ok ((ev_var 5)) ((ev_var 6))) (ex_cons ((ev_var 3)) ex_nil)) (.cons (.cons .nil)))))
  (eb_one (es_ret ((ev_var 6))))
  eb_nil)))
  (eb_cons (es_if ((ew_and (et_val (ev_callB (cr_all rfl) all_ok (by rfl) T.z_all bt_all (ex_cons (ev_lc rfl n_Rows_tree_of (ei_seq (ev_ix (or_ix (u65 hr)) ix_ok ((ev_var 2)) (ev_int))) (blkOk_by (own := [("name", 7)]) (by first | rfl | decide)) rfl (fun _ _ _ _ _ => (gc_name (i := 7) n_Rows_tree_of rfl (by first | exact .inl rfl | exact .inr rfl) (by decide) (by first | exact .inl rfl | exact .inr rfl))) (fun _ _ _ _ _ => ets_nil) (fun _ _ _ _ _ => (ev_cmp (or_in (u65 hr)) in_ok ((ev_var 7)) ((ev_var 3)) (by rfl)))) ex_nil))) (ew_and1 (et_val (ev_meth ((ev_var 0)) T.c_Rows T.h_Rows_holds (ok_Rows_holds T) (hr.mono (Nat.le_trans (show 1 ≤ 2 by decide) (Nat.le_add_right 2 n))) T.b_Rows_holds (ex_cons ((ev_var 2)) (ex_cons ((ev_var 3)) ex_nil)) (.cons (.cons .nil)))))).t)
  (eb_one (es_ret (ev_un un_neg neg_ok (ev_int))))
  eb_nil)
  (eb_cons (es_for PassesOwn.never rfl (ei_seq ((ev_var 4))) (eg_name (i := 7) n_Rows_tree_of rfl (by first | exact .inl rfl | exact .inr rfl))
  (eb_one (es_if (et_cmp (or_notIn (u65 hr)) notIn_ok ((ev_var 7)) ((ev_var 3)) (by rfl))
  (eb_cons (es_set (i := 8) n_Rows_tree_of rfl (by first | exact .inl rfl | exact .inr rfl) (ev_lst (ex_cons ((ev_var 7)) ex_nil)))
  (eb_cons (es_for PassesOwn.never rfl (ei_seq ((ev_glob (v := .ref A.a_VALUES) (by rfl) T.v_VALUES rfl T.r_VALUES))) (eg_name (i := 9) n_Rows_tree_of rfl (by first | exact .inl rfl | exact .inr rfl))
  (eb_cons (es_setF (i := 10) n_Rows_tree_of rfl (by first | exact .inl rfl | exact .inr rfl) (ev_meth ((ev_var 0)) T.c_Rows T.h_Rows_tree_of IH hr T.b_Rows_tree_of (ex_cons ((ev_var 1)) (ex_cons ((ev_var 2)) (ex_cons (ev_starP ((ev_var 3)) ((ev_var 7)) ((ev_var 9))) ex_nil))) (.cons (.cons (.cons .nil)))))
  (eb_cons (es_if (et_cmp op_isN isN_ok ((ev_var 10)) (ev_non) (by rfl))
  (eb_one (es_ret (ev_non)))
  eb_nil)
  (eb_one (es_expr (ev_mt ty_l append_ok PySem.F.plainAttrs_list PySem.F.slot_list_append PySem.F.type_list_append (mt_append) rfl (by first | exact Or.inl rfl | exact Or.inr (Or.inl rfl) | exact Or.inr (Or.inr rfl)) (ex_cons ((ev_var 10)) ex_nil)))))))
  (eb_one (es_ret (ev_callT call_tuple_of tuple_ok (by rfl) T.z_tuple bt_tuple (ex_cons ((ev_var 8)) ex_nil))))))
  eb_nil)))
  (eb_one (es_ret (ev_non)))))))
/-! ### Rows.certificate -/
abbrev N_Rows_certificate : List Str := ["self", "theory", "constraint"]
theorem n_Rows_certificate : N_Rows_certificate.Nodup := by decide +kernel
theorem sc_Rows_certificate : FnScope N_Rows_certificate ["self", "theory", "constraint"] (defScope s_Rows_certificate) := ⟨rfl, rfl, rfl, by decide +kernel, rfl, by decide +kernel, by decide +kernel⟩
def g_Rows_certificate (A : Ad) : S := (rtS (methF A.C_Rows (F_Rows_tree_of A 12) (getV 0) (argCons (getV 1) (argCons (getV 2) (argCons (newK) argNil)))))
def F_Rows_certificate (A : Ad) : Fd := bodyF N_Rows_certificate.length (g_Rows_certificate A)
theorem ok_Rows_certificate (T : Tx K mg A) : FnOk P w K mg base CX0 15 A.f_Rows_certificate A.d_Rows_certificate ["self", "theory", "constraint"] (spD K 3 (F_Rows_certificate A)) := fun_ok T.F_Rows_certificate sc_Rows_certificate fun cdv Ar outer s H E hr =>
  (eb_one (es_ret (ev_meth ((ev_var 0)) T.c_Rows T.h_Rows_tree_of (ok_Rows_tree_of T 12) (hr.mono (by decide)) T.b_Rows_tree_of (ex_cons ((ev_var 1)) (ex_cons ((ev_var 2)) (ex_cons (ev_dk0) ex_nil))) (.cons (.cons (.cons .nil))))))
/-! ### merge_names -/
abbrev N_merge_names : List Str := ["lists", "found", "names", "name"]
theorem n_merge_names : N_merge_names.Nodup := by decide +kernel
theorem sc_merge_names : FnScope N_merge_names ["lists"] (defScope s_merge_names) := ⟨rfl, rfl, rfl, by decide +kernel, rfl, by decide +kernel, by decide +kernel⟩
def g_merge_names (A : Ad) : S := (seqS (sR 1 (newK))
  (seqS (forS (seqI (getV 0)) (gN 2)
  (forS (seqI (getV 2)) (gN 3)
  (sSub 1 (kon (.bl true)) (getV 3))))
  (rtS (fn (argCons (fn (argCons (fn (argCons (getV 1) argNil) oList) argNil) oSorted) argNil) oTuple))))
def F_merge_names (A : Ad) : Fd := bodyF N_merge_names.length (g_merge_names A)
theorem ok_merge_names (T : Tx K mg A) : FnR P w K mg base CX0 1 A.f_merge_names (spS K (F_merge_names A)) := fun_star T.F_merge_names sc_merge_names (fun _ _ _ _ _ _ us => by cases us <;> rfl) fun cdv Ar outer s H E hr =>
  (eb_cons (es_set (i := 1) n_merge_names rfl (by first | exact .inl rfl | exact .inr rfl) (ev_dk0))
  (eb_cons (es_for PassesOwn.never rfl (ei_seq ((ev_var 0))) (eg_name (i := 2) n_merge_names rfl (by first | exact .inl rfl | exact .inr rfl))
  (eb_one (es_for PassesOwn.never rfl (ei_seq ((ev_var 2))) (eg_name (i := 3) n_merge_names rfl (by first | exact .inl rfl | exact .inr rfl))
  (eb_one (es_sub (u65 hr) (i := 1) rfl (by first | exact Or.inl rfl | exact Or.inr (Or.inl rfl) | exact Or.inr (Or.inr rfl)) (ev_bl) ((ev_var 3)))))))
  (eb_one (es_ret (ev_callT call_tuple_of tuple_ok (by rfl) T.z_tuple bt_tuple (ex_cons (ev_callB (cr_sortD (u65 hr)) sortD_ok (by rfl) T.z_sorted bt_sorted (ex_cons (ev_callT (cr_list rfl) list_ok (by rfl) T.z_list bt_list (ex_cons ((ev_var 1)) ex_nil)) ex_nil)) ex_nil))))))
/-! ### join_tables -/
abbrev N_join_tables : List Str := ["first", "second", "names", "rows", "row", "decided", "other", "values", "name"]
theorem n_join_tables : N_join_tables.Nodup := by decide +kernel
theorem sc_join_tables : FnScope N_join_tables ["first", "second"] (defScope s_join_tables) := ⟨rfl, rfl, rfl, by decide +kernel, rfl, by decide +kernel, by decide +kernel⟩
def g_join_tables (A : Ad) : S := (seqS (sF 2 (callSt (F_merge_names A) (argCons (bi (getV 0) (kon (.int 0)) oIx) (argCons (bi (getV 1) (kon (.int 0)) oIx) argNil))))
  (seqS (sR 3 (mkL argNil))
  (seqS (forS (seqI (bi (getV 0) (kon (.int 1)) oIx)) (gN 4)
  (seqS (sF 5 (fn (argCons (bi (getV 0) (kon (.int 0)) oIx) (argCons (getV 4) argNil)) oDictZip))
  (forS (seqI (bi (getV 1) (kon (.int 1)) oIx)) (gN 6)
  (ifS (tst (callF (F_agrees A) (argCons (bi (getV 1) (kon (.int 0)) oIx) (argCons (getV 6) (argCons (getV 5) argNil)))))
  (seqS (sF 7 (stars (fn (argCons (bi (getV 1) (kon (.int 0)) oIx) (argCons (getV 6) argNil)) oDictZip) (getV 5)))
  (exS (mtV isL 3 (argCons (fn (argCons (lcF (seqI (getV 2)) [8] (gN 8) (ret true) (asD (bi (getV 7) (getV 8) oIx))) argNil) oTuple) argNil) opAppend)))
  nxt))))
  (rtS (mkT (argCons (getV 2) (argCons (fn (argCons (fn (argCons (getV 3) argNil) oSorted) argNil) oTuple) argNil)))))))
def F_join_tables (A : Ad) : Fd := bodyF N_join_tables.length (g_join_tables A)
theorem ok_join_tables (T : Tx K mg A) : FnOk P w K mg base CX0 2 A.f_join_tables A.d_join_tables ["first", "second"] (spD K 2 (F_join_tables A)) := fun_ok T.F_join_tables sc_join_tables fun cdv Ar outer s H E hr =>
  (eb_cons (es_setF (i := 2) n_join_tables rfl (by first | exact .inl rfl | exact .inr rfl) (ev_callSt (ok_merge_names T) (hr.mono (by decide)) (by rfl) T.m_merge_names T.F_merge_names.kp (ex_cons (ev_ix (or_ix (u65 hr)) ix_ok ((ev_var 0)) (ev_int)) (ex_cons (ev_ix (or_ix (u65 hr)) ix_ok ((ev_var 1)) (ev_int)) ex_nil))))
  (eb_cons (es_set (i := 3) n_join_tables rfl (by first | exact .inl rfl | exact .inr rfl) (ev_lst ex_nil))
  (eb_cons (es_for PassesOwn.never rfl (ei_seq (ev_ix (or_ix (u65 hr)) ix_ok ((ev_var 0)) (ev_int))) (eg_name (i := 4) n_join_tables rfl (by first | exact .inl rfl | exact .inr rfl))
  (eb_cons (es_setF (i := 5) n_join_tables rfl (by first | exact .inl rfl | exact .inr rfl) (ev_dictzip rfl (by rfl) T.z_dict (by rfl) T.z_zip (ex_cons (ev_ix (or_ix (u65 hr)) ix_ok ((ev_var 0)) (ev_int)) (ex_cons ((ev_var 4)) ex_nil))))
  (eb_one (es_for PassesOwn.never rfl (ei_seq (ev_ix (or_ix (u65 hr)) ix_ok ((ev_var 1)) (ev_int))) (eg_name (i := 6) n_join_tables rfl (by first | exact .inl rfl | exact .inr rfl))
  (eb_one (es_if (et_val (ev_call (ok_agrees T) (hr.mono (by decide)) (by rfl) T.m_agrees T.F_agrees.kp T.b_agrees (ex_cons (ev_ix (or_ix (u65 hr)) ix_ok ((ev_var 1)) (ev_int)) (ex_cons ((ev_var 6)) (ex_cons ((ev_var 5)) ex_nil))) (.cons (.cons (.cons .nil)))))
  (eb_cons (es_setF (i := 7) n_join_tables rfl (by first | exact .inl rfl | exact .inr rfl) (ev_stars (ev_dictzip rfl (by rfl) T.z_dict (by rfl) T.z_zip (ex_cons (ev_ix (or_ix (u65 hr)) ix_ok ((ev_var 1)) (ev_int)) (ex_cons ((ev_var 6)) ex_nil))) ((ev_var 5))))
  (eb_one (es_expr (ev_mt ty_l append_ok PySem.F.plainAttrs_list PySem.F.slot_list_append PySem.F.type_list_append (mt_append) rfl (by first | exact Or.inl rfl | exact Or.inr (Or.inl rfl) | exact Or.inr (Or.inr rfl)) (ex_cons (ev_callT call_tuple_of tuple_ok (by rfl) T.z_tuple bt_tuple (ex_cons (ev_lc rfl n_join_tables (ei_seq ((ev_var 2))) (blkOk_by (own := [("name", 8)]) (by first | rfl | decide)) rfl (fun _ _ _ _ _ => (gc_name (i := 8) n_join_tables rfl (by first | exact .inl rfl | exact .inr rfl) (by decide) (by first | exact .inl rfl | exact .inr rfl))) (fun _ _ _ _ _ => ets_nil) (fun _ _ _ _ _ => (ev_ix (or_ix (u65 hr)) ix_ok ((ev_var 7)) ((ev_var 8))))) ex_nil)) ex_nil)))))
  eb_nil))))))
  (eb_one (es_ret (ev_tup (ex_cons ((ev_var 2)) (ex_cons (ev_callT call_tuple_of tuple_ok (by rfl) T.z_tuple bt_tuple (ex_cons (ev_callB (cr_sortD (u65 hr)) sortD_ok (by rfl) T.z_sorted bt_sorted (ex_cons ((ev_var 3)) ex_nil)) ex_nil)) ex_nil))))))))
/-! ### all_rows -/
abbrev N_all_rows : List Str := ["count", "rows", "_", "row", "value"]
theorem n_all_rows : N_all_rows.Nodup := by decide +kernel
theorem sc_all_rows : FnScope N_all_rows ["count"] (defScope s_all_rows) := ⟨rfl, rfl, rfl, by decide +kernel, rfl, by decide +kernel, by decide +kernel⟩
def g_all_rows (A : Ad) : S := (seqS (sF 1 (mkL (argCons (mkT argNil) argNil)))
  (seqS (forS (rng1 (getV 0)) (gN 2)
  (sF 1 (lc2F (seqI (getV 1)) [3, 4] (gN 3) (ret true) (seqI (kon c_VALUES)) [4] (gN 4) (ret true) (asD (bi (getV 3) (mkT (argCons (getV 4) argNil)) oAdd)))))
  (rtS (fn (argCons (getV 1) argNil) oTuple))))
def F_all_rows (A : Ad) : Fd := bodyF N_all_rows.length (g_all_rows A)
theorem ok_all_rows (T : Tx K mg A) : FnOk P w K mg base CX0 1 A.f_all_rows A.d_all_rows ["count"] (spD K 1 (F_all_rows A)) := fun_ok T.F_all_rows sc_all_rows fun cdv Ar outer s H E hr =>
  (eb_cons (es_setF (i := 1) n_all_rows rfl (by first | exact .inl rfl | exact .inr rfl) (ev_lst (ex_cons (ev_tup ex_nil) ex_nil)))
  (eb_cons (es_for PassesOwn.never rfl (ei_rng1 (by rfl) T.z_range ((ev_var 0))) (eg_name (i := 2) n_all_rows rfl (by first | exact .inl rfl | exact .inr rfl))
  (eb_one (es_lc2F rfl n_all_rows rfl rfl (sw_true rfl rfl rfl (by rfl)) (ei_seq ((ev_var 1))) (blkOk_by (own := [("row", 3), ("value", 4)]) (by first | rfl | decide)) rfl (by decide) (fun _ _ _ _ _ => (gc_name (i := 3) n_all_rows rfl (by first | exact .inl rfl | exact .inr rfl) (by decide) (by first | exact .inl rfl | exact .inr rfl))) (fun _ _ _ _ _ => ets_nil) (fun _ _ _ _ _ => (ei_seq ((ev_glob (v := .ref A.a_VALUES) (by rfl) T.v_VALUES rfl T.r_VALUES)))) (fun _ _ _ _ _ => (gc_name (i := 4) n_all_rows rfl (by first | exact .inl rfl | exact .inr rfl) (by decide) (by first | exact .inl rfl | exact .inr rfl))) (fun _ _ _ _ _ => ets_nil) (fun _ _ _ _ _ => (ev_op or_add add_ok ((ev_var 3)) (ev_tup (ex_cons ((ev_var 4)) ex_nil)))))))
  (eb_one (es_ret (ev_callT call_tuple_of tuple_ok (by rfl) T.z_tuple bt_tuple (ex_cons ((ev_var 1)) ex_nil))))))
/-! ### Rows.normal -/
abbrev N_Rows_normal : List Str := ["self", "theory", "names", "joined", "constraint", "name"]
theorem n_Rows_normal : N_Rows_normal.Nodup := by decide +kernel
theorem sc_Rows_normal : FnScope N_Rows_normal ["self", "theory"] (defScope s_Rows_normal) := ⟨rfl, rfl, rfl, by decide +kernel, rfl, by decide +kernel, by decide +kernel⟩
def g_Rows_normal (A : Ad) : S := (seqS (sF 2 (bi (getV 1) (kon (.int 0)) oIx))
  (seqS (sF 3 (mkT (argCons (mkT argNil) (argCons (mkT (argCons (mkT argNil) argNil)) argNil))))
  (seqS (forS (seqI (bi (getV 1) (kon (.int 1)) oIx)) (gN 4)
  (sF 3 (callF (F_join_tables A) (argCons (getV 3) (argCons (getV 4) argNil)))))
  (seqS (forS (seqI (getV 2)) (gN 5)
  (ifS (tsb (bi (getV 5) (bi (getV 3) (kon (.int 0)) oIx) oNotIn))
  (sF 3 (callF (F_join_tables A) (argCons (getV 3) (argCons (mkT (argCons (mkT (argCons (getV 5) argNil)) (argCons (callF (F_all_rows A) (argCons (kon (.int 1)) argNil)) argNil))) argNil))))
  nxt))
  (rtS (mkT (argCons (getV 2) (argCons (mkT (argCons (getV 3) argNil)) argNil))))))))
def F_Rows_normal (A : Ad) : Fd := bodyF N_Rows_normal.length (g_Rows_normal A)
theorem ok_Rows_normal (T : Tx K mg A) : FnOk P w K mg base CX0 3 A.f_Rows_normal A.d_Rows_normal ["self", "theory"] (spD K 2 (F_Rows_normal A)) := fun_ok T.F_Rows_normal sc_Rows_normal fun cdv Ar outer s H E hr =>
  (eb_cons (es_setF (i := 2) n_Rows_normal rfl (by first | exact .inl rfl | exact .inr rfl) (ev_ix (or_ix (u65 hr)) ix_ok ((ev_var 1)) (ev_int)))
  (eb_cons (es_setF (i := 3) n_Rows_normal rfl (by first | exact .inl rfl | exact .inr rfl) (ev_tup (ex_cons (ev_tup ex_nil) (ex_cons (ev_tup (ex_cons (ev_tup ex_nil) ex_nil)) ex_nil))))
  (eb_cons (es_for PassesOwn.never rfl (ei_seq (ev_ix (or_ix (u65 hr)) ix_ok ((ev_var 1)) (ev_int))) (eg_name (i := 4) n_Rows_normal rfl (by first | exact .inl rfl | exact .inr rfl))
  (eb_one (es_setF (i := 3) n_Rows_normal rfl (by first | exact .inl rfl | exact .inr rfl) (ev_call (ok_join_tables T) (hr.mono (by decide)) (by rfl) T.m_join_tables T.F_join_tables.kp T.b_join_tables (ex_cons ((ev_var 3)) (ex_cons ((ev_var 4)) ex_nil)) (.cons (.cons .nil))))))
  (eb_cons (es_for PassesOwn.never rfl (ei_seq ((ev_var 2))) (eg_name (i := 5) n_Rows_normal rfl (by first | exact .inl rfl | exact .inr rfl))
  (eb_one (es_if (et_cmp (or_notIn (u65 hr)) notIn_ok ((ev_var 5)) (ev_ix (or_ix (u65 hr)) ix_ok ((ev_var 3)) (ev_int)) (by rfl))
  (eb_one (es_setF (i := 3) n_Rows_normal rfl (by first | exact .inl rfl | exact .inr rfl) (ev_call (ok_join_tables T) (hr.mono (by decide)) (by rfl) T.m_join_tables T.F_join_tables.kp T.b_join_tables (ex_cons ((ev_var 3)) (ex_cons (ev_tup (ex_cons (ev_tup (ex_cons ((ev_var 5)) ex_nil)) (ex_cons (ev_call (ok_all_rows T) (hr.mono (by decide)) (by rfl) T.m_all_rows T.F_all_rows.kp T.b_all_rows (ex_cons (ev_int) ex_nil) (.cons .nil)) ex_nil))) ex_nil)) (.cons (.cons .nil)))))
  eb_nil)))
  (eb_one (es_ret (ev_tup (ex_cons ((ev_var 2)) (ex_cons (ev_tup (ex_cons ((ev_var 3)) ex_nil)) ex_nil)))))))))
/-! ### Rows.counterexample -/
abbrev N_Rows_counterexample : List Str := ["self", "theory", "constraint", "names", "constraints", "row", "found"]
theorem n_Rows_counterexample : N_Rows_counterexample.Nodup := by decide +kernel
theorem sc_Rows_counterexample : FnScope N_Rows_counterexample ["self", "theory", "constraint"] (defScope s_Rows_counterexample) := ⟨rfl, rfl, rfl, by decide +kernel, rfl, by decide +kernel, by decide +kernel⟩
def g_Rows_counterexample (A : Ad) : S := (seqS (sG (gT 2 (gsC (gN 3) (gsC (gN 4) gsN))) (methF A.C_Rows (F_Rows_normal A) (getV 0) (argCons (getV 1) argNil)))
  (seqS (forS (seqI (bi (bi (getV 4) (kon (.int 0)) oIx) (kon (.int 1)) oIx)) (gN 5)
  (seqS (sR 6 (fn (argCons (getV 3) (argCons (getV 5) argNil)) oDictZip))
  (ifS (notT (tst (bor 6 (methF A.C_Rows (F_Rows_holds A) (getV 0) (argCons (getV 2) (argCons (getV 6) argNil))))))
  (rtS (getV 6))
  nxt)))
  (rtS (kon .non))))
def F_Rows_counterexample (A : Ad) : Fd := bodyF N_Rows_counterexample.length (g_Rows_counterexample A)
theorem ok_Rows_counterexample (T : Tx K mg A) : FnOk P w K mg base CX0 4 A.f_Rows_counterexample A.d_Rows_counterexample ["self", "theory", "constraint"] (spD K 3 (F_Rows_counterexample A)) := fun_ok T.F_Rows_counterexample sc_Rows_counterexample fun cdv Ar outer s H E hr =>
  (eb_cons (es_asg (ev_meth ((ev_var 0)) T.c_Rows T.h_Rows_normal (ok_Rows_normal T) (hr.mono (by decide)) T.b_Rows_normal (ex_cons ((ev_var 1)) ex_nil) (.cons .nil)) (eg_tup rfl (egs_cons (eg_name (i := 3) n_Rows_counterexample rfl (by first | exact .inl rfl | exact .inr rfl)) (egs_cons (eg_name (i := 4) n_Rows_counterexample rfl (by first | exact .inl rfl | exact .inr rfl)) egs_nil))))
  (eb_cons (es_for PassesOwn.never rfl (ei_seq (ev_ix (or_ix (u65 hr)) ix_ok (ev_ix (or_ix (u65 hr)) ix_ok ((ev_var 4)) (ev_int)) (ev_int))) (eg_name (i := 5) n_Rows_counterexample rfl (by first | exact .inl rfl | exact .inr rfl))
  (eb_cons (es_set (i := 6) n_Rows_counterexample rfl (by first | exact .inl rfl | exact .inr rfl) (ev_dictzip rfl (by rfl) T.z_dict (by rfl) T.z_zip (ex_cons ((ev_var 3)) (ex_cons ((ev_var 5)) ex_nil))))
  (eb_one (es_if (et_not (et_val (ev_bor 6 (ev_meth ((ev_var 0)) T.c_Rows T.h_Rows_holds (ok_Rows_holds T) (hr.mono (by decide)) T.b_Rows_holds (ex_cons ((ev_var 2)) (ex_cons ((ev_var 6)) ex_nil)) (.cons (.cons .nil))))))
  (eb_one (es_ret (ev_var 6)))
  eb_nil))))
  (eb_one (es_ret (ev_non)))))
/-! ### _law_can_hold -/
abbrev N__law_can_hold : List Str := ["table", "decided", "row", "k"]
theorem n__law_can_hold : N__law_can_hold.Nodup := by decide +kernel
theorem sc__law_can_hold : FnScope N__law_can_hold ["table", "decided"] (defScope s__law_can_hold) := ⟨rfl, rfl, rfl, by decide +kernel, rfl, by decide +kernel, by decide +kernel⟩
def g__law_can_hold (A : Ad) : S := (seqS (forS (seqI (bi (getV 0) (kon (.int 1)) oIx)) (gN 2)
  (ifS (tsb (bi (fn (argCons (lcF (rng1 (fn (argCons (getV 2) argNil) oLen)) [3] (gN 3) (tsb (bi (get2 (getV 1) (bi (bi (getV 0) (kon (.int 0)) oIx) (getV 3) oIx) (bi (getV 2) (getV 3) oIx)) (bi (getV 2) (getV 3) oIx) oNe)) (asD (getV 3))) argNil) oLen) (kon (.int 0)) oEq))
  (rtS (kon (.bl true)))
  nxt))
  (rtS (kon (.bl false))))
def F__law_can_hold (A : Ad) : Fd := bodyF N__law_can_hold.length (g__law_can_hold A)
theorem ok__law_can_hold (T : Tx K mg A) : FnOk P w K mg base CX0 1 A.f__law_can_hold A.d__law_can_hold ["table", "decided"] (spD K 2 (F__law_can_hold A)) := fun_ok T.F__law_can_hold sc__law_can_hold fun cdv Ar outer s H E hr =>
  (eb_cons (es_for PassesOwn.never rfl (ei_seq (ev_ix (or_ix (u65 hr)) ix_ok ((ev_var 0)) (ev_int))) (eg_name (i := 2) n__law_can_hold rfl (by first | exact .inl rfl | exact .inr rfl))
  (eb_one (es_if (et_cmp (op_eqD (u64 hr)) eq_ok (ev_callB cr_len len_ok (by rfl) T.z_len bt_len (ex_cons (ev_lc rfl n__law_can_hold (ei_rng1 (by rfl) T.z_range (ev_callB cr_len len_ok (by rfl) T.z_len bt_len (ex_cons ((ev_var 2)) ex_nil))) (blkOk_by (own := [("k", 3)]) (by first | rfl | decide)) rfl (fun _ _ _ _ _ => (gc_name (i := 3) n__law_can_hold rfl (by first | exact .inl rfl | exact .inr rfl) (by decide) (by first | exact .inl rfl | exact .inr rfl))) (fun _ _ _ _ _ => (ets_one (et_cmp (op_neD (u64 hr)) ne_ok (ev_get2 (u65 hr) ((ev_var 1)) (ev_ix (or_ix (u65 hr)) ix_ok (ev_ix (or_ix (u65 hr)) ix_ok ((ev_var 0)) (ev_int)) ((ev_var 3))) (ev_ix (or_ix (u65 hr)) ix_ok ((ev_var 2)) ((ev_var 3))) ⟨by rfl, by rfl, by rfl, by rfl⟩) (ev_ix (or_ix (u65 hr)) ix_ok ((ev_var 2)) ((ev_var 3))) (by rfl)))) (fun _ _ _ _ _ => ((ev_var 3)))) ex_nil)) (ev_int) (by rfl))
  (eb_one (es_ret (ev_bl)))
  eb_nil)))
  (eb_one (es_ret (ev_bl))))
/-! ### _law_made -/
abbrev N__law_made : List Str := ["source", "theory", "order", "decided", "failing", "k", "branches", "value", "more", "name"]
theorem n__law_made : N__law_made.Nodup := by decide +kernel
theorem sc__law_made : FnScope N__law_made ["source", "theory", "order", "decided"] (defScope s__law_made) := ⟨rfl, rfl, rfl, by decide +kernel, rfl, by decide +kernel, by decide +kernel⟩
def g__law_made (A : Ad) (R : Fd) : S := (seqS (sF 4 (lcF (rng1 (fn (argCons (bi (getV 1) (kon (.int 1)) oIx) argNil) oLen)) [5] (gN 5) (notT (tst (callF (F__law_can_hold A) (argCons (bi (bi (getV 1) (kon (.int 1)) oIx) (getV 5) oIx) (argCons (getV 3) argNil))))) (asD (getV 5))))
  (seqS (ifS ((andT (tsb (bi (fn (argCons (getV 4) argNil) oLen) (kon (.int 0)) oGt)) ((orT (tsb (bi (fn (argCons (getV 2) argNil) oLen) (kon (.int 0)) oEq)) (tsb (bi (callF (F__law_draw A) (argCons (getV 0) (argCons (kon (.int 3)) argNil))) (kon (.int 0)) oGt))))))
  (rtS (bi (getV 4) (callF (F__law_draw A) (argCons (getV 0) (argCons (fn (argCons (getV 4) argNil) oLen) argNil))) oIx))
  nxt)
  (seqS (ifS (tsb (bi (fn (argCons (getV 2) argNil) oLen) (kon (.int 0)) oEq))
  (rtS (un (kon (.int 1)) oNeg))
  nxt)
  (seqS (sR 6 (mkL argNil))
  (seqS (forS (rng1 (kon (.int 3))) (gN 7)
  (seqS (sR 8 (dspK (pairsC (bi (getV 2) (kon (.int 0)) oIx) (getV 7) pairsN)))
  (seqS (forS (seqI (getV 3)) (gN 9)
  (sSub 8 (bi (getV 3) (getV 9) oIx) (getV 9)))
  (exS (mtV isL 6 (argCons (callF R (argCons (getV 0) (argCons (getV 1) (argCons (slV (getV 2) (soO (kon (.int 1))) noO) (argCons (fzV2 8) argNil))))) argNil) opAppend)))))
  (rtS (mkT (argCons (bi (getV 2) (kon (.int 0)) oIx) (argCons (bi (getV 6) (kon (.int 0)) oIx) (argCons (bi (getV 6) (kon (.int 1)) oIx) (argCons (bi (getV 6) (kon (.int 2)) oIx) argNil)))))))))))
def F__law_made (A : Ad) : Nat → Fd
  | 0 => fun _ => none
  | n + 1 => bodyF N__law_made.length (g__law_made A (F__law_made A n))
theorem ok__law_made (T : Tx K mg A) : ∀ n : Nat, FnOk P w K mg base CX0 (1 + n) A.f__law_made A.d__law_made ["source", "theory", "order", "decided"] (spD K 4 (F__law_made A n))
  | 0 => fn_none
  | n + 1 => fun_ok T.F__law_made sc__law_made fun cdv Ar outer s H E hr => by
    have IH := ok__law_made T n
    exact (eb_cons (es_lc true rfl n__law_made rfl rfl (sw_true rfl rfl rfl (by rfl)) (ei_rng1 (by rfl) T.z_range (ev_callB cr_len len_ok (by rfl) T.z_len bt_len (ex_cons (ev_ix (or_ix (u65 hr)) ix_ok ((ev_var 1)) (ev_int)) ex_nil))) (blkOk_by (own := [("k", 5)]) (by first | rfl | decide)) rfl (fun _ _ _ _ _ => (gc_name (i := 5) n__law_made rfl (by first | exact .inl rfl | exact .inr rfl) (by decide) (by first | exact .inl rfl | exact .inr rfl))) (fun _ _ _ _ _ => (ets_one (et_not (et_val (ev_call (ok__law_can_hold T) (hr.mono (Nat.le_trans (show 1 ≤ 1 by decide) (Nat.le_add_right 1 n))) (by rfl) T.m__law_can_hold T.F__law_can_hold.kp T.b__law_can_hold (ex_cons (ev_ix (or_ix (u65 hr)) ix_ok (ev_ix (or_ix (u65 hr)) ix_ok ((ev_var 1)) (ev_int)) ((ev_var 5))) (ex_cons ((ev_var 3)) ex_nil)) (.cons (.cons .nil))))))) (fun _ _ _ _ _ => ((ev_var 5))))
  (eb_cons (es_if ((ew_and (et_cmp or_gt gt_ok (ev_callB cr_len len_ok (by rfl) T.z_len bt_len (ex_cons ((ev_var 4)) ex_nil)) (ev_int) (by rfl)) (ew_and1 ((ew_or (et_cmp (op_eqD (u64 hr)) eq_ok (ev_callB cr_len len_ok (by rfl) T.z_len bt_len (ex_cons ((ev_var 2)) ex_nil)) (ev_int) (by rfl)) (ew_or1 (et_cmp or_gt gt_ok (ev_call (ok__law_draw T) (hr.mono (Nat.le_trans (show 1 ≤ 1 by decide) (Nat.le_add_right 1 n))) (by rfl) T.m__law_draw T.F__law_draw.kp T.b__law_draw (ex_cons ((ev_var 0)) (ex_cons (ev_int) ex_nil)) (.cons (.cons .nil))) (ev_int) (by rfl)))).t))).t)
  (eb_one (es_ret (ev_ix (or_ix (u65 hr)) ix_ok ((ev_var 4)) (ev_call (ok__law_draw T) (hr.mono (Nat.le_trans (show 1 ≤ 1 by decide) (Nat.le_add_right 1 n))) (by rfl) T.m__law_draw T.F__law_draw.kp T.b__law_draw (ex_cons ((ev_var 0)) (ex_cons (ev_callB cr_len len_ok (by rfl) T.z_len bt_len (ex_cons ((ev_var 4)) ex_nil)) ex_nil)) (.cons (.cons .nil))))))
  eb_nil)
  (eb_cons (es_if (et_cmp (op_eqD (u64 hr)) eq_ok (ev_callB cr_len len_ok (by rfl) T.z_len bt_len (ex_cons ((ev_var 2)) ex_nil)) (ev_int) (by rfl))
  (eb_one (es_ret (ev_un un_neg neg_ok (ev_int))))
  eb_nil)
  (eb_cons (es_set (i := 6) n__law_made rfl (by first | exact .inl rfl | exact .inr rfl) (ev_lst ex_nil))
  (eb_cons (es_for PassesOwn.never rfl (ei_rng1 (by rfl) T.z_range (ev_int)) (eg_name (i := 7) n__law_made rfl (by first | exact .inl rfl | exact .inr rfl))
  (eb_cons (es_set (i := 8) n__law_made rfl (by first | exact .inl rfl | exact .inr rfl) (ev_dsp (ep_cons (ev_ix (or_ix (u65 hr)) ix_ok ((ev_var 2)) (ev_int)) ((ev_var 7)) ep_nil) (by rfl) (by rfl) (by simp) (by decide) (fun cs r cs' h => Nat.le_trans ((pn_cons pn_nil) cs r cs' h) (by decide))))
  (eb_cons (es_for PassesOwn.never rfl (ei_seq ((ev_var 3))) (eg_name (i := 9) n__law_made rfl (by first | exact .inl rfl | exact .inr rfl))
  (eb_one (es_sub (u65 hr) (i := 8) rfl (by first | exact Or.inl rfl | exact Or.inr (Or.inl rfl) | exact Or.inr (Or.inr rfl)) (ev_ix (or_ix (u65 hr)) ix_ok ((ev_var 3)) ((ev_var 9))) ((ev_var 9)))))
  (eb_one (es_expr (ev_mt ty_l append_ok PySem.F.plainAttrs_list PySem.F.slot_list_append PySem.F.type_list_append (mt_append) rfl (by first | exact Or.inl rfl | exact Or.inr (Or.inl rfl) | exact Or.inr (Or.inr rfl)) (ex_cons (ev_call IH hr (by rfl) T.m__law_made T.F__law_made.kp T.b__law_made (ex_cons ((ev_var 0)) (ex_cons ((ev_var 1)) (ex_cons (ev_sl ((ev_var 2)) (eo_so (ev_int)) eo_no) (ex_cons ((ev_fz 8)) ex_nil)))) (.cons (.cons (.cons (.cons .nil))))) ex_nil)))))))
  (eb_one (es_ret (ev_tup (ex_cons (ev_ix (or_ix (u65 hr)) ix_ok ((ev_var 2)) (ev_int)) (ex_cons (ev_ix (or_ix (u65 hr)) ix_ok ((ev_var 6)) (ev_int)) (ex_cons (ev_ix (or_ix (u65 hr)) ix_ok ((ev_var 6)) (ev_int)) (ex_cons (ev_ix (or_ix (u65 hr)) ix_ok ((ev_var 6)) (ev_int)) ex_nil))))))))))))
/-! ### _law_order -/
abbrev N__law_order : List Str := ["source", "names", "left", "order", "name"]
theorem n__law_order : N__law_order.Nodup := by decide +kernel
theorem sc__law_order : FnScope N__law_order ["source", "names"] (defScope s__law_order) := ⟨rfl, rfl, rfl, by decide +kernel, rfl, by decide +kernel, by decide +kernel⟩
def g__law_order (A : Ad) : S := (seqS (sR 2 (fn (argCons (getV 1) argNil) oList))
  (seqS (sR 3 (mkL argNil))
  (seqS (forS (seqI (getV 1)) (gN 4)
  (exS (mtV isL 3 (argCons (mtV isL 2 (argCons (callF (F__law_draw A) (argCons (getV 0) (argCons (fn (argCons (getV 2) argNil) oLen) argNil))) argNil) opPopAt) argNil) opAppend)))
  (rtS (getV 3)))))
def F__law_order (A : Ad) : Fd := bodyF N__law_order.length (g__law_order A)
theorem ok__law_order (T : Tx K mg A) : FnOk P w K mg base CX0 2 A.f__law_order A.d__law_order ["source", "names"] (spD K 2 (F__law_order A)) := fun_ok T.F__law_order sc__law_order fun cdv Ar outer s H E hr =>
  (eb_cons (es_set (i := 2) n__law_order rfl (by first | exact .inl rfl | exact .inr rfl) (ev_callT (cr_list rfl) list_ok (by rfl) T.z_list bt_list (ex_cons ((ev_var 1)) ex_nil)))
  (eb_cons (es_set (i := 3) n__law_order rfl (by first | exact .inl rfl | exact .inr rfl) (ev_lst ex_nil))
  (eb_cons (es_for PassesOwn.never rfl (ei_seq ((ev_var 1))) (eg_name (i := 4) n__law_order rfl (by first | exact .inl rfl | exact .inr rfl))
  (eb_one (es_expr (ev_mt ty_l append_ok PySem.F.plainAttrs_list PySem.F.slot_list_append PySem.F.type_list_append (mt_append) rfl (by first | exact Or.inl rfl | exact Or.inr (Or.inl rfl) | exact Or.inr (Or.inr rfl)) (ex_cons (ev_mt ty_l popAt_ok PySem.F.plainAttrs_list PySem.F.slot_list_pop PySem.F.type_list_pop mt_popAt rfl (by first | exact Or.inl rfl | exact Or.inr (Or.inl rfl) | exact Or.inr (Or.inr rfl)) (ex_cons (ev_call (ok__law_draw T) (hr.mono (by decide)) (by rfl) T.m__law_draw T.F__law_draw.kp T.b__law_draw (ex_cons ((ev_var 0)) (ex_cons (ev_callB cr_len len_ok (by rfl) T.z_len bt_len (ex_cons ((ev_var 2)) ex_nil)) ex_nil)) (.cons (.cons .nil))) ex_nil)) ex_nil)))))
  (eb_one (es_ret (ev_var 3))))))
/-! ### Rows.tree_shows -/
abbrev N_Rows_tree_shows : List Str := ["self", "theory", "constraint", "tree", "decided", "name", "value"]
theorem n_Rows_tree_shows : N_Rows_tree_shows.Nodup := by decide +kernel
theorem sc_Rows_tree_shows : FnScope N_Rows_tree_shows ["self", "theory", "constraint", "tree", "decided"] (defScope s_Rows_tree_shows) := ⟨rfl, rfl, rfl, by decide +kernel, rfl, by decide +kernel, by decide +kernel⟩
def g_Rows_tree_shows (A : Ad) (R : Fd) : S := (seqS (ifS (tst (isi (getV 3) .int))
  (seqS (ifS (tsb (bi (getV 3) (un (kon (.int 1)) oNeg) oEq))
  (rtS ((andV (fn (argCons (lcF (seqI (bi (getV 2) (kon (.int 0)) oIx)) [5] (gN 5) (ret true) (asD (bi (getV 5) (getV 4) oIn))) argNil) oAll) (methF A.C_Rows (F_Rows_holds A) (getV 0) (argCons (getV 2) (argCons (getV 4) argNil))))))
  nxt)
  (rtS ((andV (chain (kon (.int 0)) (getV 3) (fn (argCons (bi (getV 1) (kon (.int 1)) oIx) argNil) oLen) oLe oLt) (notV (callF (F_can_hold A) (argCons (bi (bi (getV 1) (kon (.int 1)) oIx) (getV 3) oIx) (argCons (getV 4) argNil))))))))
  nxt)
  (seqS (sF 5 (bi (getV 3) (kon (.int 0)) oIx))
  (seqS (ifS ((orT (tsb (bi (getV 5) (bi (getV 1) (kon (.int 0)) oIx) oNotIn)) (tsb (bi (getV 5) (getV 4) oIn))))
  (rtS (kon (.bl false)))
  nxt)
  (seqS (forS (seqI (kon c_VALUES)) (gN 6)
  (ifS (notT (tst (methF A.C_Rows R (getV 0) (argCons (getV 1) (argCons (getV 2) (argCons (bi (getV 3) (bi (getV 6) (kon (.int 1)) oAdd) oIx) (argCons (starP (getV 4) (getV 5) (getV 6)) argNil)))))))
  (rtS (kon (.bl false)))
  nxt))
  (rtS (kon (.bl true)))))))
def F_Rows_tree_shows (A : Ad) : Nat → Fd
  | 0 => fun _ => none
  | n + 1 => bodyF N_Rows_tree_shows.length (g_Rows_tree_shows A (F_Rows_tree_shows A n))
theorem ok_Rows_tree_shows (T : Tx K mg A) : ∀ n : Nat, FnOk P w K mg base CX0 (2 + n) A.f_Rows_tree_shows A.d_Rows_tree_shows ["self", "theory", "constraint", "tree", "decided"] (spD K 5 (F_Rows_tree_shows A n))
  | 0 => fn_none
  | n + 1 => fun_ok T.F_Rows_tree_shows sc_Rows_tree_shows fun cdv Ar outer s H E hr => by
    have IH := ok_Rows_tree_shows T n
    exact (eb_cons (es_if (et_val (ev_isi .int rfl ((ev_var 3)) (by rfl) T.z_isinstance (by rfl) T.z_int (by decide +kernel) (by decide) (by decide)))
  (eb_cons (es_if (et_cmp (op_eqD (u64 hr)) eq_ok ((ev_var 3)) (ev_un un_neg neg_ok (ev_int)) (by rfl))
  (eb_one (es_ret ((ev_and (ev_callB (cr_all rfl) all_ok (by rfl) T.z_all bt_all (ex_cons (ev_lc rfl n_Rows_tree_shows (ei_seq (ev_ix (or_ix (u65 hr)) ix_ok ((ev_var 2)) (ev_int))) (blkOk_by (own := [("name", 5)]) (by first | rfl | decide)) rfl (fun _ _ _ _ _ => (gc_name (i := 5) n_Rows_tree_shows rfl (by first | exact .inl rfl | exact .inr rfl) (by decide) (by first | exact .inl rfl | exact .inr rfl))) (fun _ _ _ _ _ => ets_nil) (fun _ _ _ _ _ => (ev_cmp (or_in (u65 hr)) in_ok ((ev_var 5)) ((ev_var 4)) (by rfl)))) ex_nil)) (ev_one (ev_meth ((ev_var 0)) T.c_Rows T.h_Rows_holds (ok_Rows_holds T) (hr.mono (Nat.le_trans (show 1 ≤ 2 by decide) (Nat.le_add_right 2 n))) T.b_Rows_holds (ex_cons ((ev_var 2)) (ex_cons ((ev_var 4)) ex_nil)) (.cons (.cons .nil))))))))
  eb_nil)
  (eb_one (es_ret ((ev_and (ev_chain or_le or_lt le_ok lt_ok (ev_int) ((ev_var 3)) (ev_callB cr_len len_ok (by rfl) T.z_len bt_len (ex_cons (ev_ix (or_ix (u65 hr)) ix_ok ((ev_var 1)) (ev_int)) ex_nil))) (ev_one (ev_not (ev_call (ok_can_hold T) (hr.mono (Nat.le_trans (show 2 ≤ 2 by decide) (Nat.le_add_right 2 n))) (by rfl) T.m_can_hold T.F_can_hold.kp T.b_can_hold (ex_cons (ev_ix (or_ix (u65 hr)) ix_ok (ev_ix (or_ix (u65 hr)) ix_ok ((ev_var 1)) (ev_int)) ((ev_var 3))) (ex_cons ((ev_var 4)) ex_nil)) (.cons (.cons .nil))))))))))
  eb_nil)
  (eb_cons (es_setF (i := 5) n_Rows_tree_shows rfl (by first | exact .inl rfl | exact .inr rfl) (ev_ix (or_ix (u65 hr)) ix_ok ((ev_var 3)) (ev_int)))
  (eb_cons (es_if ((ew_or (et_cmp (or_notIn (u65 hr)) notIn_ok ((ev_var 5)) (ev_ix (or_ix (u65 hr)) ix_ok ((ev_var 1)) (ev_int)) (by rfl)) (ew_or1 (et_cmp (or_in (u65 hr)) in_ok ((ev_var 5)) ((ev_var 4)) (by rfl)))).t)
  (eb_one (es_ret (ev_bl)))
  eb_nil)
  (eb_cons (es_for PassesOwn.never rfl (ei_seq ((ev_glob (v := .ref A.a_VALUES) (by rfl) T.v_VALUES rfl T.r_VALUES))) (eg_name (i := 6) n_Rows_tree_shows rfl (by first | exact .inl rfl | exact .inr rfl))
  (eb_one (es_if (et_not (et_val (ev_meth ((ev_var 0)) T.c_Rows T.h_Rows_tree_shows IH hr T.b_Rows_tree_shows (ex_cons ((ev_var 1)) (ex_cons ((ev_var 2)) (ex_cons (ev_ix (or_ix (u65 hr)) ix_ok ((ev_var 3)) (ev_op or_add add_ok ((ev_var 6)) (ev_int))) (ex_cons (ev_starP ((ev_var 4)) ((ev_var 5)) ((ev_var 6))) ex_nil)))) (.cons (.cons (.cons (.cons .nil)))))))
  (eb_one (es_ret (ev_bl)))
  eb_nil)))
  (eb_one (es_ret (ev_bl)))))))
/-! ### Rows.accepts -/
abbrev N_Rows_accepts : List Str := ["self", "theory", "constraint", "certificate"]
theorem n_Rows_accepts : N_Rows_accepts.Nodup := by decide +kernel
theorem sc_Rows_accepts : FnScope N_Rows_accepts ["self", "theory", "constraint", "certificate"] (defScope s_Rows_accepts) := ⟨rfl, rfl, rfl, by decide +kernel, rfl, by decide +kernel, by decide +kernel⟩
def g_Rows_accepts (A : Ad) : S := (rtS (methF A.C_Rows (F_Rows_tree_shows A 12) (getV 0) (argCons (getV 1) (argCons (getV 2) (argCons (getV 3) (argCons (newK) argNil))))))
def F_Rows_accepts (A : Ad) : Fd := bodyF N_Rows_accepts.length (g_Rows_accepts A)
theorem ok_Rows_accepts (T : Tx K mg A) : FnOk P w K mg base CX0 15 A.f_Rows_accepts A.d_Rows_accepts ["self", "theory", "constraint", "certificate"] (spD K 4 (F_Rows_accepts A)) := fun_ok T.F_Rows_accepts sc_Rows_accepts fun cdv Ar outer s H E hr =>
  (eb_one (es_ret (ev_meth ((ev_var 0)) T.c_Rows T.h_Rows_tree_shows (ok_Rows_tree_shows T 12) (hr.mono (by decide)) T.b_Rows_tree_shows (ex_cons ((ev_var 1)) (ex_cons ((ev_var 2)) (ex_cons ((ev_var 3)) (ex_cons (ev_dk0) ex_nil)))) (.cons (.cons (.cons (.cons .nil)))))))
/-! ### _law_is_int -/
abbrev N__law_is_int : List Str := ["value"]
theorem n__law_is_int : N__law_is_int.Nodup := by decide +kernel
theorem sc__law_is_int : FnScope N__law_is_int ["value"] (defScope s__law_is_int) := ⟨rfl, rfl, rfl, by decide +kernel, rfl, by decide +kernel, by decide +kernel⟩
def g__law_is_int (A : Ad) : S := (rtS ((andV (isi (getV 0) .int) (notV (isi (getV 0) .bool)))))
def F__law_is_int (A : Ad) : Fd := bodyF N__law_is_int.length (g__law_is_int A)
theorem ok__law_is_int (T : Tx K mg A) : FnOk P w K mg base CX0 1 A.f__law_is_int A.d__law_is_int ["value"] (spD K 1 (F__law_is_int A)) := fun_ok T.F__law_is_int sc__law_is_int fun cdv Ar outer s H E hr =>
  (eb_one (es_ret ((ev_and (ev_isi .int rfl ((ev_var 0)) (by rfl) T.z_isinstance (by rfl) T.z_int (by decide +kernel) (by decide) (by decide)) (ev_one (ev_not (ev_isi .bool rfl ((ev_var 0)) (by rfl) T.z_isinstance (by rfl) T.z_bool (by decide +kernel) (by decide) (by decide))))))))
/-! ### _law_breaks -/
abbrev N__law_breaks : List Str := ["found", "question", "solutions", "name"]
theorem n__law_breaks : N__law_breaks.Nodup := by decide +kernel
theorem sc__law_breaks : FnScope N__law_breaks ["found", "question", "solutions"] (defScope s__law_breaks) := ⟨rfl, rfl, rfl, by decide +kernel, rfl, by decide +kernel, by decide +kernel⟩
def g__law_breaks (A : Ad) : S := (seqS (ifS ((orT (notT (tst (isi (getV 0) .dict))) (tsb (bi (getV 0) (getV 2) oNotInQ))))
  (rtS (kon (.bl false)))
  nxt)
  (seqS (ifS (tsb (bi (fn (argCons (lcF (seqI (getV 0)) [3] (gN 3) (notT (tst (callF (F__law_is_int A) (argCons (bi (getV 0) (getV 3) oIx) argNil)))) (asD (getV 3))) argNil) oLen) (kon (.int 0)) oGt))
  (rtS (kon (.bl false)))
  nxt)
  (rtS (notV (callF (F__law_fits A) (argCons (getV 1) (argCons (getV 0) argNil)))))))
def F__law_breaks (A : Ad) : Fd := bodyF N__law_breaks.length (g__law_breaks A)
theorem ok__law_breaks (T : Tx K mg A) : FnOk P w K mg base CX0 2 A.f__law_breaks A.d__law_breaks ["found", "question", "solutions"] (spD K 3 (F__law_breaks A)) := fun_ok T.F__law_breaks sc__law_breaks fun cdv Ar outer s H E hr =>
  (eb_cons (es_if ((ew_or (et_not (et_val (ev_isi .dict rfl ((ev_var 0)) (by rfl) T.z_isinstance (by rfl) T.z_dict (by decide +kernel) (by decide) (by decide)))) (ew_or1 (et_cmp (or_notInQ (u65 hr)) notInQ_ok ((ev_var 0)) ((ev_var 2)) (by rfl)))).t)
  (eb_one (es_ret (ev_bl)))
  eb_nil)
  (eb_cons (es_if (et_cmp or_gt gt_ok (ev_callB cr_len len_ok (by rfl) T.z_len bt_len (ex_cons (ev_lc rfl n__law_breaks (ei_seq ((ev_var 0))) (blkOk_by (own := [("name", 3)]) (by first | rfl | decide)) rfl (fun _ _ _ _ _ => (gc_name (i := 3) n__law_breaks rfl (by first | exact .inl rfl | exact .inr rfl) (by decide) (by first | exact .inl rfl | exact .inr rfl))) (fun _ _ _ _ _ => (ets_one (et_not (et_val (ev_call (ok__law_is_int T) (hr.mono (by decide)) (by rfl) T.m__law_is_int T.F__law_is_int.kp T.b__law_is_int (ex_cons (ev_ix (or_ix (u65 hr)) ix_ok ((ev_var 0)) ((ev_var 3))) ex_nil) (.cons .nil)))))) (fun _ _ _ _ _ => ((ev_var 3)))) ex_nil)) (ev_int) (by rfl))
  (eb_one (es_ret (ev_bl)))
  eb_nil)
  (eb_one (es_ret (ev_not (ev_call (ok__law_fits T) (hr.mono (by decide)) (by rfl) T.m__law_fits T.F__law_fits.kp T.b__law_fits (ex_cons ((ev_var 1)) (ex_cons ((ev_var 0)) ex_nil)) (.cons (.cons .nil))))))))
/-! ### _law_rows_show -/
abbrev N__law_rows_show : List Str := ["theory", "constraint", "tree", "decided", "n", "value", "more", "name"]
theorem n__law_rows_show : N__law_rows_show.Nodup := by decide +kernel
theorem sc__law_rows_show : FnScope N__law_rows_show ["theory", "constraint", "tree", "decided"] (defScope s__law_rows_show) := ⟨rfl, rfl, rfl, by decide +kernel, rfl, by decide +kernel, by decide +kernel⟩
def g__law_rows_show (A : Ad) (R : Fd) : S := (seqS (ifS (tst (isi (getV 2) .int))
  (seqS (ifS (tsb (bi (getV 2) (un (kon (.int 1)) oNeg) oEq))
  (rtS ((andV (bi (fn (argCons (lcF (seqI (bi (getV 1) (kon (.int 0)) oIx)) [4] (gN 4) (tsb (bi (getV 4) (getV 3) oNotIn)) (asD (getV 4))) argNil) oLen) (kon (.int 0)) oEq) (callF (F__law_can_hold A) (argCons (getV 1) (argCons (getV 3) argNil))))))
  nxt)
  (rtS ((andV (chain (kon (.int 0)) (getV 2) (fn (argCons (bi (getV 0) (kon (.int 1)) oIx) argNil) oLen) oLe oLt) (notV (callF (F__law_can_hold A) (argCons (bi (bi (getV 0) (kon (.int 1)) oIx) (getV 2) oIx) (argCons (getV 3) argNil))))))))
  nxt)
  (seqS (ifS ((orT (tsb (bi (bi (getV 2) (kon (.int 0)) oIx) (bi (getV 0) (kon (.int 0)) oIx) oNotIn)) (tsb (bi (bi (getV 2) (kon (.int 0)) oIx) (getV 3) oIn))))
  (rtS (kon (.bl false)))
  nxt)
  (seqS (forS (rng1 (kon (.int 3))) (gN 5)
  (seqS (sR 6 (dspK (pairsC (bi (getV 2) (kon (.int 0)) oIx) (getV 5) pairsN)))
  (seqS (forS (seqI (getV 3)) (gN 7)
  (sSub 6 (bi (getV 3) (getV 7) oIx) (getV 7)))
  (ifS (notT (tst (callF R (argCons (getV 0) (argCons (getV 1) (argCons (bi (getV 2) (bi (getV 5) (kon (.int 1)) oAdd) oIx) (argCons (fzV2 6) argNil)))))))
  (rtS (kon (.bl false)))
  nxt))))
  (rtS (kon (.bl true))))))
def F__law_rows_show (A : Ad) : Nat → Fd
  | 0 => fun _ => none
  | n + 1 => bodyF N__law_rows_show.length (g__law_rows_show A (F__law_rows_show A n))
theorem ok__law_rows_show (T : Tx K mg A) : ∀ n : Nat, FnOk P w K mg base CX0 (1 + n) A.f__law_rows_show A.d__law_rows_show ["theory", "constraint", "tree", "decided"] (spD K 4 (F__law_rows_show A n))
  | 0 => fn_none
  | n + 1 => fun_ok T.F__law_rows_show sc__law_rows_show fun cdv Ar outer s H E hr => by
    have IH := ok__law_rows_show T n
    exact (eb_cons (es_if (et_val (ev_isi .int rfl ((ev_var 2)) (by rfl) T.z_isinstance (by rfl) T.z_int (by decide +kernel) (by decide) (by decide)))
  (eb_cons (es_if (et_cmp (op_eqD (u64 hr)) eq_ok ((ev_var 2)) (ev_un un_neg neg_ok (ev_int)) (by rfl))
  (eb_one (es_ret ((ev_and (ev_cmp (op_eqD (u64 hr)) eq_ok (ev_callB cr_len len_ok (by rfl) T.z_len bt_len (ex_cons (ev_lc rfl n__law_rows_show (ei_seq (ev_ix (or_ix (u65 hr)) ix_ok ((ev_var 1)) (ev_int))) (blkOk_by (own := [("n", 4)]) (by first | rfl | decide)) rfl (fun _ _ _ _ _ => (gc_name (i := 4) n__law_rows_show rfl (by first | exact .inl rfl | exact .inr rfl) (by decide) (by first | exact .inl rfl | exact .inr rfl))) (fun _ _ _ _ _ => (ets_one (et_cmp (or_notIn (u65 hr)) notIn_ok ((ev_var 4)) ((ev_var 3)) (by rfl)))) (fun _ _ _ _ _ => ((ev_var 4)))) ex_nil)) (ev_int) (by rfl)) (ev_one (ev_call (ok__law_can_hold T) (hr.mono (Nat.le_trans (show 1 ≤ 1 by decide) (Nat.le_add_right 1 n))) (by rfl) T.m__law_can_hold T.F__law_can_hold.kp T.b__law_can_hold (ex_cons ((ev_var 1)) (ex_cons ((ev_var 3)) ex_nil)) (.cons (.cons .nil))))))))
  eb_nil)
  (eb_one (es_ret ((ev_and (ev_chain or_le or_lt le_ok lt_ok (ev_int) ((ev_var 2)) (ev_callB cr_len len_ok (by rfl) T.z_len bt_len (ex_cons (ev_ix (or_ix (u65 hr)) ix_ok ((ev_var 0)) (ev_int)) ex_nil))) (ev_one (ev_not (ev_call (ok__law_can_hold T) (hr.mono (Nat.le_trans (show 1 ≤ 1 by decide) (Nat.le_add_right 1 n))) (by rfl) T.m__law_can_hold T.F__law_can_hold.kp T.b__law_can_hold (ex_cons (ev_ix (or_ix (u65 hr)) ix_ok (ev_ix (or_ix (u65 hr)) ix_ok ((ev_var 0)) (ev_int)) ((ev_var 2))) (ex_cons ((ev_var 3)) ex_nil)) (.cons (.cons .nil))))))))))
  eb_nil)
  (eb_cons (es_if ((ew_or (et_cmp (or_notIn (u65 hr)) notIn_ok (ev_ix (or_ix (u65 hr)) ix_ok ((ev_var 2)) (ev_int)) (ev_ix (or_ix (u65 hr)) ix_ok ((ev_var 0)) (ev_int)) (by rfl)) (ew_or1 (et_cmp (or_in (u65 hr)) in_ok (ev_ix (or_ix (u65 hr)) ix_ok ((ev_var 2)) (ev_int)) ((ev_var 3)) (by rfl)))).t)
  (eb_one (es_ret (ev_bl)))
  eb_nil)
  (eb_cons (es_for PassesOwn.never rfl (ei_rng1 (by rfl) T.z_range (ev_int)) (eg_name (i := 5) n__law_rows_show rfl (by first | exact .inl rfl | exact .inr rfl))
  (eb_cons (es_set (i := 6) n__law_rows_show rfl (by first | exact .inl rfl | exact .inr rfl) (ev_dsp (ep_cons (ev_ix (or_ix (u65 hr)) ix_ok ((ev_var 2)) (ev_int)) ((ev_var 5)) ep_nil) (by rfl) (by rfl) (by simp) (by decide) (fun cs r cs' h => Nat.le_trans ((pn_cons pn_nil) cs r cs' h) (by decide))))
  (eb_cons (es_for PassesOwn.never rfl (ei_seq ((ev_var 3))) (eg_name (i := 7) n__law_rows_show rfl (by first | exact .inl rfl | exact .inr rfl))
  (eb_one (es_sub (u65 hr) (i := 6) rfl (by first | exact Or.inl rfl | exact Or.inr (Or.inl rfl) | exact Or.inr (Or.inr rfl)) (ev_ix (or_ix (u65 hr)) ix_ok ((ev_var 3)) ((ev_var 7))) ((ev_var 7)))))
  (eb_one (es_if (et_not (et_val (ev_call IH hr (by rfl) T.m__law_rows_show T.F__law_rows_show.kp T.b__law_rows_show (ex_cons ((ev_var 0)) (ex_cons ((ev_var 1)) (ex_cons (ev_ix (or_ix (u65 hr)) ix_ok ((ev_var 2)) (ev_op or_add add_ok ((ev_var 5)) (ev_int))) (ex_cons ((ev_fz 6)) ex_nil)))) (.cons (.cons (.cons (.cons .nil)))))))
  (eb_one (es_ret (ev_bl)))
  eb_nil)))))
  (eb_one (es_ret (ev_bl))))))
/-! ### _law_leaf -/
abbrev N__law_leaf : List Str := ["source", "count"]
theorem n__law_leaf : N__law_leaf.Nodup := by decide +kernel
theorem sc__law_leaf : FnScope N__law_leaf ["source", "count"] (defScope s__law_leaf) := ⟨rfl, rfl, rfl, by decide +kernel, rfl, by decide +kernel, by decide +kernel⟩
def g__law_leaf (A : Ad) : S := (rtS (bi (mkL (argCons (un (kon (.int 1)) oNeg) (argCons (un (kon (.int 2)) oNeg) (argCons (getV 1) (argCons (bi (getV 1) (kon (.int 3)) oAdd) (argCons (kon (.int 0)) (argCons (callF (F__law_draw A) (argCons (getV 0) (argCons (fn (argCons (kon (.int 1)) (argCons (getV 1) argNil)) oMax2) argNil))) argNil))))))) (callF (F__law_draw A) (argCons (getV 0) (argCons (kon (.int 6)) argNil))) oIx))
def F__law_leaf (A : Ad) : Fd := bodyF N__law_leaf.length (g__law_leaf A)
theorem ok__law_leaf (T : Tx K mg A) : FnOk P w K mg base CX0 2 A.f__law_leaf A.d__law_leaf ["source", "count"] (spD K 2 (F__law_leaf A)) := fun_ok T.F__law_leaf sc__law_leaf fun cdv Ar outer s H E hr =>
  (eb_one (es_ret (ev_ix (or_ix (u65 hr)) ix_ok (ev_lst (ex_cons (ev_un un_neg neg_ok (ev_int)) (ex_cons (ev_un un_neg neg_ok (ev_int)) (ex_cons ((ev_var 1)) (ex_cons (ev_op or_add add_ok ((ev_var 1)) (ev_int)) (ex_cons (ev_int) (ex_cons (ev_call (ok__law_draw T) (hr.mono (by decide)) (by rfl) T.m__law_draw T.F__law_draw.kp T.b__law_draw (ex_cons ((ev_var 0)) (ex_cons (ev_callB (call_max2 rfl) max2_ok (by rfl) T.z_max bt_max (ex_cons (ev_int) (ex_cons ((ev_var 1)) ex_nil))) ex_nil)) (.cons (.cons .nil))) ex_nil))))))) (ev_call (ok__law_draw T) (hr.mono (by decide)) (by rfl) T.m__law_draw T.F__law_draw.kp T.b__law_draw (ex_cons ((ev_var 0)) (ex_cons (ev_int) ex_nil)) (.cons (.cons .nil))))))
/-! ### _law_spoilt -/
abbrev N__law_spoilt : List Str := ["source", "names", "tree", "count", "marks", "mark", "way"]
theorem n__law_spoilt : N__law_spoilt.Nodup := by decide +kernel
theorem sc__law_spoilt : FnScope N__law_spoilt ["source", "names", "tree", "count"] (defScope s__law_spoilt) := ⟨rfl, rfl, rfl, by decide +kernel, rfl, by decide +kernel, by decide +kernel⟩
def g__law_spoilt (A : Ad) : S := (seqS (sF 4 (bi (fn (argCons (getV 1) argNil) oList) (mkL (argCons (kon (.str "zz")) argNil)) oAdd))
  (seqS (sF 5 (bi (getV 4) (callF (F__law_draw A) (argCons (getV 0) (argCons (fn (argCons (getV 4) argNil) oLen) argNil))) oIx))
  (seqS (sF 6 (callF (F__law_draw A) (argCons (getV 0) (argCons (kon (.int 5)) argNil))))
  (seqS (ifS (tst (isi (getV 2) .int))
  (seqS (ifS (tsb (bi (getV 6) (kon (.int 0)) oEq))
  (rtS (mkT (argCons (getV 5) (argCons (getV 2) (argCons (getV 2) (argCons (getV 2) argNil))))))
  nxt)
  (rtS (callF (F__law_leaf A) (argCons (getV 0) (argCons (getV 3) argNil)))))
  nxt)
  (seqS (ifS (tsb (bi (getV 6) (kon (.int 0)) oEq))
  (rtS (callF (F__law_leaf A) (argCons (getV 0) (argCons (getV 3) argNil))))
  nxt)
  (seqS (ifS (tsb (bi (getV 6) (kon (.int 1)) oEq))
  (rtS (mkT (argCons (getV 5) (argCons (bi (getV 2) (kon (.int 1)) oIx) (argCons (bi (getV 2) (kon (.int 2)) oIx) (argCons (bi (getV 2) (kon (.int 3)) oIx) argNil))))))
  nxt)
  (seqS (ifS (tsb (bi (getV 6) (kon (.int 2)) oEq))
  (rtS (mkT (argCons (bi (getV 2) (kon (.int 0)) oIx) (argCons (bi (getV 2) (kon (.int 2)) oIx) (argCons (bi (getV 2) (kon (.int 1)) oIx) (argCons (bi (getV 2) (kon (.int 3)) oIx) argNil))))))
  nxt)
  (seqS (ifS (tsb (bi (getV 6) (kon (.int 3)) oEq))
  (rtS (mkT (argCons (bi (getV 2) (kon (.int 0)) oIx) (argCons (bi (getV 2) (kon (.int 1)) oIx) (argCons (bi (getV 2) (kon (.int 1)) oIx) (argCons (bi (getV 2) (kon (.int 3)) oIx) argNil))))))
  nxt)
  (rtS (mkT (argCons (bi (getV 2) (kon (.int 0)) oIx) (argCons (bi (getV 2) (kon (.int 3)) oIx) (argCons (bi (getV 2) (kon (.int 2)) oIx) (argCons (bi (getV 2) (kon (.int 1)) oIx) argNil))))))))))))))
def F__law_spoilt (A : Ad) : Fd := bodyF N__law_spoilt.length (g__law_spoilt A)
theorem ok__law_spoilt (T : Tx K mg A) : FnOk P w K mg base CX0 3 A.f__law_spoilt A.d__law_spoilt ["source", "names", "tree", "count"] (spD K 4 (F__law_spoilt A)) := fun_ok T.F__law_spoilt sc__law_spoilt fun cdv Ar outer s H E hr =>
  (eb_cons (es_setF (i := 4) n__law_spoilt rfl (by first | exact .inl rfl | exact .inr rfl) (ev_op or_add add_ok (ev_callT (cr_list rfl) list_ok (by rfl) T.z_list bt_list (ex_cons ((ev_var 1)) ex_nil)) (ev_lst (ex_cons (ev_str) ex_nil))))
  (eb_cons (es_setF (i := 5) n__law_spoilt rfl (by first | exact .inl rfl | exact .inr rfl) (ev_ix (or_ix (u65 hr)) ix_ok ((ev_var 4)) (ev_call (ok__law_draw T) (hr.mono (by decide)) (by rfl) T.m__law_draw T.F__law_draw.kp T.b__law_draw (ex_cons ((ev_var 0)) (ex_cons (ev_callB cr_len len_ok (by rfl) T.z_len bt_len (ex_cons ((ev_var 4)) ex_nil)) ex_nil)) (.cons (.cons .nil)))))
  (eb_cons (es_setF (i := 6) n__law_spoilt rfl (by first | exact .inl rfl | exact .inr rfl) (ev_call (ok__law_draw T) (hr.mono (by decide)) (by rfl) T.m__law_draw T.F__law_draw.kp T.b__law_draw (ex_cons ((ev_var 0)) (ex_cons (ev_int) ex_nil)) (.cons (.cons .nil))))
  (eb_cons (es_if (et_val (ev_isi .int rfl ((ev_var 2)) (by rfl) T.z_isinstance (by rfl) T.z_int (by decide +kernel) (by decide) (by decide)))
  (eb_cons (es_if (et_cmp (op_eqD (u64 hr)) eq_ok ((ev_var 6)) (ev_int) (by rfl))
  (eb_one (es_ret (ev_tup (ex_cons ((ev_var 5)) (ex_cons ((ev_var 2)) (ex_cons ((ev_var 2)) (ex_cons ((ev_var 2)) ex_nil)))))))
  eb_nil)
  (eb_one (es_ret (ev_call (ok__law_leaf T) (hr.mono (by decide)) (by rfl) T.m__law_leaf T.F__law_leaf.kp T.b__law_leaf (ex_cons ((ev_var 0)) (ex_cons ((ev_var 3)) ex_nil)) (.cons (.cons .nil))))))
  eb_nil)
  (eb_cons (es_if (et_cmp (op_eqD (u64 hr)) eq_ok ((ev_var 6)) (ev_int) (by rfl))
  (eb_one (es_ret (ev_call (ok__law_leaf T) (hr.mono (by decide)) (by rfl) T.m__law_leaf T.F__law_leaf.kp T.b__law_leaf (ex_cons ((ev_var 0)) (ex_cons ((ev_var 3)) ex_nil)) (.cons (.cons .nil)))))
  eb_nil)
  (eb_cons (es_if (et_cmp (op_eqD (u64 hr)) eq_ok ((ev_var 6)) (ev_int) (by rfl))
  (eb_one (es_ret (ev_tup (ex_cons ((ev_var 5)) (ex_cons (ev_ix (or_ix (u65 hr)) ix_ok ((ev_var 2)) (ev_int)) (ex_cons (ev_ix (or_ix (u65 hr)) ix_ok ((ev_var 2)) (ev_int)) (ex_cons (ev_ix (or_ix (u65 hr)) ix_ok ((ev_var 2)) (ev_int)) ex_nil)))))))
  eb_nil)
  (eb_cons (es_if (et_cmp (op_eqD (u64 hr)) eq_ok ((ev_var 6)) (ev_int) (by rfl))
  (eb_one (es_ret (ev_tup (ex_cons (ev_ix (or_ix (u65 hr)) ix_ok ((ev_var 2)) (ev_int)) (ex_cons (ev_ix (or_ix (u65 hr)) ix_ok ((ev_var 2)) (ev_int)) (ex_cons (ev_ix (or_ix (u65 hr)) ix_ok ((ev_var 2)) (ev_int)) (ex_cons (ev_ix (or_ix (u65 hr)) ix_ok ((ev_var 2)) (ev_int)) ex_nil)))))))
  eb_nil)
  (eb_cons (es_if (et_cmp (op_eqD (u64 hr)) eq_ok ((ev_var 6)) (ev_int) (by rfl))
  (eb_one (es_ret (ev_tup (ex_cons (ev_ix (or_ix (u65 hr)) ix_ok ((ev_var 2)) (ev_int)) (ex_cons (ev_ix (or_ix (u65 hr)) ix_ok ((ev_var 2)) (ev_int)) (ex_cons (ev_ix (or_ix (u65 hr)) ix_ok ((ev_var 2)) (ev_int)) (ex_cons (ev_ix (or_ix (u65 hr)) ix_ok ((ev_var 2)) (ev_int)) ex_nil)))))))
  eb_nil)
  (eb_one (es_ret (ev_tup (ex_cons (ev_ix (or_ix (u65 hr)) ix_ok ((ev_var 2)) (ev_int)) (ex_cons (ev_ix (or_ix (u65 hr)) ix_ok ((ev_var 2)) (ev_int)) (ex_cons (ev_ix (or_ix (u65 hr)) ix_ok ((ev_var 2)) (ev_int)) (ex_cons (ev_ix (or_ix (u65 hr)) ix_ok ((ev_var 2)) (ev_int)) ex_nil)))))))))))))))
/-! ### _law_changed -/
abbrev N__law_changed : List Str := ["source", "names", "tree", "count", "depth", "at", "parts"]
theorem n__law_changed : N__law_changed.Nodup := by decide +kernel
theorem sc__law_changed : FnScope N__law_changed ["source", "names", "tree", "count", "depth"] (defScope s__law_changed) := ⟨rfl, rfl, rfl, by decide +kernel, rfl, by decide +kernel, by decide +kernel⟩
def g__law_changed (A : Ad) (R : Fd) : S := (seqS (ifS ((orT (tst (isi (getV 2) .int)) (orT (tsb (bi (getV 4) (kon (.int 0)) oEq)) (tsb (bi (callF (F__law_draw A) (argCons (getV 0) (argCons (kon (.int 4)) argNil))) (kon (.int 0)) oEq)))))
  (rtS (callF (F__law_spoilt A) (argCons (getV 0) (argCons (getV 1) (argCons (getV 2) (argCons (getV 3) argNil))))))
  nxt)
  (seqS (sF 5 (bi (kon (.int 1)) (callF (F__law_draw A) (argCons (getV 0) (argCons (kon (.int 3)) argNil))) oAdd))
  (seqS (sR 6 (fn (argCons (getV 2) argNil) oList))
  (seqS (sSub 6 (callF R (argCons (getV 0) (argCons (getV 1) (argCons (bi (getV 2) (getV 5) oIx) (argCons (getV 3) (argCons (bi (getV 4) (kon (.int 1)) oSub) argNil)))))) (getV 5))
  (rtS (fn (argCons (getV 6) argNil) oTuple))))))
def F__law_changed (A : Ad) : Nat → Fd
  | 0 => fun _ => none
  | n + 1 => bodyF N__law_changed.length (g__law_changed A (F__law_changed A n))
theorem ok__law_changed (T : Tx K mg A) : ∀ n : Nat, FnOk P w K mg base CX0 (3 + n) A.f__law_changed A.d__law_changed ["source", "names", "tree", "count", "depth"] (spD K 5 (F__law_changed A n))
  | 0 => fn_none
  | n + 1 => fun_ok T.F__law_changed sc__law_changed fun cdv Ar outer s H E hr => by
    have IH := ok__law_changed T n
    exact (eb_cons (es_if ((ew_or (et_val (ev_isi .int rfl ((ev_var 2)) (by rfl) T.z_isinstance (by rfl) T.z_int (by decide +kernel) (by decide) (by decide))) (ew_or (et_cmp (op_eqD (u64 hr)) eq_ok ((ev_var 4)) (ev_int) (by rfl)) (ew_or1 (et_cmp (op_eqD (u64 hr)) eq_ok (ev_call (ok__law_draw T) (hr.mono (Nat.le_trans (show 1 ≤ 3 by decide) (Nat.le_add_right 3 n))) (by rfl) T.m__law_draw T.F__law_draw.kp T.b__law_draw (ex_cons ((ev_var 0)) (ex_cons (ev_int) ex_nil)) (.cons (.cons .nil))) (ev_int) (by rfl))))).t)
  (eb_one (es_ret (ev_call (ok__law_spoilt T) (hr.mono (Nat.le_trans (show 3 ≤ 3 by decide) (Nat.le_add_right 3 n))) (by rfl) T.m__law_spoilt T.F__law_spoilt.kp T.b__law_spoilt (ex_cons ((ev_var 0)) (ex_cons ((ev_var 1)) (ex_cons ((ev_var 2)) (ex_cons ((ev_var 3)) ex_nil)))) (.cons (.cons (.cons (.cons .nil)))))))
  eb_nil)
  (eb_cons (es_setF (i := 5) n__law_changed rfl (by first | exact .inl rfl | exact .inr rfl) (ev_op or_add add_ok (ev_int) (ev_call (ok__law_draw T) (hr.mono (Nat.le_trans (show 1 ≤ 3 by decide) (Nat.le_add_right 3 n))) (by rfl) T.m__law_draw T.F__law_draw.kp T.b__law_draw (ex_cons ((ev_var 0)) (ex_cons (ev_int) ex_nil)) (.cons (.cons .nil)))))
  (eb_cons (es_set (i := 6) n__law_changed rfl (by first | exact .inl rfl | exact .inr rfl) (ev_callT (cr_list rfl) list_ok (by rfl) T.z_list bt_list (ex_cons ((ev_var 2)) ex_nil)))
  (eb_cons (es_sub (u65 hr) (i := 6) rfl (by first | exact Or.inl rfl | exact Or.inr (Or.inl rfl) | exact Or.inr (Or.inr rfl)) (ev_call IH hr (by rfl) T.m__law_changed T.F__law_changed.kp T.b__law_changed (ex_cons ((ev_var 0)) (ex_cons ((ev_var 1)) (ex_cons (ev_ix (or_ix (u65 hr)) ix_ok ((ev_var 2)) ((ev_var 5))) (ex_cons ((ev_var 3)) (ex_cons (ev_op op_sub sub_ok ((ev_var 4)) (ev_int)) ex_nil))))) (.cons (.cons (.cons (.cons (.cons .nil)))))) ((ev_var 5)))
  (eb_one (es_ret (ev_callT call_tuple_of tuple_ok (by rfl) T.z_tuple bt_tuple (ex_cons ((ev_var 6)) ex_nil))))))))
/-! ### _law_grown -/
abbrev N__law_grown : List Str := ["source", "names", "count", "depth", "marks", "mark", "branches", "k"]
theorem n__law_grown : N__law_grown.Nodup := by decide +kernel
theorem sc__law_grown : FnScope N__law_grown ["source", "names", "count", "depth"] (defScope s__law_grown) := ⟨rfl, rfl, rfl, by decide +kernel, rfl, by decide +kernel, by decide +kernel⟩
def g__law_grown (A : Ad) (R : Fd) : S := (seqS (ifS ((orT (tsb (bi (getV 3) (kon (.int 0)) oEq)) (tsb (bi (callF (F__law_draw A) (argCons (getV 0) (argCons (kon (.int 3)) argNil))) (kon (.int 0)) oEq))))
  (rtS (callF (F__law_leaf A) (argCons (getV 0) (argCons (getV 2) argNil))))
  nxt)
  (seqS (sF 4 (bi (fn (argCons (getV 1) argNil) oList) (mkL (argCons (kon (.str "zz")) argNil)) oAdd))
  (seqS (sF 5 (bi (getV 4) (callF (F__law_draw A) (argCons (getV 0) (argCons (fn (argCons (getV 4) argNil) oLen) argNil))) oIx))
  (seqS (sF 6 (lcF (rng1 (kon (.int 3))) [7] (gN 7) (ret true) (asD (callF R (argCons (getV 0) (argCons (getV 1) (argCons (getV 2) (argCons (bi (getV 3) (kon (.int 1)) oSub) argNil))))))))
  (rtS (mkT (argCons (getV 5) (argCons (bi (getV 6) (kon (.int 0)) oIx) (argCons (bi (getV 6) (kon (.int 1)) oIx) (argCons (bi (getV 6) (kon (.int 2)) oIx) argNil))))))))))
def F__law_grown (A : Ad) : Nat → Fd
  | 0 => fun _ => none
  | n + 1 => bodyF N__law_grown.length (g__law_grown A (F__law_grown A n))
theorem ok__law_grown (T : Tx K mg A) : ∀ n : Nat, FnOk P w K mg base CX0 (2 + n) A.f__law_grown A.d__law_grown ["source", "names", "count", "depth"] (spD K 4 (F__law_grown A n))
  | 0 => fn_none
  | n + 1 => fun_ok T.F__law_grown sc__law_grown fun cdv Ar outer s H E hr => by
    have IH := ok__law_grown T n
    exact (eb_cons (es_if ((ew_or (et_cmp (op_eqD (u64 hr)) eq_ok ((ev_var 3)) (ev_int) (by rfl)) (ew_or1 (et_cmp (op_eqD (u64 hr)) eq_ok (ev_call (ok__law_draw T) (hr.mono (Nat.le_trans (show 1 ≤ 2 by decide) (Nat.le_add_right 2 n))) (by rfl) T.m__law_draw T.F__law_draw.kp T.b__law_draw (ex_cons ((ev_var 0)) (ex_cons (ev_int) ex_nil)) (.cons (.cons .nil))) (ev_int) (by rfl)))).t)
  (eb_one (es_ret (ev_call (ok__law_leaf T) (hr.mono (Nat.le_trans (show 2 ≤ 2 by decide) (Nat.le_add_right 2 n))) (by rfl) T.m__law_leaf T.F__law_leaf.kp T.b__law_leaf (ex_cons ((ev_var 0)) (ex_cons ((ev_var 2)) ex_nil)) (.cons (.cons .nil)))))
  eb_nil)
  (eb_cons (es_setF (i := 4) n__law_grown rfl (by first | exact .inl rfl | exact .inr rfl) (ev_op or_add add_ok (ev_callT (cr_list rfl) list_ok (by rfl) T.z_list bt_list (ex_cons ((ev_var 1)) ex_nil)) (ev_lst (ex_cons (ev_str) ex_nil))))
  (eb_cons (es_setF (i := 5) n__law_grown rfl (by first | exact .inl rfl | exact .inr rfl) (ev_ix (or_ix (u65 hr)) ix_ok ((ev_var 4)) (ev_call (ok__law_draw T) (hr.mono (Nat.le_trans (show 1 ≤ 2 by decide) (Nat.le_add_right 2 n))) (by rfl) T.m__law_draw T.F__law_draw.kp T.b__law_draw (ex_cons ((ev_var 0)) (ex_cons (ev_callB cr_len len_ok (by rfl) T.z_len bt_len (ex_cons ((ev_var 4)) ex_nil)) ex_nil)) (.cons (.cons .nil)))))
  (eb_cons (es_lc true rfl n__law_grown rfl rfl (sw_true rfl rfl rfl (by rfl)) (ei_rng1 (by rfl) T.z_range (ev_int)) (blkOk_by (own := [("k", 7)]) (by first | rfl | decide)) rfl (fun _ _ _ _ _ => (gc_name (i := 7) n__law_grown rfl (by first | exact .inl rfl | exact .inr rfl) (by decide) (by first | exact .inl rfl | exact .inr rfl))) (fun _ _ _ _ _ => ets_nil) (fun _ _ _ _ _ => (ev_call IH hr (by rfl) T.m__law_grown T.F__law_grown.kp T.b__law_grown (ex_cons ((ev_var 0)) (ex_cons ((ev_var 1)) (ex_cons ((ev_var 2)) (ex_cons (ev_op op_sub sub_ok ((ev_var 3)) (ev_int)) ex_nil)))) (.cons (.cons (.cons (.cons .nil)))))))
  (eb_one (es_ret (ev_tup (ex_cons ((ev_var 5)) (ex_cons (ev_ix (or_ix (u65 hr)) ix_ok ((ev_var 6)) (ev_int)) (ex_cons (ev_ix (or_ix (u65 hr)) ix_ok ((ev_var 6)) (ev_int)) (ex_cons (ev_ix (or_ix (u65 hr)) ix_ok ((ev_var 6)) (ev_int)) ex_nil)))))))))))
/-! ### _law_is_tree -/
abbrev N__law_is_tree : List Str := ["tree", "depth", "k"]
theorem n__law_is_tree : N__law_is_tree.Nodup := by decide +kernel
theorem sc__law_is_tree : FnScope N__law_is_tree ["tree", "depth"] (defScope s__law_is_tree) := ⟨rfl, rfl, rfl, by decide +kernel, rfl, by decide +kernel, by decide +kernel⟩
def g__law_is_tree (A : Ad) (R : Fd) : S := (seqS (ifS (tst (callF (F__law_is_int A) (argCons (getV 0) argNil)))
  (rtS (kon (.bl true)))
  nxt)
  (seqS (ifS ((orT (tsb (bi (getV 1) (kon (.int 0)) oEq)) (orT (notT (tst (isi (getV 0) .tuple))) (orT (tsb (bi (fn (argCons (getV 0) argNil) oLen) (kon (.int 4)) oNe)) (notT (tst (isi (bi (getV 0) (kon (.int 0)) oIx) .str)))))))
  (rtS (kon (.bl false)))
  nxt)
  (seqS (forS (rng2 (kon (.int 1)) (kon (.int 4))) (gN 2)
  (ifS (notT (tst (callF R (argCons (bi (getV 0) (getV 2) oIx) (argCons (bi (getV 1) (kon (.int 1)) oSub) argNil)))))
  (rtS (kon (.bl false)))
  nxt))
  (rtS (kon (.bl true))))))
def F__law_is_tree (A : Ad) : Nat → Fd
  | 0 => fun _ => none
  | n + 1 => bodyF N__law_is_tree.length (g__law_is_tree A (F__law_is_tree A n))
theorem ok__law_is_tree (T : Tx K mg A) : ∀ n : Nat, FnOk P w K mg base CX0 (1 + n) A.f__law_is_tree A.d__law_is_tree ["tree", "depth"] (spD K 2 (F__law_is_tree A n))
  | 0 => fn_none
  | n + 1 => fun_ok T.F__law_is_tree sc__law_is_tree fun cdv Ar outer s H E hr => by
    have IH := ok__law_is_tree T n
    exact (eb_cons (es_if (et_val (ev_call (ok__law_is_int T) (hr.mono (Nat.le_trans (show 1 ≤ 1 by decide) (Nat.le_add_right 1 n))) (by rfl) T.m__law_is_int T.F__law_is_int.kp T.b__law_is_int (ex_cons ((ev_var 0)) ex_nil) (.cons .nil)))
  (eb_one (es_ret (ev_bl)))
  eb_nil)
  (eb_cons (es_if ((ew_or (et_cmp (op_eqD (u64 hr)) eq_ok ((ev_var 1)) (ev_int) (by rfl)) (ew_or (et_not (et_val (ev_isi .tuple rfl ((ev_var 0)) (by rfl) T.z_isinstance (by rfl) T.z_tuple (by decide +kernel) (by decide) (by decide)))) (ew_or (et_cmp (op_neD (u64 hr)) ne_ok (ev_callB cr_len len_ok (by rfl) T.z_len bt_len (ex_cons ((ev_var 0)) ex_nil)) (ev_int) (by rfl)) (ew_or1 (et_not (et_val (ev_isi .str rfl (ev_ix (or_ix (u65 hr)) ix_ok ((ev_var 0)) (ev_int)) (by rfl) T.z_isinstance (by rfl) T.z_str (by decide +kernel) (by decide) (by decide)))))))).t)
  (eb_one (es_ret (ev_bl)))
  eb_nil)
  (eb_cons (es_for PassesOwn.never rfl (ei_rng2 (by rfl) T.z_range (ev_int) (ev_int)) (eg_name (i := 2) n__law_is_tree rfl (by first | exact .inl rfl | exact .inr rfl))
  (eb_one (es_if (et_not (et_val (ev_call IH hr (by rfl) T.m__law_is_tree T.F__law_is_tree.kp T.b__law_is_tree (ex_cons (ev_ix (or_ix (u65 hr)) ix_ok ((ev_var 0)) ((ev_var 2))) (ex_cons (ev_op op_sub sub_ok ((ev_var 1)) (ev_int)) ex_nil)) (.cons (.cons .nil)))))
  (eb_one (es_ret (ev_bl)))
  eb_nil)))
  (eb_one (es_ret (ev_bl))))))
/-! ### law -/
abbrev N_law : List Str := ["script", "kind", "source", "names", "theory", "k", "solutions", "question", "breaking", "values", "returned", "found", "made", "trees", "tree", "answer"]
theorem n_law : N_law.Nodup := by decide +kernel
theorem sc_law : FnScope N_law ["script"] (defScope s_law) := ⟨rfl, rfl, rfl, by decide +kernel, rfl, by decide +kernel, by decide +kernel⟩
def g_law (A : Ad) : S := (seqS (sF 1 (mk0 A.C_Rows))
  (seqS (sR 2 (callF (F__law_source A) (argCons (getV 0) (argCons (kon (.int 0)) argNil))))
  (seqS (sF 3 (fn (argCons (callF (F__law_some A) (argCons (getV 2) (argCons (mkL (argCons (kon (.str "a")) (argCons (kon (.str "a.k")) (argCons (kon (.str "b")) (argCons (kon (.str "b1")) (argCons (kon (.str "c")) argNil)))))) (argCons (bi (mkL (argCons (kon (.int 2)) (argCons (kon (.int 3)) (argCons (kon (.int 3)) (argCons (kon (.int 4)) argNil))))) (callF (F__law_draw A) (argCons (getV 2) (argCons (kon (.int 4)) argNil))) oIx) argNil)))) argNil) oTuple))
  (seqS (sF 4 (mkT (argCons (getV 3) (argCons (fn (argCons (lcF (rng1 (callF (F__law_draw A) (argCons (getV 2) (argCons (kon (.int 5)) argNil)))) [5] (gN 5) (ret true) (asD (callF (F__law_table A) (argCons (getV 2) (argCons (getV 3) argNil))))) argNil) oTuple) argNil))))
  (seqS (sF 6 (callF (F__law_solutions A) (argCons (getV 4) argNil)))
  (seqS (sR 2 (callF (F__law_source A) (argCons (getV 0) (argCons (kon (.int 1)) argNil))))
  (seqS (sF 7 (callF (F__law_question A) (argCons (getV 2) (argCons (getV 4) (argCons (getV 6) argNil)))))
  (seqS (sF 8 (lcF (seqI (getV 6)) [9] (gN 9) (notT (tst (callF (F__law_fits A) (argCons (getV 7) (argCons (getV 9) argNil))))) (asD (getV 9))))
  (seqS (sF 10 (methF A.C_Rows (F_Rows_certificate A) (getV 1) (argCons (getV 4) (argCons (getV 7) argNil))))
  (seqS (sR 11 (methF A.C_Rows (F_Rows_counterexample A) (getV 1) (argCons (getV 4) (argCons (getV 7) argNil))))
  (seqS (sF 12 (callF (F__law_made A 12) (argCons (getV 2) (argCons (getV 4) (argCons (callF (F__law_order A) (argCons (getV 2) (argCons (getV 3) argNil))) (argCons (newK) argNil))))))
  (seqS (sR 13 (mkL (argCons (getV 12) argNil)))
  (seqS (ifS (tsb (bi (fn (argCons (getV 8) argNil) oLen) (kon (.int 0)) oGt))
  (seqS (ifS ((orT (tsb (bi (getV 10) (kon .non) oNotN)) (notT (tst (bor 11 (callF (F__law_breaks A) (argCons (getV 11) (argCons (getV 7) (argCons (getV 6) argNil)))))))))
  (rtS (kon (.bl false)))
  nxt)
  (seqS (sSub 11 (kon (.int 1)) (kon (.str "spoilt")))
  (ifS (notT (tst (callF (F__law_breaks A) (argCons (methF A.C_Rows (F_Rows_counterexample A) (getV 1) (argCons (getV 4) (argCons (getV 7) argNil))) (argCons (getV 7) (argCons (getV 6) argNil))))))
  (rtS (kon (.bl false)))
  nxt)))
  (seqS (ifS ((orT (tsb (bi (getV 11) (kon .non) oNotN)) (notT (tst (callF (F__law_is_tree A 12) (argCons (getV 10) (argCons (fn (argCons (getV 3) argNil) oLen) argNil)))))))
  (rtS (kon (.bl false)))
  nxt)
  (seqS (ifS (notT (tst (callF (F__law_rows_show A 12) (argCons (getV 4) (argCons (getV 7) (argCons (getV 10) (argCons (newK) argNil)))))))
  (rtS (kon (.bl false)))
  nxt)
  (seqS (exS (mtV isL 13 (argCons (getV 10) argNil) opAppend))
  (seqS (sR 2 (callF (F__law_source A) (argCons (getV 0) (argCons (kon (.int 2)) argNil))))
  (exS (mtV isL 13 (argCons (lcF (rng1 (kon (.int 8))) [5] (gN 5) (ret true) (asD (callF (F__law_changed A 12) (argCons (getV 2) (argCons (getV 3) (argCons (getV 10) (argCons (fn (argCons (bi (getV 4) (kon (.int 1)) oIx) argNil) oLen) (argCons (kon (.int 5)) argNil)))))))) argNil) opExtend)))))))
  (seqS (sR 2 (callF (F__law_source A) (argCons (getV 0) (argCons (kon (.int 3)) argNil))))
  (seqS (exS (mtV isL 13 (argCons (lcF (rng1 (kon (.int 8))) [5] (gN 5) (ret true) (asD (callF (F__law_changed A 12) (argCons (getV 2) (argCons (getV 3) (argCons (getV 12) (argCons (fn (argCons (bi (getV 4) (kon (.int 1)) oIx) argNil) oLen) (argCons (kon (.int 5)) argNil)))))))) argNil) opExtend))
  (seqS (exS (mtV isL 13 (argCons (lcF (rng1 (kon (.int 6))) [5] (gN 5) (ret true) (asD (callF (F__law_grown A 12) (argCons (getV 2) (argCons (getV 3) (argCons (fn (argCons (bi (getV 4) (kon (.int 1)) oIx) argNil) oLen) (argCons (kon (.int 2)) argNil))))))) argNil) opExtend))
  (seqS (forS (seqI (fzV2 13)) (gN 14)
  (seqS (sF 15 (methF A.C_Rows (F_Rows_accepts A) (getV 1) (argCons (getV 4) (argCons (getV 7) (argCons (getV 14) argNil)))))
  (ifS ((orT (notT (tst (isi (getV 15) .bool))) (tsb (bi (getV 15) (callF (F__law_rows_show A 12) (argCons (getV 4) (argCons (getV 7) (argCons (getV 14) (argCons (newK) argNil))))) oNe))))
  (rtS (kon (.bl false)))
  nxt)))
  (rtS (kon (.bl true))))))))))))))))))))
def F_law (A : Ad) : Fd := bodyF N_law.length (g_law A)
theorem ok_law (T : Tx K mg A) : FnOk P w K mg base CX0 16 A.f_law A.d_law ["script"] (spD K 1 (F_law A)) := fun_ok T.F_law sc_law fun cdv Ar outer s H E hr =>
  (eb_cons (es_setF (i := 1) n_law rfl (by first | exact .inl rfl | exact .inr rfl) (ev_mk0 T.k_Rows (by rfl) T.mC_Rows))
  (eb_cons (es_set (i := 2) n_law rfl (by first | exact .inl rfl | exact .inr rfl) (ev_call (ok__law_source T) (hr.mono (by decide)) (by rfl) T.m__law_source T.F__law_source.kp T.b__law_source (ex_cons ((ev_var 0)) (ex_cons (ev_int) ex_nil)) (.cons (.cons .nil))))
  (eb_cons (es_setF (i := 3) n_law rfl (by first | exact .inl rfl | exact .inr rfl) (ev_callT call_tuple_of tuple_ok (by rfl) T.z_tuple bt_tuple (ex_cons (ev_call (ok__law_some T) (hr.mono (by decide)) (by rfl) T.m__law_some T.F__law_some.kp T.b__law_some (ex_cons ((ev_var 2)) (ex_cons (ev_lst (ex_cons (ev_str) (ex_cons (ev_str) (ex_cons (ev_str) (ex_cons (ev_str) (ex_cons (ev_str) ex_nil)))))) (ex_cons (ev_ix (or_ix (u65 hr)) ix_ok (ev_lst (ex_cons (ev_int) (ex_cons (ev_int) (ex_cons (ev_int) (ex_cons (ev_int) ex_nil))))) (ev_call (ok__law_draw T) (hr.mono (by decide)) (by rfl) T.m__law_draw T.F__law_draw.kp T.b__law_draw (ex_cons ((ev_var 2)) (ex_cons (ev_int) ex_nil)) (.cons (.cons .nil)))) ex_nil))) (.cons (.cons (.cons .nil)))) ex_nil)))
  (eb_cons (es_setF (i := 4) n_law rfl (by first | exact .inl rfl | exact .inr rfl) (ev_tup (ex_cons ((ev_var 3)) (ex_cons (ev_callT call_tuple_of tuple_ok (by rfl) T.z_tuple bt_tuple (ex_cons (ev_lc rfl n_law (ei_rng1 (by rfl) T.z_range (ev_call (ok__law_draw T) (hr.mono (by decide)) (by rfl) T.m__law_draw T.F__law_draw.kp T.b__law_draw (ex_cons ((ev_var 2)) (ex_cons (ev_int) ex_nil)) (.cons (.cons .nil)))) (blkOk_by (own := [("k", 5)]) (by first | rfl | decide)) rfl (fun _ _ _ _ _ => (gc_name (i := 5) n_law rfl (by first | exact .inl rfl | exact .inr rfl) (by decide) (by first | exact .inl rfl | exact .inr rfl))) (fun _ _ _ _ _ => ets_nil) (fun _ _ _ _ _ => (ev_call (ok__law_table T) (hr.mono (by decide)) (by rfl) T.m__law_table T.F__law_table.kp T.b__law_table (ex_cons ((ev_var 2)) (ex_cons ((ev_var 3)) ex_nil)) (.cons (.cons .nil))))) ex_nil)) ex_nil))))
  (eb_cons (es_setF (i := 6) n_law rfl (by first | exact .inl rfl | exact .inr rfl) (ev_call (ok__law_solutions T) (hr.mono (by decide)) (by rfl) T.m__law_solutions T.F__law_solutions.kp T.b__law_solutions (ex_cons ((ev_var 4)) ex_nil) (.cons .nil)))
  (eb_cons (es_set (i := 2) n_law rfl (by first | exact .inl rfl | exact .inr rfl) (ev_call (ok__law_source T) (hr.mono (by decide)) (by rfl) T.m__law_source T.F__law_source.kp T.b__law_source (ex_cons ((ev_var 0)) (ex_cons (ev_int) ex_nil)) (.cons (.cons .nil))))
  (eb_cons (es_setF (i := 7) n_law rfl (by first | exact .inl rfl | exact .inr rfl) (ev_call (ok__law_question T) (hr.mono (by decide)) (by rfl) T.m__law_question T.F__law_question.kp T.b__law_question (ex_cons ((ev_var 2)) (ex_cons ((ev_var 4)) (ex_cons ((ev_var 6)) ex_nil))) (.cons (.cons (.cons .nil)))))
  (eb_cons (es_lc true rfl n_law rfl rfl (sw_true rfl rfl rfl (by rfl)) (ei_seq ((ev_var 6))) (blkOk_by (own := [("values", 9)]) (by first | rfl | decide)) rfl (fun _ _ _ _ _ => (gc_name (i := 9) n_law rfl (by first | exact .inl rfl | exact .inr rfl) (by decide) (by first | exact .inl rfl | exact .inr rfl))) (fun _ _ _ _ _ => (ets_one (et_not (et_val (ev_call (ok__law_fits T) (hr.mono (by decide)) (by rfl) T.m__law_fits T.F__law_fits.kp T.b__law_fits (ex_cons ((ev_var 7)) (ex_cons ((ev_var 9)) ex_nil)) (.cons (.cons .nil))))))) (fun _ _ _ _ _ => ((ev_var 9))))
  (eb_cons (es_setF (i := 10) n_law rfl (by first | exact .inl rfl | exact .inr rfl) (ev_meth ((ev_var 1)) T.c_Rows T.h_Rows_certificate (ok_Rows_certificate T) (hr.mono (by decide)) T.b_Rows_certificate (ex_cons ((ev_var 4)) (ex_cons ((ev_var 7)) ex_nil)) (.cons (.cons .nil))))
  (eb_cons (es_set (i := 11) n_law rfl (by first | exact .inl rfl | exact .inr rfl) (ev_meth ((ev_var 1)) T.c_Rows T.h_Rows_counterexample (ok_Rows_counterexample T) (hr.mono (by decide)) T.b_Rows_counterexample (ex_cons ((ev_var 4)) (ex_cons ((ev_var 7)) ex_nil)) (.cons (.cons .nil))))
  (eb_cons (es_setF (i := 12) n_law rfl (by first | exact .inl rfl | exact .inr rfl) (ev_call (ok__law_made T 12) (hr.mono (by decide)) (by rfl) T.m__law_made T.F__law_made.kp T.b__law_made (ex_cons ((ev_var 2)) (ex_cons ((ev_var 4)) (ex_cons (ev_call (ok__law_order T) (hr.mono (by decide)) (by rfl) T.m__law_order T.F__law_order.kp T.b__law_order (ex_cons ((ev_var 2)) (ex_cons ((ev_var 3)) ex_nil)) (.cons (.cons .nil))) (ex_cons (ev_dk0) ex_nil)))) (.cons (.cons (.cons (.cons .nil))))))
  (eb_cons (es_set (i := 13) n_law rfl (by first | exact .inl rfl | exact .inr rfl) (ev_lst (ex_cons ((ev_var 12)) ex_nil)))
  (eb_cons (es_if (et_cmp or_gt gt_ok (ev_callB cr_len len_ok (by rfl) T.z_len bt_len (ex_cons ((ev_var 8)) ex_nil)) (ev_int) (by rfl))
  (eb_cons (es_if ((ew_or (et_cmp op_notN notN_ok ((ev_var 10)) (ev_non) (by rfl)) (ew_or1 (et_not (et_val (ev_bor 11 (ev_call (ok__law_breaks T) (hr.mono (by decide)) (by rfl) T.m__law_breaks T.F__law_breaks.kp T.b__law_breaks (ex_cons ((ev_var 11)) (ex_cons ((ev_var 7)) (ex_cons ((ev_var 6)) ex_nil))) (.cons (.cons (.cons .nil))))))))).t)
  (eb_one (es_ret (ev_bl)))
  eb_nil)
  (eb_cons (es_sub (u65 hr) (i := 11) rfl (by first | exact Or.inl rfl | exact Or.inr (Or.inl rfl) | exact Or.inr (Or.inr rfl)) (ev_int) (ev_str))
  (eb_one (es_if (et_not (et_val (ev_call (ok__law_breaks T) (hr.mono (by decide)) (by rfl) T.m__law_breaks T.F__law_breaks.kp T.b__law_breaks (ex_cons (ev_meth ((ev_var 1)) T.c_Rows T.h_Rows_counterexample (ok_Rows_counterexample T) (hr.mono (by decide)) T.b_Rows_counterexample (ex_cons ((ev_var 4)) (ex_cons ((ev_var 7)) ex_nil)) (.cons (.cons .nil))) (ex_cons ((ev_var 7)) (ex_cons ((ev_var 6)) ex_nil))) (.cons (.cons (.cons .nil))))))
  (eb_one (es_ret (ev_bl)))
  eb_nil))))
  (eb_cons (es_if ((ew_or (et_cmp op_notN notN_ok ((ev_var 11)) (ev_non) (by rfl)) (ew_or1 (et_not (et_val (ev_call (ok__law_is_tree T 12) (hr.mono (by decide)) (by rfl) T.m__law_is_tree T.F__law_is_tree.kp T.b__law_is_tree (ex_cons ((ev_var 10)) (ex_cons (ev_callB cr_len len_ok (by rfl) T.z_len bt_len (ex_cons ((ev_var 3)) ex_nil)) ex_nil)) (.cons (.cons .nil))))))).t)
  (eb_one (es_ret (ev_bl)))
  eb_nil)
  (eb_cons (es_if (et_not (et_val (ev_call (ok__law_rows_show T 12) (hr.mono (by decide)) (by rfl) T.m__law_rows_show T.F__law_rows_show.kp T.b__law_rows_show (ex_cons ((ev_var 4)) (ex_cons ((ev_var 7)) (ex_cons ((ev_var 10)) (ex_cons (ev_dk0) ex_nil)))) (.cons (.cons (.cons (.cons .nil)))))))
  (eb_one (es_ret (ev_bl)))
  eb_nil)
  (eb_cons (es_expr (ev_mt ty_l append_ok PySem.F.plainAttrs_list PySem.F.slot_list_append PySem.F.type_list_append (mt_append) rfl (by first | exact Or.inl rfl | exact Or.inr (Or.inl rfl) | exact Or.inr (Or.inr rfl)) (ex_cons ((ev_var 10)) ex_nil)))
  (eb_cons (es_set (i := 2) n_law rfl (by first | exact .inl rfl | exact .inr rfl) (ev_call (ok__law_source T) (hr.mono (by decide)) (by rfl) T.m__law_source T.F__law_source.kp T.b__law_source (ex_cons ((ev_var 0)) (ex_cons (ev_int) ex_nil)) (.cons (.cons .nil))))
  (eb_one (es_expr (ev_mt ty_l extend_ok PySem.F.plainAttrs_list PySem.F.slot_list_extend PySem.F.type_list_extend (mt_extend) rfl (by first | exact Or.inl rfl | exact Or.inr (Or.inl rfl) | exact Or.inr (Or.inr rfl)) (ex_cons (ev_lc rfl n_law (ei_rng1 (by rfl) T.z_range (ev_int)) (blkOk_by (own := [("k", 5)]) (by first | rfl | decide)) rfl (fun _ _ _ _ _ => (gc_name (i := 5) n_law rfl (by first | exact .inl rfl | exact .inr rfl) (by decide) (by first | exact .inl rfl | exact .inr rfl))) (fun _ _ _ _ _ => ets_nil) (fun _ _ _ _ _ => (ev_call (ok__law_changed T 12) (hr.mono (by decide)) (by rfl) T.m__law_changed T.F__law_changed.kp T.b__law_changed (ex_cons ((ev_var 2)) (ex_cons ((ev_var 3)) (ex_cons ((ev_var 10)) (ex_cons (ev_callB cr_len len_ok (by rfl) T.z_len bt_len (ex_cons (ev_ix (or_ix (u65 hr)) ix_ok ((ev_var 4)) (ev_int)) ex_nil)) (ex_cons (ev_int) ex_nil))))) (.cons (.cons (.cons (.cons (.cons .nil)))))))) ex_nil)))))))))
  (eb_cons (es_set (i := 2) n_law rfl (by first | exact .inl rfl | exact .inr rfl) (ev_call (ok__law_source T) (hr.mono (by decide)) (by rfl) T.m__law_source T.F__law_source.kp T.b__law_source (ex_cons ((ev_var 0)) (ex_cons (ev_int) ex_nil)) (.cons (.cons .nil))))
  (eb_cons (es_expr (ev_mt ty_l extend_ok PySem.F.plainAttrs_list PySem.F.slot_list_extend PySem.F.type_list_extend (mt_extend) rfl (by first | exact Or.inl rfl | exact Or.inr (Or.inl rfl) | exact Or.inr (Or.inr rfl)) (ex_cons (ev_lc rfl n_law (ei_rng1 (by rfl) T.z_range (ev_int)) (blkOk_by (own := [("k", 5)]) (by first | rfl | decide)) rfl (fun _ _ _ _ _ => (gc_name (i := 5) n_law rfl (by first | exact .inl rfl | exact .inr rfl) (by decide) (by first | exact .inl rfl | exact .inr rfl))) (fun _ _ _ _ _ => ets_nil) (fun _ _ _ _ _ => (ev_call (ok__law_changed T 12) (hr.mono (by decide)) (by rfl) T.m__law_changed T.F__law_changed.kp T.b__law_changed (ex_cons ((ev_var 2)) (ex_cons ((ev_var 3)) (ex_cons ((ev_var 12)) (ex_cons (ev_callB cr_len len_ok (by rfl) T.z_len bt_len (ex_cons (ev_ix (or_ix (u65 hr)) ix_ok ((ev_var 4)) (ev_int)) ex_nil)) (ex_cons (ev_int) ex_nil))))) (.cons (.cons (.cons (.cons (.cons .nil)))))))) ex_nil)))
  (eb_cons (es_expr (ev_mt ty_l extend_ok PySem.F.plainAttrs_list PySem.F.slot_list_extend PySem.F.type_list_extend (mt_extend) rfl (by first | exact Or.inl rfl | exact Or.inr (Or.inl rfl) | exact Or.inr (Or.inr rfl)) (ex_cons (ev_lc rfl n_law (ei_rng1 (by rfl) T.z_range (ev_int)) (blkOk_by (own := [("k", 5)]) (by first | rfl | decide)) rfl (fun _ _ _ _ _ => (gc_name (i := 5) n_law rfl (by first | exact .inl rfl | exact .inr rfl) (by decide) (by first | exact .inl rfl | exact .inr rfl))) (fun _ _ _ _ _ => ets_nil) (fun _ _ _ _ _ => (ev_call (ok__law_grown T 12) (hr.mono (by decide)) (by rfl) T.m__law_grown T.F__law_grown.kp T.b__law_grown (ex_cons ((ev_var 2)) (ex_cons ((ev_var 3)) (ex_cons (ev_callB cr_len len_ok (by rfl) T.z_len bt_len (ex_cons (ev_ix (or_ix (u65 hr)) ix_ok ((ev_var 4)) (ev_int)) ex_nil)) (ex_cons (ev_int) ex_nil)))) (.cons (.cons (.cons (.cons .nil))))))) ex_nil)))
  (eb_cons (es_for PassesOwn.never rfl (ei_seq ((ev_fz 13))) (eg_name (i := 14) n_law rfl (by first | exact .inl rfl | exact .inr rfl))
  (eb_cons (es_setF (i := 15) n_law rfl (by first | exact .inl rfl | exact .inr rfl) (ev_meth ((ev_var 1)) T.c_Rows T.h_Rows_accepts (ok_Rows_accepts T) (hr.mono (by decide)) T.b_Rows_accepts (ex_cons ((ev_var 4)) (ex_cons ((ev_var 7)) (ex_cons ((ev_var 14)) ex_nil))) (.cons (.cons (.cons .nil)))))
  (eb_one (es_if ((ew_or (et_not (et_val (ev_isi .bool rfl ((ev_var 15)) (by rfl) T.z_isinstance (by rfl) T.z_bool (by decide +kernel) (by decide) (by decide)))) (ew_or1 (et_cmp (op_neD (u64 hr)) ne_ok ((ev_var 15)) (ev_call (ok__law_rows_show T 12) (hr.mono (by decide)) (by rfl) T.m__law_rows_show T.F__law_rows_show.kp T.b__law_rows_show (ex_cons ((ev_var 4)) (ex_cons ((ev_var 7)) (ex_cons ((ev_var 14)) (ex_cons (ev_dk0) ex_nil)))) (.cons (.cons (.cons (.cons .nil))))) (by rfl)))).t)
  (eb_one (es_ret (ev_bl)))
  eb_nil))))
  (eb_one (es_ret (ev_bl))))))))))))))))))))
end

end K21
set_option Elab.async false
set_option linter.all false
set_option maxRecDepth 100000
set_option maxHeartbeats 4000000
set_option autoImplicit false
namespace K21
open PySem PySem.Spec L2 DS
def drawn (L : Int) : Res → Prop := fun y => ∃ r : Int, y = .d (.int r) ∧ 0 ≤ r ∧ r < L
theorem draw_ok (A : Ad) (L : Int) (hL : 0 < L) (hL2 : L < 1000) : FvS (F__law_draw A) [.int L] (drawn L) := by
  refine fvS_of fun a b => ?_
  unfold g__law_draw src
  show RS _ [Cell.o true (.l [.int a, .int b]), .d (.int L), .un, .un] _
  simp
  have hm : ∀ x : Int, 0 ≤ x % L ∧ x % L < L := fun x => ⟨Int.emod_nonneg _ (by omega), Int.emod_lt_of_pos _ hL⟩
  split
  · exact ⟨⟨hL, by omega⟩, hL, _, _, _, rfl, by simp, _, rfl, _, rfl, hm _⟩
  · refine ⟨⟨?_, ?_⟩, ⟨?_, ?_⟩, hL, _, _, _, rfl, by simp, _, rfl, _, rfl, hm _⟩ <;> omega
/-! encodings -/
def eN (ns : List Str) : D := .tup (ns.map .str)

def eRs (rs : List (List Int)) : D := .tup (rs.map eRow)
abbrev Tb := List Str × List (List Int)
def eT (t : Tb) : D := .tup [eN t.1, eRs t.2]
def eTs (ts : List Tb) : D := .tup (ts.map eT)
def eTh (ns : List Str) (ts : List Tb) : D := .tup [eN ns, eTs ts]
end K21


set_option Elab.async false
set_option linter.all false
set_option maxRecDepth 100000
set_option maxHeartbeats 4000000
set_option autoImplicit false
namespace K21
open PySem PySem.Spec L2 DS
/-! ### dicts of ints -/
def lk (m : List (Key × D)) (n : Str) : Option Int := match dGet m (.inr n) with
  | some (.int i) => some i
  | _ => none
/-- every value is an int -/
def IM (m : List (Key × D)) : Prop := ∀ n, dGet m (.inr n) = (lk m n).map .int
theorem IM.getD {m : List (Key × D)} (h : IM m) (n : Str) (v : Int) : (dGet m (.inr n)).getD (.int v) = .int ((lk m n).getD v) := by
  rw [h n]
  cases lk m n <;> rfl
abbrev Asg := Str → Option Int
def agr (δ : Asg) (ps : List (Str × Int)) : Bool := ps.all fun p => decide ((δ p.1).getD p.2 = p.2)
def chb (δ : Asg) (t : Tb) : Bool := t.2.any fun r => agr δ (t.1.zip r)
theorem zipD_enc : ∀ (ns : List Str) (r : List Int), zipD (ns.map .str) (r.map .int) = (ns.zip r).map fun p => .tup [.str p.1, .int p.2]
  | [], _ => rfl
  | _ :: _, [] => rfl
  | n :: ns, v :: r => by
    have := zipD_enc ns r
    unfold zipD at this ⊢
    simp only [List.map_cons, List.zip_cons_cons]
    rw [this]
theorem agrees_loop {m : List (Key × D)} (hm : IM m) {a b : Cell} {Q : Out → Prop} : ∀ (ps : List (Str × Int)) (c d : Cell), (agr (lk m) ps = true → ∀ c d, Q (.nx [a, b, .d (.dk m), c, d])) → (agr (lk m) ps = false → ∀ c d, Q (.rt (.d (.bl false)) [a, b, .d (.dk m), c, d])) →
    RL (gT 2 (gsC (gN 3) (gsC (gN 4) gsN))) (ifS (tsb (bi (get2 (getV 2) (getV 3) (getV 4)) (getV 4) oNe)) (rtS (kon (.bl false))) nxt) (ps.map fun p => D.tup [.str p.1, .int p.2]) [a, b, .d (.dk m), c, d] Q
  | [], c, d, h1, _ => by
    rw [List.map_nil, RL_nil]
    exact h1 rfl c d
  | p :: ps, c, d, h1, h2 => by
    rw [List.map_cons, RL_cons]
    simp [hm.getD]
    by_cases e : (lk m p.1).getD p.2 = p.2
    · simp [e]
      refine agrees_loop hm ps _ _ (fun h => h1 ?_) (fun h => h2 ?_)
      · simp only [agr, List.all_cons, e, decide_true, Bool.true_and]; exact h
      · simp only [agr, List.all_cons, e, decide_true, Bool.true_and]; exact h
    · simp [e]
      exact h2 (by simp only [agr, List.all_cons, e, decide_false, Bool.false_and]) _ _
theorem agrees_ok (A : Ad) (ns : List Str) (r : List Int) {m : List (Key × D)} (hm : IM m) : Fv (F_agrees A) [eN ns, eRow r, .dk m] (.d (.bl (agr (lk m) (ns.zip r)))) := by
  refine fv_of ?_
  unfold g_agrees
  show RS _ [Cell.d (.tup (ns.map .str)), .d (.tup (r.map .int)), .d (.dk m), .un, .un] _
  simp
  rw [zipD_enc]
  refine agrees_loop hm _ _ _ (fun h c d => ?_) (fun h c d => ?_)
  · simp [h, Ends1, outR]
  · simp [h, Ends1, outR]
theorem can_hold_ok (A : Ad) (t : Tb) {m : List (Key × D)} (hm : IM m) : Fv (F_can_hold A) [eT t, .dk m] (.d (.bl (chb (lk m) t))) := by
  refine fv_of ?_
  unfold g_can_hold
  show RS _ [Cell.d (.tup [eN t.1, .tup (t.2.map eRow)]), .d (.dk m), .un] _
  simp
  refine RL_any (r := .d (.bl true)) eRow (fun r => agr (lk m) (t.1.zip r)) (fun cs => ∃ c, cs = [Cell.d (.tup [eN t.1, .tup (t.2.map eRow)]), .d (.dk m), c]) _ _ (fun r _ cs hc => ?_) ⟨_, rfl⟩ (fun h c hc => ?_) (fun h c hc => ?_)
  · obtain ⟨c, rfl⟩ := hc
    simp
    refine R_call (agrees_ok A t.1 r hm) rfl ?_
    simp
  · obtain ⟨c, rfl⟩ := hc
    simp [Ends1, outR, chb, h]
  · obtain ⟨c, rfl⟩ := hc
    simp [Ends1, outR, chb, h]
/-- the row of an assignment -/
def rowOf (δ : Asg) (ns : List Str) : List Int := ns.map fun n => (δ n).getD 0
def tot (δ : Asg) (ns : List Str) : Prop := ∀ n ∈ ns, (δ n).isSome = true
theorem IM.some {m : List (Key × D)} (hm : IM m) {n : Str} (h : (lk m n).isSome = true) : dGet m (.inr n) = some (.int ((lk m n).getD 0)) := by
  rw [hm n]
  cases e : lk m n with
  | none => rw [e] at h; cases h
  | some i => rfl
def strV (f : Str → D) : D → D
  | .str s => f s
  | _ => .non
theorem map_strV (f : Str → D) (ns : List Str) : ((ns.map D.str).filter (fun _ => true)).map (strV f) = ns.map f := by
  have e : (ns.map D.str).filter (fun _ => true) = ns.map D.str := List.filter_eq_self.mpr fun _ _ => rfl
  rw [e, List.map_map]
  rfl
theorem row_enc (δ : Asg) (ns : List Str) : (ns.map fun n => D.int ((δ n).getD 0)) = (rowOf δ ns).map .int := by
  simp [rowOf, Function.comp_def]
theorem holds_ok (A : Ad) (C : Addr) (t : Tb) {m : List (Key × D)} (hm : IM m) (ht : tot (lk m) t.1) (hz : t.1.length ≤ sizeLine) : Fv (F_Rows_holds A) [.obj C, eT t, .dk m] (.d (.bl (decide (rowOf (lk m) t.1 ∈ t.2)))) := by
  refine fv_of ?_
  unfold g_Rows_holds
  show RS _ [Cell.d (.obj C), .d (.tup [.tup (t.1.map .str), .tup (t.2.map eRow)]), .d (.dk m), .un] _
  simp
  refine lc_pure (fun _ => true) (strV fun n => .int ((lk m n).getD 0)) (by simp [noOw]) (by simpa using hz) (fun x hx => ?_) ?_
  · obtain ⟨n, hn, rfl⟩ := List.mem_map.mp hx
    simp only [wipeC, List.set_cons_succ, List.set_cons_zero]
    simp [hm.some (ht n hn), strV, reC]
  · rw [map_strV, row_enc]
    simp
    refine (pIn_rows _ _ _).mpr ?_
    simp [Ends1, outR]
theorem fits_ok (A : Ad) (t : Tb) {m : List (Key × D)} (hm : IM m) (ht : tot (lk m) t.1) (hz : t.1.length ≤ sizeLine) : Fv (F__law_fits A) [eT t, .dk m] (.d (.bl (decide (rowOf (lk m) t.1 ∈ t.2)))) := by
  refine fv_of ?_
  unfold g__law_fits
  show RS _ [Cell.d (.tup [.tup (t.1.map .str), .tup (t.2.map eRow)]), .d (.dk m), .un] _
  simp
  refine lc_pure (fun _ => true) (strV fun n => .int ((lk m n).getD 0)) (by simp [noOw]) (by simpa using hz) (fun x hx => ?_) ?_
  · obtain ⟨n, hn, rfl⟩ := List.mem_map.mp hx
    simp only [wipeC, List.set_cons_succ, List.set_cons_zero]
    simp [hm.some (ht n hn), strV, reC]
  · rw [map_strV, row_enc]
    simp
    refine (pIn_rows _ _ _).mpr ?_
    simp [Ends1, outR]
end K21

set_option Elab.async false
set_option linter.all false
set_option maxRecDepth 100000
set_option maxHeartbeats 4000000
set_option autoImplicit false
namespace K21
open PySem PySem.Spec L2 DS
theorem rngD0 (n : Nat) : rngD 0 n = (List.range n).map fun (i : Nat) => D.int (i : Int) := by
  unfold rngD
  simp
def intV (f : Nat → D) : D → D
  | .int i => f i.toNat
  | _ => .non
def intB (f : Nat → Bool) : D → Bool
  | .int i => f i.toNat
  | _ => false
@[simp] theorem intV_i (f : Nat → D) (i : Nat) : intV f (.int (i : Int)) = f i := rfl
@[simp] theorem intB_i (f : Nat → Bool) (i : Nat) : intB f (.int (i : Int)) = f i := rfl
def badAt (δ : Asg) (ps : List (Str × Int)) (i : Nat) : Bool := match ps[i]? with
  | some p => !decide ((δ p.1).getD p.2 = p.2)
  | none => false
theorem agr_count (δ : Asg) (ps : List (Str × Int)) : ((List.range ps.length).filter (badAt δ ps)).length = 0 ↔ agr δ ps = true := by
  rw [List.length_eq_zero_iff, List.filter_eq_nil_iff]
  unfold agr
  rw [List.all_eq_true]
  constructor
  · intro h p hp
    obtain ⟨i, hi, e⟩ := List.getElem_of_mem hp
    have := h i (List.mem_range.mpr hi)
    unfold badAt at this
    rw [List.getElem?_eq_getElem hi, e] at this
    simpa using this
  · intro h i hi
    have hi := List.mem_range.mp hi
    unfold badAt
    rw [List.getElem?_eq_getElem hi]
    have := h _ (List.getElem_mem hi)
    simpa using this
def fitT (t : Tb) : Prop := ∀ r ∈ t.2, r.length = t.1.length
def small (n : Nat) : Prop := n < 1000
theorem small_ok {n : Nat} (h : n < 1000) : n ≤ sizeLine := by rw [sizeLine_eq]; omega
theorem lcan_hold_ok (A : Ad) (t : Tb) {m : List (Key × D)} (hm : IM m) (hf : fitT t) (hz : t.1.length < 1000) : Fv (F__law_can_hold A) [eT t, .dk m] (.d (.bl (chb (lk m) t))) := by
  refine fv_of ?_
  unfold g__law_can_hold
  show RS _ [Cell.d (.tup [.tup (t.1.map .str), .tup (t.2.map eRow)]), .d (.dk m), .un, .un] _
  simp
  refine RL_any (r := .d (.bl true)) eRow (fun r => agr (lk m) (t.1.zip r)) (fun cs => ∃ c, cs = [Cell.d (.tup [.tup (t.1.map .str), .tup (t.2.map eRow)]), .d (.dk m), c, .un]) _ _ (fun r hr cs hc => ?_) ⟨_, rfl⟩ (fun h c hc => ?_) (fun h c hc => ?_)
  · obtain ⟨c, rfl⟩ := hc
    have hl := hf r hr
    unfold eRow
    simp [rngD0]
    refine ⟨by omega, ?_⟩
    refine lc_pure (intB (badAt (lk m) (t.1.zip r))) id (by simp [noOw]) (by simpa using small_ok (by omega)) (fun x hx => ?_) ?_
    · obtain ⟨i, hi, rfl⟩ := List.mem_map.mp hx
      have hi := List.mem_range.mp hi
      have h1 : (t.1.map D.str)[i]? = some (.str t.1[i]) := by rw [List.getElem?_map, List.getElem?_eq_getElem (by omega)]; rfl
      have h2 : (r.map D.int)[i]? = some (.int r[i]) := by rw [List.getElem?_map, List.getElem?_eq_getElem hi]; rfl
      have h3 : badAt (lk m) (t.1.zip r) i = !decide ((lk m t.1[i]).getD r[i] = r[i]) := by
        unfold badAt
        rw [List.getElem?_eq_getElem (by simp; omega)]
        simp
      simp only [wipeC, List.set_cons_succ, List.set_cons_zero]
      have g1 : ∀ k, opK (atI (t.1.map D.str) (i : Int)) k ↔ k (.str t.1[i]) := fun k => at_nat k h1
      have g2 : ∀ k, opK (atI (r.map D.int) (i : Int)) k ↔ k (.int r[i]) := fun k => at_nat k h2
      simp [↓g1, ↓g2, hm.getD, reC, h3]
    · have e : (((List.range r.length).map fun (i : Nat) => D.int (i : Int)).filter (intB (badAt (lk m) (t.1.zip r)))).length = ((List.range (t.1.zip r).length).filter (badAt (lk m) (t.1.zip r))).length := by
        rw [List.filter_map, List.length_map]
        have : (t.1.zip r).length = r.length := by simp; omega
        rw [this]
        rfl
      have key := agr_count (lk m) (t.1.zip r)
      generalize ((List.range (t.1.zip r).length).filter (badAt (lk m) (t.1.zip r))).length = n at e key
      rw [List.map_id]
      generalize List.filter (intB (badAt (lk m) (t.1.zip r))) _ = F at e ⊢
      simp [e]
      by_cases ha : agr (lk m) (t.1.zip r) = true
      · have h0 : F = [] := List.length_eq_zero_iff.mp (e.trans (key.mpr ha))
        simp [h0, ha]
      · have h0 : F ≠ [] := fun z => ha (key.mp (by rw [← e, z]; rfl))
        simp [h0, ha]
  · obtain ⟨c, rfl⟩ := hc
    simp [Ends1, outR, chb, h]
  · obtain ⟨c, rfl⟩ := hc
    simp [Ends1, outR, chb, h]
end K21

set_option Elab.async false
set_option linter.all false
set_option maxRecDepth 100000
set_option maxHeartbeats 4000000
set_option autoImplicit false
namespace K21
open PySem PySem.Spec L2 DS
theorem lk_mkd (ps : Ps) : lk (mkd ps) = look ps := by
  funext n
  unfold lk
  rw [mkd_get]
  cases look ps n <;> rfl
theorem im_mkd (ps : Ps) : IM (mkd ps) := by
  intro n
  rw [lk_mkd, mkd_get]
inductive Tr
  | leaf (i : Int)
  | node (s : Str) (a b c : Tr)
def eTr : Tr → D
  | .leaf i => .int i
  | .node s a b c => .tup [.str s, eTr a, eTr b, eTr c]
def dp : Tr → Nat
  | .leaf _ => 0
  | .node _ a b c => 1 + max (dp a) (max (dp b) (dp c))
def marksOk : Tr → Prop
  | .leaf _ => True
  | .node s a b c => SOk s ∧ marksOk a ∧ marksOk b ∧ marksOk c
def upd (δ : Asg) (s : Str) (v : Int) : Asg := fun n => if n = s then some v else δ n
theorem look_upd (ps : Ps) (s : Str) (v : Int) : look (put ps s v) = upd (look ps) s v := by
  funext n
  exact look_put ps s v n
def shows (ns : List Str) (ts : List Tb) (q : Tb) : Tr → Asg → Bool
  | .leaf i, δ => if i = -1 then (q.1.all fun n => (δ n).isSome) && decide (rowOf δ q.1 ∈ q.2) else if 0 ≤ i ∧ i < ts.length then !chb δ (ts.getD i.toNat ([], [])) else false
  | .node s a b c, δ => if s ∉ ns ∨ (δ s).isSome = true then false else shows ns ts q a (upd δ s 0) && (shows ns ts q b (upd δ s 1) && shows ns ts q c (upd δ s 2))
def okT (t : Tb) : Prop := fitT t ∧ t.1.length < 1000 ∧ t.2.length < 1000 ∧ ∀ n ∈ t.1, SOk n
structure Wf (ns : List Str) (ts : List Tb) (q : Tb) : Prop where
  nok : ∀ n ∈ ns, SOk n
  nl : ns.length < 1000
  tok : ∀ t ∈ ts, okT t
  tl : ts.length < 1000
  q : okT q
theorem pAll_c {α : Type} (f : α → Bool) (xs : List α) (k : Res → Prop) : opK (oAll [.lst (xs.map (D.bl ∘ f))]) k ↔ k (.d (.bl (xs.all f))) := by
  have := pAll_bl k (xs.map f)
  rw [List.map_map, List.all_map] at this
  exact this
def allD (δ : Asg) : D → D := strV fun n => .bl (δ n).isSome
theorem all_isSome (δ : Asg) (ns : List Str) : tot δ ns ↔ (ns.all fun n => (δ n).isSome) = true := by
  unfold tot
  rw [List.all_eq_true]
theorem ts_at {ts : List Tb} {i : Int} (h0 : 0 ≤ i) (h1 : i < ts.length) (k : D → Prop) : opK (atI (ts.map eT) i) k ↔ k (eT (ts.getD i.toNat ([], []))) := by
  obtain ⟨j, rfl⟩ := Int.eq_ofNat_of_zero_le h0
  refine at_nat k ?_
  have hj : j < ts.length := by omega
  rw [List.getElem?_map, List.getElem?_eq_getElem hj]
  simp [List.getD, hj]
theorem tree_shows_leaf (A : Ad) {ns : List Str} {ts : List Tb} {q : Tb} (w : Wf ns ts q) (n : Nat) (i : Int) (ps : Ps) : Fv (F_Rows_tree_shows A (n + 1)) [.obj A.C_Rows, eTh ns ts, eT q, .int i, .dk (mkd ps)] (.d (.bl (shows ns ts q (.leaf i) (look ps)))) := by
  refine fv_of ?_
  unfold g_Rows_tree_shows
  show RS _ [Cell.d (.obj A.C_Rows), .d (.tup [eN ns, .tup (ts.map eT)]), .d (.tup [.tup (q.1.map .str), eRs q.2]), .d (.int i), .d (.dk (mkd ps)), .un, .un] _
  simp
  by_cases h : i = -1
  · simp [h]
    refine lc_pure (fun _ => true) (allD (look ps)) (by simp [noOw]) (by simpa using small_ok w.q.2.1) (fun x hx => ?_) ?_
    · obtain ⟨n, hn, rfl⟩ := List.mem_map.mp hx
      simp only [wipeC, List.set_cons_succ, List.set_cons_zero]
      simp [allD, strV, reC, mkd_get]
    · unfold allD
      rw [map_strV]
      simp
      refine (pAll_c _ _ _).mpr ?_
      simp [asB_bl]
      by_cases ht : tot (look ps) q.1
      · have ha := (all_isSome _ _).mp ht
        rw [if_pos (by simpa using ha)]
        refine ⟨rfl, ?_⟩
        refine R_call (holds_ok A A.C_Rows q (im_mkd ps) (by rw [lk_mkd]; exact ht) (small_ok w.q.2.1)) rfl ?_
        simp [Ends1, outR, shows, lk_mkd, ha]
      · have ha : ¬ (q.1.all fun n => (look ps n).isSome) = true := fun z => ht ((all_isSome _ _).mpr z)
        rw [if_neg (by simpa using ha)]
        simp [Ends1, outR, shows, ha]
  · simp [h]
    by_cases h0 : 0 ≤ i
    · by_cases h1 : i < ts.length
      · have g : ∀ k, opK (atI (ts.map eT) i) k ↔ k (eT (ts.getD i.toNat ([], []))) := fun k => ts_at h0 h1 k
        simp [h0, h1, asB_bl, ↓g]
        refine R_call (can_hold_ok A _ (im_mkd ps)) rfl ?_
        simp [asB_bl, Ends1, outR, shows, h, h0, h1, lk_mkd]
      · simp [h0, h1, asB_bl, Ends1, outR, shows, h]
    · simp [h0, asB_bl, Ends1, outR, shows, h]
end K21

set_option Elab.async false
set_option linter.all false
set_option maxRecDepth 100000
set_option maxHeartbeats 4000000
set_option autoImplicit false
namespace K21
open PySem PySem.Spec L2 DS
theorem star_eq {ps : Ps} (h : Nd ps) (s : Str) (v : Int) : dMerge (dMerge [] (mkd ps)) [(.inr s, .int v)] = mkd (put ps s v) := by
  have e : dMerge [] (mkd ps) = mkd ps := by
    have := mkd_mrg ps []
    rw [mrg_nil h] at this
    exact this
  rw [e]
  exact mkd_put ps s v
theorem star_len {ps : Ps} (h : Nd ps) : (dMerge [] (mkd ps)).length = ps.length := by
  have := mkd_mrg ps []
  rw [mrg_nil h] at this
  have e : dMerge [] (mkd ps) = mkd ps := this
  rw [e, mkd_len]
theorem tree_shows_ok (A : Ad) {ns : List Str} {ts : List Tb} {q : Tb} (w : Wf ns ts q) : ∀ (n : Nat) (t : Tr) (ps : Ps), dp t < n → marksOk t → Nd ps → ps.length + n < 1000 →
    Fv (F_Rows_tree_shows A n) [.obj A.C_Rows, eTh ns ts, eT q, eTr t, .dk (mkd ps)] (.d (.bl (shows ns ts q t (look ps))))
  | 0, t, ps, h, _, _, _ => absurd h (by omega)
  | n + 1, .leaf i, ps, _, _, _, _ => tree_shows_leaf A w n i ps
  | n + 1, .node s a b c, ps, hd, hm, hn, hl => by
    have ih := fun (t : Tr) (v : Int) (h1 : dp t < n) (h2 : marksOk t) => tree_shows_ok A w n t (put ps s v) h1 h2 (put_nd hn s v) (by have := put_len ps s v; omega)
    simp only [dp] at hd
    obtain ⟨hs, ma, mb, mc⟩ := hm
    refine fv_of ?_
    unfold g_Rows_tree_shows
    show RS _ [Cell.d (.obj A.C_Rows), .d (.tup [.tup (ns.map .str), .tup (ts.map eT)]), .d (eT q), .d (.tup [.str s, eTr a, eTr b, eTr c]), .d (.dk (mkd ps)), .un, .un] _
    simp
    refine (pNotIn_strs hs w.nok _).mpr ?_
    simp [asB_bl, c_VALUES]
    by_cases h1 : s ∈ ns
    · by_cases h2 : look ps s = none
      · have z1 : ps.length + 1 ≤ sizeLine := small_ok (by omega)
        simp [h1, h2, mkd_get, star_len hn, z1, star_eq hn]
        rw [RL_cons]
        simp
        refine ⟨rfl, by rw [star_len hn]; exact z1, ?_⟩
        rw [star_eq hn]
        refine R_call (ih a 0 (by omega) ma) rfl ?_
        have fin : shows ns ts q (.node s a b c) (look ps) = (shows ns ts q a (look (put ps s 0)) && (shows ns ts q b (look (put ps s 1)) && shows ns ts q c (look (put ps s 2)))) := by
          rw [look_upd, look_upd, look_upd]
          simp [shows, h1, h2]
        rw [fin]
        by_cases e1 : shows ns ts q a (look (put ps s 0)) = true
        · simp [e1]
          rw [RL_cons]
          simp
          refine ⟨rfl, by rw [star_len hn]; exact z1, ?_⟩
          rw [star_eq hn]
          refine R_call (ih b 1 (by omega) mb) rfl ?_
          by_cases e2 : shows ns ts q b (look (put ps s 1)) = true
          · simp [e2]
            rw [RL_cons]
            simp
            refine ⟨rfl, by rw [star_len hn]; exact z1, ?_⟩
            rw [star_eq hn]
            refine R_call (ih c 2 (by omega) mc) rfl ?_
            by_cases e3 : shows ns ts q c (look (put ps s 2)) = true
            · simp [e3]
              rw [RL_nil]
              simp [aft, Ends1, outR]
            · simp [e3, aft, Ends1, outR]
          · simp [e2, aft, Ends1, outR]
        · simp [e1, aft, Ends1, outR]
      · have h2' : (look ps s).isSome = true := Option.isSome_iff_ne_none.mpr h2
        simp [h1, h2', mkd_get, Ends1, outR, shows]
    · simp [h1, Ends1, outR, shows]
end K21

set_option Elab.async false
set_option linter.all false
set_option maxRecDepth 100000
set_option maxHeartbeats 4000000
set_option autoImplicit false
namespace K21
open PySem PySem.Spec L2 DS
theorem agr_row (δ : Asg) : ∀ (ns : List Str) (r : List Int), tot δ ns → r.length = ns.length → agr δ (ns.zip r) = decide (r = rowOf δ ns)
  | [], [], _, _ => by simp [agr, rowOf]
  | [], _ :: _, _, h => by simp at h
  | _ :: _, [], _, h => by simp at h
  | n :: ns, v :: r, ht, hl => by
    have ih := agr_row δ ns r (fun m hm => ht m (List.mem_cons_of_mem _ hm)) (by simpa using hl)
    have h1 := ht n List.mem_cons_self
    obtain ⟨x, hx⟩ := Option.isSome_iff_exists.mp h1
    unfold agr rowOf at ih ⊢
    rw [List.zip_cons_cons, List.all_cons, ih, hx]
    by_cases e : x = v
    · simp [e, hx]
    · have e' : ¬ v = x := fun z => e z.symm
      simp [e, hx, e']
theorem chb_tot {δ : Asg} {t : Tb} (ht : tot δ t.1) (hf : fitT t) : chb δ t = decide (rowOf δ t.1 ∈ t.2) := by
  unfold chb
  by_cases h : rowOf δ t.1 ∈ t.2
  · rw [decide_eq_true h, List.any_eq_true]
    refine ⟨_, h, ?_⟩
    rw [agr_row δ t.1 _ ht (by simp [rowOf])]
    simp
  · rw [decide_eq_false h, List.any_eq_false]
    intro r hr
    rw [agr_row δ t.1 r ht (hf r hr)]
    simp
    rintro rfl
    exact h hr
theorem filt_none (δ : Asg) (ns : List Str) : ((ns.map D.str).filter (fun x => match x with | .str s => !(δ s).isSome | _ => false)) = (ns.filter fun n => !(δ n).isSome).map .str := by
  rw [List.filter_map]
  rfl
def notB (δ : Asg) : D → Bool
  | .str s => !(δ s).isSome
  | _ => false
@[simp] theorem notB_s (δ : Asg) (s : Str) : notB δ (.str s) = !(δ s).isSome := rfl
theorem not_len (δ : Asg) (ns : List Str) : (((ns.map D.str).filter (notB δ)).length = 0) ↔ tot δ ns := by
  rw [List.length_eq_zero_iff, List.filter_eq_nil_iff]
  unfold tot
  constructor
  · intro h n hn
    have := h (.str n) (List.mem_map_of_mem hn)
    exact Option.isSome_iff_ne_none.mpr (by simpa using this)
  · intro h x hx
    obtain ⟨n, hn, rfl⟩ := List.mem_map.mp hx
    simp [h n hn]
theorem rows_show_leaf (A : Ad) {ns : List Str} {ts : List Tb} {q : Tb} (w : Wf ns ts q) (n : Nat) (i : Int) (ps : Ps) : Fv (F__law_rows_show A (n + 1)) [eTh ns ts, eT q, .int i, .dk (mkd ps)] (.d (.bl (shows ns ts q (.leaf i) (look ps)))) := by
  refine fv_of ?_
  unfold g__law_rows_show
  show RS _ [Cell.d (.tup [eN ns, .tup (ts.map eT)]), .d (.tup [.tup (q.1.map .str), eRs q.2]), .d (.int i), .d (.dk (mkd ps)), .un, .un, .un, .un] _
  simp
  by_cases h : i = -1
  · simp [h]
    refine lc_pure (notB (look ps)) id (by simp [noOw]) (by simpa using small_ok w.q.2.1) (fun x hx => ?_) ?_
    · obtain ⟨n, hn, rfl⟩ := List.mem_map.mp hx
      simp only [wipeC, List.set_cons_succ, List.set_cons_zero]
      simp [reC, mkd_get, asB_bl]
    · have key := not_len (look ps) q.1
      rw [List.map_id]
      generalize List.filter (notB (look ps)) _ = F at key ⊢
      simp [asB_bl]
      by_cases ht : tot (look ps) q.1
      · have hF : F = [] := List.length_eq_zero_iff.mp (key.mpr ht)
        have ha := (all_isSome _ _).mp ht
        subst hF
        simp
        refine R_call (lcan_hold_ok A q (im_mkd ps) w.q.1 w.q.2.1) rfl ?_
        rw [lk_mkd, chb_tot ht w.q.1]
        simp [Ends1, outR, shows, ha]
      · have hF : F ≠ [] := fun z => ht (key.mp (by rw [z]; rfl))
        have ha : ¬ (q.1.all fun n => (look ps n).isSome) = true := fun z => ht ((all_isSome _ _).mpr z)
        simp [hF, Ends1, outR, shows, ha]
  · simp [h]
    by_cases h0 : 0 ≤ i
    · by_cases h1 : i < ts.length
      · have g : ∀ k, opK (atI (ts.map eT) i) k ↔ k (eT (ts.getD i.toNat ([], []))) := fun k => ts_at h0 h1 k
        have hm : ts.getD i.toNat ([], []) ∈ ts := by
          have hj : i.toNat < ts.length := by omega
          simp [List.getD, hj]
        have fin : shows ns ts q (.leaf i) (look ps) = !chb (look ps) (ts.getD i.toNat ([], [])) := by
          unfold shows
          rw [if_neg h, if_pos ⟨h0, h1⟩]
        rw [fin]
        generalize ts.getD i.toNat ([], []) = t at g hm ⊢
        have ho := w.tok _ hm
        simp [h0, h1, asB_bl, ↓g]
        refine R_call (lcan_hold_ok A _ (im_mkd ps) ho.1 ho.2.1) rfl ?_
        simp [asB_bl, Ends1, outR, lk_mkd]
      · simp [h0, h1, asB_bl, Ends1, outR, shows, h]
    · simp [h0, asB_bl, Ends1, outR, shows, h]
theorem look_mem {ps : Ps} (hn : Nd ps) {x : Str × Int} (h : x ∈ ps) : look ps x.1 = some x.2 := by
  induction ps with
  | nil => cases h
  | cons p ps ih =>
    rw [look_cons]
    have h2 := List.nodup_cons.mp hn
    rcases List.mem_cons.mp h with rfl | h
    · simp
    · have : ¬ p.1 = x.1 := fun e => h2.1 (by show p.1 ∈ _; rw [e]; exact List.mem_map_of_mem h)
      rw [if_neg this]
      exact ih h2.2 h
theorem upd_mrg {ps : Ps} (hn : Nd ps) {s : Str} (h : look ps s = none) (v : Int) : look (mrg [(s, v)] ps) = upd (look ps) s v := by
  funext n
  rw [look_mrg _ _ _ hn, look_cons, look_nil]
  unfold upd
  by_cases e : n = s
  · subst e
    rw [h]
    simp
  · have : ¬ s = n := fun z => e z.symm
    simp [e, this]
theorem more_loop {ps : Ps} (hn : Nd ps) (hl : ps.length < 900) (s : Str) (v : Int) {c0 c1 c2 c3 c4 c5 c6 : Cell} {Q : Out → Prop} (e3 : c3 = .d (.dk (mkd ps)))
    (q : ∀ c, Q (.nx [c0, c1, c2, c3, c4, c5, .o false (.k (mkd (mrg [(s, v)] ps))), c])) : RL (gN 7) (sSub 6 (bi (getV 3) (getV 7) oIx) (getV 7)) ((mkd ps).map fun kv => keyD kv.1) [c0, c1, c2, c3, c4, c5, .o false (.k (mkd [(s, v)])), c6] Q := by
  subst e3
  rw [mkd_keys, List.map_map]
  refine RL_fold (D.str ∘ fun p : Str × Int => p.1) (fun zs c => ∃ c7, c = [c0, c1, c2, .d (.dk (mkd ps)), c4, c5, .o false (.k (mkd (mrg [(s, v)] zs))), c7]) ps (fun zs x ys c e i => ?_) ⟨_, rfl⟩ (fun c i => ?_)
  · obtain ⟨c7, rfl⟩ := i
    have hx : look ps x.1 = some x.2 := by
      exact look_mem hn (by rw [e]; simp)
    have hz : (mrg [(s, v)] zs).length < sizeLine := by
      have := mrg_len zs [(s, v)]
      have h2 := congrArg List.length e
      simp at h2 this
      have := small_ok (n := (mrg [(s, v)] zs).length + 1) (by omega)
      omega
    simp [mkd_get, hx, mkd_len, hz]
    rw [mkd_put]
    unfold mrg
    rw [List.foldl_append]
    simp [turn]
  · obtain ⟨c7, rfl⟩ := i
    exact q c7
end K21

set_option Elab.async false
set_option linter.all false
set_option maxRecDepth 100000
set_option maxHeartbeats 4000000
set_option autoImplicit false
namespace K21
open PySem PySem.Spec L2 DS
theorem mrg1_nd {ps : Ps} (s : Str) (v : Int) : Nd (mrg [(s, v)] ps) := mrg_ndd ps _ (by simp [Nd])
theorem mrg1_len {ps : Ps} (s : Str) (v : Int) : (mrg [(s, v)] ps).length ≤ ps.length + 1 := by
  have := mrg_len ps [(s, v)]
  simp at this
  omega
theorem rng3 : rngD 0 3 = [.int 0, .int 1, .int 2] := rfl
theorem dspk1 (s : Str) (v : Int) : dMerge [] [((.inr s : Key), D.int v)] = mkd [(s, v)] := rfl
theorem rows_show_ok (A : Ad) {ns : List Str} {ts : List Tb} {q : Tb} (w : Wf ns ts q) : ∀ (n : Nat) (t : Tr) (ps : Ps), dp t < n → marksOk t → Nd ps → ps.length + n < 900 →
    Fv (F__law_rows_show A n) [eTh ns ts, eT q, eTr t, .dk (mkd ps)] (.d (.bl (shows ns ts q t (look ps))))
  | 0, t, ps, h, _, _, _ => absurd h (by omega)
  | n + 1, .leaf i, ps, _, _, _, _ => rows_show_leaf A w n i ps
  | n + 1, .node s a b c, ps, hd, hm, hn, hl => by
    have ih := fun (t : Tr) (v : Int) (h1 : dp t < n) (h2 : marksOk t) => rows_show_ok A w n t (mrg [(s, v)] ps) h1 h2 (mrg1_nd s v) (by have := mrg1_len (ps := ps) s v; omega)
    simp only [dp] at hd
    obtain ⟨hs, ma, mb, mc⟩ := hm
    refine fv_of ?_
    unfold g__law_rows_show
    show RS _ [Cell.d (.tup [.tup (ns.map .str), .tup (ts.map eT)]), .d (eT q), .d (.tup [.str s, eTr a, eTr b, eTr c]), .d (.dk (mkd ps)), .un, .un, .un, .un] _
    simp
    refine (pNotIn_strs hs w.nok _).mpr ?_
    simp [asB_bl]
    by_cases h1 : s ∈ ns
    · by_cases h2 : look ps s = none
      · simp [h1, h2, mkd_get, rng3]
        have fin : shows ns ts q (.node s a b c) (look ps) = (shows ns ts q a (look (mrg [(s, 0)] ps)) && (shows ns ts q b (look (mrg [(s, 1)] ps)) && shows ns ts q c (look (mrg [(s, 2)] ps)))) := by
          rw [upd_mrg hn h2, upd_mrg hn h2, upd_mrg hn h2]
          simp [shows, h1, h2]
        rw [fin]
        rw [RL_cons]
        simp
        rw [dspk1]
        refine more_loop hn (by omega) s 0 rfl fun c7 => ?_
        simp
        refine R_call (ih a 0 (by omega) ma) rfl ?_
        by_cases e1 : shows ns ts q a (look (mrg [(s, 0)] ps)) = true
        · simp [e1]
          rw [RL_cons]
          simp
          rw [dspk1]
          refine more_loop hn (by omega) s 1 rfl fun c7 => ?_
          simp
          refine R_call (ih b 1 (by omega) mb) rfl ?_
          by_cases e2 : shows ns ts q b (look (mrg [(s, 1)] ps)) = true
          · simp [e2]
            rw [RL_cons]
            simp
            rw [dspk1]
            refine more_loop hn (by omega) s 2 rfl fun c7 => ?_
            simp
            refine R_call (ih c 2 (by omega) mc) rfl ?_
            by_cases e3 : shows ns ts q c (look (mrg [(s, 2)] ps)) = true
            · simp [e3]
              rw [RL_nil]
              simp [aft, Ends1, outR]
            · simp [e3, aft, Ends1, outR]
          · simp [e2, aft, Ends1, outR]
        · simp [e1, aft, Ends1, outR]
      · have h2' : (look ps s).isSome = true := Option.isSome_iff_ne_none.mpr h2
        simp [h1, h2', mkd_get, Ends1, outR, shows]
    · simp [h1, Ends1, outR, shows]
end K21

set_option Elab.async false
set_option linter.all false
set_option maxRecDepth 100000
set_option maxHeartbeats 4000000
set_option autoImplicit false
namespace K21
open PySem PySem.Spec L2 DS
theorem pIx_scr {ns : List Int} {k : Nat} (h : k < ns.length) (q : Res → Prop) : opK (oIx (.scr ns) (.int (k : Int))) q ↔ q (.d (.int ns[k])) := by
  have e : oIx (.scr ns) (.int (k : Int)) = some (.d (.int ns[k])) := by
    unfold oIx
    dsimp only
    rw [atI_nat (List.getElem?_eq_getElem h)]
    rfl
  rw [e]
  exact opK_some _ _
theorem source_ok (A : Ad) (ns : List Int) (k : Nat) (hk : k < 10) (hl : ns.length < 100) : ∃ a b : Int, Fv (F__law_source A) [.scr ns, .int (k : Int)] (.o (.l [.int a, .int b])) := by
  by_cases h : k < ns.length
  · refine ⟨ns[k], 100 * (k : Int) + ns.length, fv_of ?_⟩
    unfold g__law_source
    show RS _ [Cell.d (.scr ns), .d (.int (k : Int)), .un] _
    have g := fun q => pIx_scr h q
    simp [asB_bl, h, ↓g]
    exact ⟨small_ok (by omega), by simp [Ends1, outR]⟩
  · refine ⟨0, 100 * (k : Int) + ns.length, fv_of ?_⟩
    unfold g__law_source
    show RS _ [Cell.d (.scr ns), .d (.int (k : Int)), .un] _
    simp [asB_bl, h]
    exact ⟨small_ok (by omega), by simp [Ends1, outR]⟩
/-! all rows -/
def more3 (r : List Int) : List (List Int) := [r ++ [0], r ++ [1], r ++ [2]]
def allRows : Nat → List (List Int)
  | 0 => [[]]
  | n + 1 => (allRows n).flatMap more3
theorem allRows_len : ∀ n, (allRows n).length = 3 ^ n
  | 0 => rfl
  | n + 1 => by
    have : ∀ l : List (List Int), (l.flatMap more3).length = l.length * 3 := by
      intro l
      induction l with
      | nil => rfl
      | cons x l ih => rw [List.flatMap_cons, List.length_append, ih]; simp [more3]; omega
    rw [allRows, this, allRows_len n]
    rfl
theorem allRows_mem {n : Nat} {r : List Int} : r ∈ allRows n ↔ r.length = n ∧ ∀ v ∈ r, v = 0 ∨ v = 1 ∨ v = 2 := by
  induction n generalizing r with
  | zero =>
    simp [allRows]
    rintro rfl
    simp
  | succ n ih =>
    rw [allRows, List.mem_flatMap]
    constructor
    · rintro ⟨s, hs, hr⟩
      have h := ih.mp hs
      simp [more3] at hr
      rcases hr with rfl | rfl | rfl <;> simp [h.1] <;> intro v hv <;> rcases hv with hv | hv <;> first | exact h.2 v hv | simp [hv]
    · rintro ⟨hl, hv⟩
      have hne : r ≠ [] := by intro e; rw [e] at hl; simp at hl
      refine ⟨r.dropLast, ih.mpr ⟨by simp [hl], fun v h => hv v (List.dropLast_subset r h)⟩, ?_⟩
      have e := List.dropLast_concat_getLast hne
      have := hv _ (List.getLast_mem hne)
      rw [← e]
      simp [more3]
      exact this
theorem flat3 (l : List (List Int)) : (l.flatMap more3).length = l.length * 3 := by
  induction l with
  | nil => rfl
  | cons x l ih => rw [List.flatMap_cons, List.length_append, ih]; simp [more3]; omega
theorem rows_turn {rs : List (List Int)} (hl : rs.length < 200) {c0 c1 c2 c4 c5 : Cell} {Q : Out → Prop} (q : ∀ c d, Q (.nx [c0, c1, c2, .o false (.l ((rs.flatMap more3).map eRow)), c, d])) (hr : ∀ r ∈ rs, r.length < 500) :
    RL (gN 4) (forS (rng1 (kon (.int 3))) (gN 5) (exS (mtV isL 3 (argCons (DS.bi (getV 4) (mkT (argCons (getV 5) argNil)) oAdd) argNil) opAppend))) (rs.map eRow) [c0, c1, c2, .o false (.l []), c4, c5] Q := by
  refine RL_fold eRow (fun zs c => ∃ c4 c5, c = [c0, c1, c2, .o false (.l ((zs.flatMap more3).map eRow)), c4, c5]) rs (fun zs x ys c e i => ?_) ⟨_, _, rfl⟩ (fun c i => ?_)
  · obtain ⟨c4, c5, rfl⟩ := i
    have hz : (zs.flatMap more3).length ≤ 600 := by
      have := congrArg List.length e
      rw [flat3]
      simp at this
      omega
    have hx : x.length < 500 := hr x (by rw [e]; simp)
    have z0 : 1 ≤ sizeLine := small_ok (by omega)
    have z1 : x.length + 1 ≤ sizeLine := small_ok (by omega)
    have z2 : (List.map (fun a => (more3 a).length) zs).sum + 3 ≤ sizeLine := by
      rw [← List.length_flatMap]
      exact small_ok (by omega)
    simp [rng3]
    unfold eRow
    rw [RL_cons]
    simp [z0, z1]
    rw [RL_cons]
    simp [z0, z1]
    rw [RL_cons]
    simp [z0, z1]
    refine ⟨by omega, by omega, by omega, ?_⟩
    rw [RL_nil]
    simp [turn, more3]
  · obtain ⟨c4, c5, rfl⟩ := i
    exact q _ _
theorem range_pre {n : Nat} {zs ys : List Nat} {x : Nat} (e : List.range n = zs ++ x :: ys) : x = zs.length ∧ zs.length < n := by
  have hl := congrArg List.length e
  simp at hl
  have h1 : (List.range n)[zs.length]? = some x := by rw [e]; simp
  rw [List.getElem?_range (by omega)] at h1
  cases h1
  exact ⟨rfl, by omega⟩
theorem all_rows_law (A : Ad) (n : Nat) (hn : n ≤ 5) : Fv (F__law_all_rows A) [.int (n : Int)] (.d (.lst ((allRows n).map eRow))) := by
  refine fv_of ?_
  unfold g__law_all_rows
  show RS _ [Cell.d (.int (n : Int)), .un, .un, .un, .un, .un] _
  simp
  refine ⟨small_ok (by omega), by omega, ?_⟩
  rw [rngD0]
  refine RL_fold (fun i : Nat => D.int (i : Int)) (fun zs c => ∃ c2 c3 c4 c5, c = [.d (.int (n : Int)), .d (.lst ((allRows zs.length).map eRow)), c2, c3, c4, c5]) _ (fun zs x ys c e i => ?_) ⟨_, _, _, _, rfl⟩ (fun c i => ?_)
  · obtain ⟨c2, c3, c4, c5, rfl⟩ := i
    obtain ⟨rfl, hz⟩ := range_pre e
    have h3 := allRows_len zs.length
    have h4 : 3 ^ zs.length ≤ 3 ^ 4 := Nat.pow_le_pow_right (by omega) (by omega)
    simp
    refine rows_turn (by omega) (fun c d => ?_) (fun r hr => ?_)
    · simp
      simp [turn, allRows]
    · have := (allRows_mem.mp hr).1
      omega
  · obtain ⟨c2, c3, c4, c5, rfl⟩ := i
    rw [List.length_range]
    simp [aft, Ends1, outR]
end K21

set_option Elab.async false
set_option linter.all false
set_option maxRecDepth 100000
set_option maxHeartbeats 4000000
set_option autoImplicit false
namespace K21
open PySem PySem.Spec L2 DS
theorem zip_keys {ns : List Str} {r : List Int} (h : r.length = ns.length) : (ns.zip r).map (·.1) = ns := List.map_fst_zip (by omega)
theorem zip_nd {ns : List Str} {r : List Int} (h : r.length = ns.length) (hn : ns.Nodup) : Nd (ns.zip r) := by
  unfold Nd
  rw [zip_keys h]
  exact hn
theorem values_ok (A : Ad) {ns : List Str} {r : List Int} (h : r.length = ns.length) (hn : ns.Nodup) (hl : ns.length < 900) : Fv (F__law_values A) [eN ns, eRow r] (.o (.k (mkd (ns.zip r)))) := by
  refine fv_of ?_
  unfold g__law_values
  show RS _ [Cell.d (.tup (ns.map .str)), .d (.tup (r.map .int)), .un, .un] _
  simp
  refine ⟨by omega, ?_⟩
  rw [rngD0]
  refine RL_fold (fun i : Nat => D.int (i : Int)) (fun zs c => ∃ c3, c = [Cell.d (.tup (ns.map .str)), .d (.tup (r.map .int)), .o false (.k (mkd (mrg [] ((ns.zip r).take zs.length)))), c3]) _ (fun zs x ys c e i => ?_) ⟨_, rfl⟩ (fun c i => ?_)
  · obtain ⟨c3, rfl⟩ := i
    obtain ⟨rfl, hz⟩ := range_pre e
    have h1 : (ns.map D.str)[zs.length]? = some (.str ns[zs.length]) := by rw [List.getElem?_map, List.getElem?_eq_getElem hz]; rfl
    have h2 : (r.map D.int)[zs.length]? = some (.int r[zs.length]) := by rw [List.getElem?_map, List.getElem?_eq_getElem (by omega)]; rfl
    have g1 : ∀ k, opK (atI (ns.map D.str) (zs.length : Int)) k ↔ k (.str ns[zs.length]) := fun k => at_nat k h1
    have g2 : ∀ k, opK (atI (r.map D.int) (zs.length : Int)) k ↔ k (.int r[zs.length]) := fun k => at_nat k h2
    have hm : (mrg [] ((ns.zip r).take zs.length)).length < sizeLine := by
      have := mrg_len ((ns.zip r).take zs.length) []
      rw [List.length_take] at this
      have h3 := small_ok (n := ns.length + 1) (by omega)
      simp only [List.length_nil] at this
      omega
    simp [↓g1, ↓g2, mkd_len]
    refine ⟨hm, ?_⟩
    rw [mkd_put]
    have hz2 : zs.length < (ns.zip r).length := by simp; omega
    have e2 : (ns.zip r).take (zs.length + 1) = (ns.zip r).take zs.length ++ [(ns[zs.length], r[zs.length])] := by
      rw [List.take_succ, List.getElem?_eq_getElem hz2]
      simp
    rw [e2]
    unfold mrg
    rw [List.foldl_append]
    rfl
  · obtain ⟨c3, rfl⟩ := i
    rw [List.length_range, List.take_of_length_le (by simp; omega), mrg_nil (zip_nd h hn)]
    simp [aft, Ends1, outR]
/-- the solutions of a theory, as rows -/
def okRow (ns : List Str) (ts : List Tb) (r : List Int) : Bool := ts.all fun t => decide (rowOf (look (ns.zip r)) t.1 ∈ t.2)
def sols (ns : List Str) (ts : List Tb) : List (List Int) := (allRows ns.length).filter (okRow ns ts)
def eSol (ns : List Str) (r : List Int) : D := .dk (mkd (ns.zip r))
def subT (ns : List Str) (t : Tb) : Prop := okT t ∧ (∀ n ∈ t.1, n ∈ ns)
theorem look_zip_some {ns : List Str} {r : List Int} (h : r.length = ns.length) {n : Str} (hm : n ∈ ns) : (look (ns.zip r) n).isSome = true := by
  rw [Option.isSome_iff_ne_none]
  intro e
  rw [look_none, zip_keys h] at e
  exact e hm
theorem tot_zip {ns : List Str} {r : List Int} (h : r.length = ns.length) {ks : List Str} (hk : ∀ n ∈ ks, n ∈ ns) : tot (look (ns.zip r)) ks := fun n hn => look_zip_some h (hk n hn)
def tabB (p : Tb → Bool) : List Tb → D → Bool := fun ts x => ts.any fun t => p t
theorem solutions_ok (A : Ad) {ns : List Str} {ts : List Tb} (hn : ns.Nodup) (hl : ns.length ≤ 5) (ht : ∀ t ∈ ts, subT ns t) (htl : ts.length < 900) :
    Fv (F__law_solutions A) [eTh ns ts] (.o (.l ((sols ns ts).map (eSol ns)))) := by
  refine fv_of ?_
  unfold g__law_solutions
  show RS _ [Cell.d (.tup [.tup (ns.map .str), .tup (ts.map eT)]), .un, .un, .un, .un] _
  simp
  refine R_call (all_rows_law A ns.length hl) rfl ?_
  simp
  refine RL_fold eRow (fun zs c => ∃ c2 c3, c = [Cell.d (.tup [.tup (ns.map .str), .tup (ts.map eT)]), .o false (.l ((zs.filter (okRow ns ts)).map (eSol ns))), c2, c3, .un]) _ (fun zs x ys c e i => ?_) ⟨_, _, rfl⟩ (fun c i => ?_)
  · obtain ⟨c2, c3, rfl⟩ := i
    have hx : x.length = ns.length := (allRows_mem.mp (by rw [e]; simp : x ∈ allRows ns.length)).1
    have hz : zs.length < 300 := by
      have h1 := congrArg List.length e
      have h2 := allRows_len ns.length
      have h4 : 3 ^ ns.length ≤ 3 ^ 5 := Nat.pow_le_pow_right (by omega) hl
      simp at h1
      omega
    simp
    refine R_call (values_ok A hx hn (by omega)) rfl ?_
    simp
    refine lc_enc eT (fun t => !decide (rowOf (look (ns.zip x)) t.1 ∈ t.2)) eT (by simp [noOw]) (small_ok (by omega)) (fun t htm => ?_) ?_
    · simp only [wipeC, List.set_cons_succ, List.set_cons_zero]
      simp
      have hs := ht t htm
      have hf := fits_ok A t (im_mkd (ns.zip x)) (by rw [lk_mkd]; exact tot_zip hx hs.2) (small_ok hs.1.2.1)
      refine R_call hf rfl ?_
      rw [lk_mkd]
      simp [reC]
    · have key : (ts.filter fun t => !decide (rowOf (look (ns.zip x)) t.1 ∈ t.2)) = [] ↔ okRow ns ts x = true := by
        rw [List.filter_eq_nil_iff]
        unfold okRow
        rw [List.all_eq_true]
        simp
      generalize List.filter (fun t : Tb => !decide (rowOf (look (ns.zip x)) t.1 ∈ t.2)) ts = F at key ⊢
      simp [asB_bl]
      by_cases ho : okRow ns ts x = true
      · have hz2 : (zs.filter (okRow ns ts)).length < sizeLine := by
          have h1 := List.length_filter_le (okRow ns ts) zs
          have h2 := small_ok (n := zs.length + 1) (by omega)
          omega
        simp [key.mpr ho, List.filter_append, ho, turn, hz2, eSol]
      · have hF : F ≠ [] := fun z => ho (key.mp z)
        simp [hF, List.filter_append, ho, turn]
  · obtain ⟨c2, c3, rfl⟩ := i
    simp [aft, Ends1, outR, sols]
end K21

set_option Elab.async false
set_option linter.all false
set_option maxRecDepth 100000
set_option maxHeartbeats 4000000
set_option autoImplicit false
namespace K21
open PySem PySem.Spec L2 DS
def someP (ns : List Str) : Res → Prop := fun y => ∃ ks : List Str, y = .o (.l (ks.map .str)) ∧ ks.Sublist ns
theorem some_ok (A : Ad) (x : D) (ns : List Str) (most : Int) (hx : itemsD x = some (ns.map .str)) (hl : ns.length < 900) : FvS (F__law_some A) [x, .int most] (someP ns) := by
  refine fvS_of fun a b => ?_
  unfold g__law_some
  show RS _ [src true a b, .d x, .d (.int most), .un, .un] _
  have gi : ∀ k, opK (itemsD x) k ↔ k (ns.map .str) := fun k => by rw [hx]; exact opK_some _ _
  simp [↓gi]
  refine RL_fold D.str (fun zs c => ∃ a b ks c4, c = [src true a b, .d x, .d (.int most), .o false (.l (ks.map .str)), c4] ∧ ks.Sublist zs) ns (fun zs z ys c e i => ?_) ⟨a, b, [], .un, rfl, List.Sublist.refl _⟩ (fun c i => ?_)
  · obtain ⟨a, b, ks, c4, rfl, hs⟩ := i
    have hk : ks.length < sizeLine := by
      have h1 := congrArg List.length e
      have h2 := hs.length_le
      simp at h1
      have h3 := small_ok (n := ns.length) (by omega)
      omega
    simp [asB_bl]
    by_cases hm : (ks.length : Int) < most
    · simp only [hm, decide_true, if_true, src]
      simp
      refine R_callS (draw_ok A 3 (by omega) (by omega)) rfl rfl fun y a b hy => ?_
      obtain ⟨r, rfl, h0, h1⟩ := hy
      simp only [List.set_cons_zero, src]
      simp [asB_bl]
      split
      · simp [turn, hk]
        exact ⟨a, b, ks ++ [z], ⟨⟨rfl, rfl⟩, by simp⟩, hs.append (List.Sublist.refl _)⟩
      · exact ⟨a, b, ks, ⟨⟨rfl, rfl⟩, rfl⟩, hs.trans (List.sublist_append_left _ _)⟩
    · simp [hm, turn]
      exact ⟨a, b, ks, ⟨rfl, rfl⟩, hs.trans (List.sublist_append_left _ _)⟩
  · obtain ⟨a, b, ks, c4, rfl, hs⟩ := i
    simp [aft]
    refine ⟨a, b, _, rfl, by simp, _, rfl, ks, rfl, hs⟩
theorem unmap {α : Type} (enc : α → D) (p : α → Prop) : ∀ ys : List D, (∀ y ∈ ys, ∃ a, p a ∧ y = enc a) → ∃ as : List α, ys = as.map enc ∧ ∀ a ∈ as, p a
  | [], _ => ⟨[], rfl, by simp⟩
  | y :: ys, h => by
    obtain ⟨as, rfl, ha⟩ := unmap enc p ys fun z hz => h z (List.mem_cons_of_mem _ hz)
    obtain ⟨a, pa, rfl⟩ := h y List.mem_cons_self
    refine ⟨a :: as, rfl, ?_⟩
    intro b hb
    rcases List.mem_cons.mp hb with rfl | hb
    · exact pa
    · exact ha b hb
def tabOk (ns : List Str) (t : Tb) : Prop := t.1.Sublist ns ∧ t.2.Sublist (allRows t.1.length)
def tabP (ns : List Str) : Res → Prop := fun y => ∃ t, y = .d (eT t) ∧ tabOk ns t
theorem allRows_le {n : Nat} (h : n ≤ 5) : (allRows n).length ≤ 243 := by
  rw [allRows_len]
  have h4 : 3 ^ n ≤ 3 ^ 5 := Nat.pow_le_pow_right (by omega) h
  omega
theorem table_ok (A : Ad) (ns : List Str) (hl : ns.length ≤ 5) : FvS (F__law_table A) [eN ns] (tabP ns) := by
  refine fvS_of fun a b => ?_
  unfold g__law_table
  show RS _ [src true a b, .d (.tup (ns.map .str)), .un, .un, .un] _
  simp only [src]
  simp
  refine R_callS (draw_ok A 4 (by omega) (by omega)) rfl rfl fun y a b hy => ?_
  obtain ⟨r, rfl, h0, h1⟩ := hy
  simp only [List.set_cons_zero, src]
  refine R_callS (some_ok A (.tup (ns.map .str)) ns r rfl (by omega)) rfl rfl fun y a b hy => ?_
  obtain ⟨ks, rfl, hs⟩ := hy
  simp only [List.set_cons_zero, src]
  simp
  refine R_callS (draw_ok A 4 (by omega) (by omega)) rfl rfl fun y a b hy => ?_
  obtain ⟨r, rfl, h0, h1⟩ := hy
  simp only [List.set_cons_zero, src]
  simp
  have hk : ks.length ≤ 5 := Nat.le_trans hs.length_le hl
  refine R_call (all_rows_law A ks.length hk) rfl ?_
  simp
  refine lc_sub eRow (fun c => ∃ a b, c = [src true a b, .d (.tup (ns.map .str)), .d (.tup (ks.map .str)), .d (.int r), .un]) (small_ok (by have := allRows_le hk; omega)) (fun x hx c i => ?_) (fun rs c hr i => ?_) ⟨a, b, rfl⟩
  · obtain ⟨a, b, rfl⟩ := i
    refine ⟨by simp [noOw, src], ?_⟩
    simp only [wipeC, List.set_cons_succ, List.set_cons_zero, src]
    simp
    refine R_callS (draw_ok A 4 (by omega) (by omega)) rfl rfl fun y a b hy => ?_
    obtain ⟨r2, rfl, h0, h1⟩ := hy
    simp only [List.set_cons_zero, src]
    simp [asB_bl]
    simp [reC]
  · obtain ⟨a, b, rfl⟩ := i
    refine ⟨small_ok (by omega), a, b, _, rfl, by simp, _, rfl, (ks, rs), rfl, hs, hr⟩
end K21

set_option Elab.async false
set_option linter.all false
set_option maxRecDepth 100000
set_option maxHeartbeats 4000000
set_option autoImplicit false
namespace K21
open PySem PySem.Spec L2 DS
theorem shp_lrows (rs : List (List Int)) : shp (.lst (rs.map eRow)) = some (.list (rs.map fun r => .tuple (r.map .int))) := by
  unfold shp
  simp only [pyD, pyDs_rows, Option.map_some]
  rw [if_pos]
  have h := depth_rows rs
  have h2 : (PyData.list (rs.map fun r => .tuple (r.map .int))).depth ≤ 64 := by
    rw [PyData.depth]
    omega
  have h3 : (PyData.list (rs.map fun r => .tuple (r.map .int))).canLay0 = true := by
    rw [PyData.canLay0]
    exact lay_rows rs
  unfold SeqAt.shaped
  rw [h3, decide_eq_true h2]
  rfl
theorem pIn_lrows (r : List Int) (rs : List (List Int)) (k : Res → Prop) : opK (oIn (eRow r) (.lst (rs.map eRow))) k ↔ k (.d (.bl (decide (r ∈ rs)))) := by
  have e : oInB (eRow r) (.lst (rs.map eRow)) = some (decide (r ∈ rs)) := by
    unfold oInB
    simp only [shp_row, shp_lrows, pyDs_rows, any_rows]
  unfold oIn
  rw [e]
  exact opK_some _ _
theorem pop_ok {xs : List D} {i : Int} (h0 : 0 ≤ i) (h1 : i < xs.length) (hl : xs.length < 1000) (k : D × O → Prop) : opK (opPopAt (.l xs) [.int i]) k ↔ k (xs[i.toNat]'(by omega), .l (xs.eraseIdx i.toNat)) := by
  have e : opPopAt (.l xs) [.int i] = some (xs[i.toNat]'(by omega), .l (xs.eraseIdx i.toNat)) := by
    unfold opPopAt
    dsimp only
    rw [if_pos ⟨by omega, by omega⟩]
    have e2 : seqIndex? i xs.length = some i.toNat := by
      unfold seqIndex?
      first
        | (simp; omega)
        | (dsimp only; rw [if_neg (by omega)]; simp; omega)
    rw [e2]
    dsimp only
    rw [List.getElem?_eq_getElem (by omega)]
  rw [e]
  exact opK_some _ _
theorem erase_map {α β : Type} (f : α → β) : ∀ (xs : List α) (i : Nat), (xs.map f).eraseIdx i = (xs.eraseIdx i).map f
  | [], _ => rfl
  | _ :: _, 0 => rfl
  | x :: xs, i + 1 => by simp [erase_map f xs i]
theorem popM {α : Type} (enc : α → D) {xs : List α} {i : Int} (h0 : 0 ≤ i) (h1 : i < xs.length) (hl : xs.length < 1000) : ∃ x, x ∈ xs ∧ ∀ k : D × O → Prop, opK (opPopAt (.l (xs.map enc)) [.int i]) k ↔ k (enc x, .l ((xs.eraseIdx i.toNat).map enc)) := by
  have hj : i.toNat < xs.length := by omega
  refine ⟨xs[i.toNat], List.getElem_mem hj, fun k => ?_⟩
  rw [pop_ok h0 (by simpa using h1) (by simpa using hl)]
  rw [List.getElem_map, erase_map]
@[simp] theorem filter_tt {α : Type} (xs : List α) : xs.filter (fun _ => true) = xs := List.filter_eq_self.mpr fun _ _ => rfl
theorem question_ok (A : Ad) {ns : List Str} {ts : List Tb} {sl : List (List Int)} (hn : ns.Nodup) (hl : ns.length ≤ 5) (ht : ∀ t ∈ ts, tabOk ns t) (htl : ts.length < 900) (hsr : ∀ r ∈ sl, r.length = ns.length) (hsl : sl.length < 900) :
    FvS (F__law_question A) [eTh ns ts, .lst (sl.map (eSol ns))] (tabP ns) := by
  refine fvS_of fun a b => ?_
  unfold g__law_question
  show RS _ [src true a b, .d (.tup [.tup (ns.map .str), .tup (ts.map eT)]), .d (.lst (sl.map (eSol ns))), .un, .un, .un, .un, .un, .un, .un] _
  simp only [src]
  simp
  refine R_callS (some_ok A (.tup (ns.map .str)) ns 3 rfl (by omega)) rfl rfl fun y a b hy => ?_
  obtain ⟨ks, rfl, hs⟩ := hy
  simp only [List.set_cons_zero, src]
  simp
  refine R_callS (draw_ok A 6 (by omega) (by omega)) rfl rfl fun y a b hy => ?_
  obtain ⟨way, rfl, h0, h1⟩ := hy
  simp only [List.set_cons_zero, src]
  simp [asB_bl]
  by_cases w0 : way = 0
  · simp [w0]
    refine R_callS (table_ok A ns hl) rfl rfl fun y a b hy => ?_
    simp only [List.set_cons_zero]
    refine ⟨a, b, _, rfl, by simp, y, ?_, hy⟩
    obtain ⟨t, rfl, _⟩ := hy
    rfl
  · simp [w0]
    by_cases w1 : way = 1 ∧ 0 < ts.length
    · simp [w1]
      refine R_callS (draw_ok A ts.length (by omega) (by omega)) rfl rfl fun y a b hy => ?_
      obtain ⟨r, rfl, h0, h1⟩ := hy
      simp only [List.set_cons_zero, src]
      have g : ∀ k, opK (atI (ts.map eT) r) k ↔ k (eT (ts.getD r.toNat ([], []))) := fun k => ts_at h0 h1 k
      have hm : ts.getD r.toNat ([], []) ∈ ts := by
        have hj : r.toNat < ts.length := by omega
        simp [List.getD, hj]
      generalize ts.getD r.toNat ([], []) = t at g hm
      simp [↓g]
      exact ⟨a, b, _, rfl, by simp, _, rfl, t, rfl, ht t hm⟩
    · have e : ∀ p q : Prop, (if way = 1 then (if 0 < ts.length then p else q) else q) = q := by
        intro p q
        by_cases h1 : way = 1
        · by_cases h2 : 0 < ts.length
          · exact absurd ⟨h1, h2⟩ w1
          · rw [if_pos h1, if_neg h2]
        · rw [if_neg h1]
      rw [e]
      clear e
      refine lc_enc (eSol ns) (fun _ => true) (fun r => eRow (rowOf (look (ns.zip r)) ks)) (by simp [noOw]) (small_ok (by omega)) (fun r hr => ?_) ?_
      · simp only [wipeC, List.set_cons_succ, List.set_cons_zero]
        unfold eSol
        simp
        refine lc_enc D.str (fun _ => true) (fun n => .int ((look (ns.zip r) n).getD 0)) (by simp [noOw]) (small_ok (by have := hs.length_le; omega)) (fun n hn => ?_) ?_
        · simp only [wipeC, List.set_cons_succ, List.set_cons_zero]
          have hx := (im_mkd (ns.zip r)).some (by rw [lk_mkd]; exact look_zip_some (hsr r hr) (hs.subset hn))
          rw [lk_mkd] at hx
          simp [hx, reC]
        · simp [reC, eRow, rowOf, Function.comp_def]
      · have ef : sl.filter (fun _ => true) = sl := List.filter_eq_self.mpr fun _ _ => rfl
        rw [ef]
        have em : sl.map (fun r => eRow (rowOf (look (ns.zip r)) ks)) = (sl.map fun r => rowOf (look (ns.zip r)) ks).map eRow := by rw [List.map_map]; rfl
        rw [em]
        generalize (sl.map fun r => rowOf (look (ns.zip r)) ks) = tk
        have hk : ks.length ≤ 5 := Nat.le_trans hs.length_le hl
        simp
        refine R_call (all_rows_law A ks.length hk) rfl ?_
        simp
        refine lc_sub eRow (fun c => ∃ a b, c = [src true a b, .d (.tup [.tup (ns.map .str), .tup (ts.map eT)]), .d (.lst (sl.map (eSol ns))), .d (.tup (ks.map .str)), .d (.int way), .d (.lst (tk.map eRow)), .un, .un, .un, .un]) (small_ok (by have := allRows_le hk; omega)) (fun x hx c i => ?_) (fun rs c hr i => ?_) ⟨a, b, rfl⟩
        · obtain ⟨a, b, rfl⟩ := i
          refine ⟨by simp [noOw], ?_⟩
          simp only [wipeC, List.set_cons_succ, List.set_cons_zero, src]
          simp
          refine (pIn_lrows _ _ _).mpr ?_
          simp [asB_bl]
          by_cases m : x ∈ tk
          · simp [m, reC, src]
          · simp [m]
            by_cases w2 : way = 2
            · simp [w2]
              refine R_callS (draw_ok A 2 (by omega) (by omega)) rfl rfl fun y a b hy => ?_
              obtain ⟨r2, rfl, h0, h1⟩ := hy
              simp only [List.set_cons_zero, src]
              simp [asB_bl]
              simp [reC]
            · simp [w2, reC, src]
        · obtain ⟨a, b, rfl⟩ := i
          have hl2 : rs.length ≤ 243 := by
            have := allRows_le hk
            have := hr.length_le
            omega
          simp only [src]
          simp [asB_bl]
          by_cases w3 : way = 3
          · simp [w3]
            split
            · refine R_callS (draw_ok A rs.length (by omega) (by omega)) rfl rfl fun y a b hy => ?_
              obtain ⟨r2, rfl, h0, h1⟩ := hy
              simp only [List.set_cons_zero, src]
              obtain ⟨x, hx, g⟩ := popM eRow h0 h1 (by omega)
              simp [↓g]
              refine ⟨small_ok (by omega), a, b, _, rfl, by simp, _, rfl, (ks, rs.eraseIdx r2.toNat), rfl, hs, (List.eraseIdx_sublist rs r2.toNat).trans hr⟩
            · refine ⟨small_ok (by omega), a, b, _, rfl, by simp, _, rfl, (ks, rs), rfl, hs, hr⟩
          · simp [w3]
            refine ⟨small_ok (by omega), a, b, _, rfl, by simp, _, rfl, (ks, rs), rfl, hs, hr⟩
end K21

set_option Elab.async false
set_option linter.all false
set_option maxRecDepth 100000
set_option maxHeartbeats 4000000
set_option autoImplicit false
namespace K21
open PySem PySem.Spec L2 DS
theorem atM {α : Type} (enc : α → D) {xs : List α} {i : Int} (h0 : 0 ≤ i) (h1 : i < xs.length) : ∃ x, x ∈ xs ∧ ∀ k : D → Prop, opK (atI (xs.map enc) i) k ↔ k (enc x) := by
  obtain ⟨j, rfl⟩ := Int.eq_ofNat_of_zero_le h0
  have hj : j < xs.length := by omega
  refine ⟨xs[j], List.getElem_mem hj, fun k => at_nat k ?_⟩
  rw [List.getElem?_map, List.getElem?_eq_getElem hj]
  rfl
def orderP (ns : List Str) : Res → Prop := fun y => ∃ ks : List Str, y = .o (.l (ks.map .str)) ∧ ks.length = ns.length ∧ ∀ k ∈ ks, k ∈ ns
theorem order_ok (A : Ad) (ns : List Str) (hl : ns.length ≤ 5) : FvS (F__law_order A) [eN ns] (orderP ns) := by
  refine fvS_of fun a b => ?_
  unfold g__law_order
  show RS _ [src true a b, .d (.tup (ns.map .str)), .un, .un, .un] _
  simp
  refine RL_fold D.str (fun zs c => ∃ a b left ks c4, c = [src true a b, .d (.tup (ns.map .str)), .o false (.l (List.map D.str left)), .o false (.l (List.map D.str ks)), c4] ∧ left.length + zs.length = ns.length ∧ ks.length = zs.length ∧ (∀ k ∈ left, k ∈ ns) ∧ ∀ k ∈ ks, k ∈ ns) ns (fun zs z ys c e i => ?_) ⟨a, b, ns, [], .un, rfl, rfl, rfl, fun k h => h, by simp⟩ (fun c i => ?_)
  · obtain ⟨a, b, left, ks, c4, rfl, l1, l2, m1, m2⟩ := i
    have hz := congrArg List.length e
    simp at hz
    simp only [src]
    simp
    refine R_callS (draw_ok A left.length (by omega) (by omega)) rfl rfl fun y a b hy => ?_
    obtain ⟨r2, rfl, h0, h1⟩ := hy
    simp only [List.set_cons_zero, src]
    obtain ⟨x, hx, g⟩ := popM D.str h0 h1 (by omega)
    simp [↓g]
    refine ⟨by have := small_ok (n := ks.length + 1) (by omega); omega, ?_⟩
    refine ⟨a, b, left.eraseIdx r2.toNat, ks ++ [x], ⟨⟨rfl, rfl⟩, rfl, by simp⟩, ?_, ?_, ?_, ?_⟩
    · rw [List.length_eraseIdx]
      rw [if_pos (by omega)]
      omega
    · simp [l2]
    · exact fun k hk => m1 k (List.mem_of_mem_eraseIdx hk)
    · intro k hk
      rcases List.mem_append.mp hk with hk | hk
      · exact m2 k hk
      · rw [List.mem_singleton.mp hk]; exact m1 x hx
  · obtain ⟨a, b, left, ks, c4, rfl, l1, l2, m1, m2⟩ := i
    simp [aft]
    exact ⟨a, b, _, rfl, by simp, _, rfl, ks, rfl, l2, m2⟩
def treeP (d : Nat) : Res → Prop := fun y => ∃ t, y = .d (eTr t) ∧ dp t ≤ d ∧ marksOk t
theorem treeP.mono {d e : Nat} {y : Res} (h : treeP d y) (l : d ≤ e) : treeP e y := by
  obtain ⟨t, h1, h2, h3⟩ := h
  exact ⟨t, h1, by omega, h3⟩
theorem leaf_ok (A : Ad) (n : Nat) (hl : n < 900) : FvS (F__law_leaf A) [.int (n : Int)] (treeP 0) := by
  refine fvS_of fun a b => ?_
  unfold g__law_leaf
  show RS _ [src true a b, .d (.int (n : Int))] _
  simp only [src]
  simp
  have hm : (0 : Int) < (if (1 : Int) < (n : Int) then (n : Int) else 1) ∧ (if (1 : Int) < (n : Int) then (n : Int) else 1) < 1000 := by split <;> omega
  refine R_callS (draw_ok A _ hm.1 hm.2) rfl rfl fun y a b hy => ?_
  obtain ⟨r, rfl, h0, h1⟩ := hy
  simp only [List.set_cons_zero, src]
  simp
  refine ⟨small_ok (by omega), ?_⟩
  refine R_callS (draw_ok A 6 (by omega) (by omega)) rfl rfl fun y a b hy => ?_
  obtain ⟨r2, rfl, h0, h1⟩ := hy
  simp only [List.set_cons_zero, src]
  obtain ⟨x, hx, g⟩ := atM D.int (xs := [-1, -2, (n : Int), n + 3, 0, r]) h0 (by simpa using h1)
  have g2 : ∀ k : D → Prop, opK (atI [.int (-1), .int (-2), .int (n : Int), .int (n + 3), .int 0, .int r] r2) k ↔ k (.int x) := g
  simp [↓g2]
  exact ⟨a, b, _, rfl, by simp, _, rfl, .leaf x, rfl, Nat.le_refl _, trivial⟩
theorem zz_ok : SOk "zz" := by unfold SOk; decide +kernel
theorem spoilt_ok (A : Ad) (ns : List Str) (t : Tr) (n : Nat) (hl : ns.length ≤ 5) (hs : ∀ k ∈ ns, SOk k) (hn : n < 900) (ht : marksOk t) : FvS (F__law_spoilt A) [eN ns, eTr t, .int (n : Int)] (treeP (dp t + 1)) := by
  refine fvS_of fun a b => ?_
  unfold g__law_spoilt
  show RS _ [src true a b, .d (.tup (ns.map .str)), .d (eTr t), .d (.int (n : Int)), .un, .un, .un] _
  simp only [src]
  simp
  refine ⟨small_ok (by omega), small_ok (by omega), ?_⟩
  refine R_callS (draw_ok A (ns.length + 1) (by omega) (by omega)) rfl rfl fun y a b hy => ?_
  obtain ⟨r, rfl, h0, h1⟩ := hy
  simp only [List.set_cons_zero, src]
  obtain ⟨x, hx, g⟩ := atM D.str (xs := ns ++ [("zz" : Str)]) h0 (by simp; omega)
  have hxo : SOk x := by
    rcases List.mem_append.mp hx with h | h
    · exact hs x h
    · rw [List.mem_singleton.mp h]; exact zz_ok
  rw [List.map_append] at g
  have g2 : ∀ k : D → Prop, opK (atI (ns.map D.str ++ [D.str "zz"]) r) k ↔ k (.str x) := g
  simp [↓g2]
  refine R_callS (draw_ok A 5 (by omega) (by omega)) rfl rfl fun y a b hy => ?_
  obtain ⟨way, rfl, h0, h1⟩ := hy
  simp only [List.set_cons_zero, src]
  have z4 : 4 ≤ sizeLine := small_ok (by omega)
  cases t with
  | leaf i =>
    unfold eTr
    simp [asB_bl]
    split
    · refine ⟨z4, a, b, _, rfl, by simp, _, rfl, .node x (.leaf i) (.leaf i) (.leaf i), rfl, by simp [dp], hxo, trivial, trivial, trivial⟩
    · refine R_callS (leaf_ok A n hn) rfl rfl fun y a b hy => ?_
      simp only [List.set_cons_zero]
      refine ⟨a, b, _, rfl, by simp, y, ?_, hy.mono (by omega)⟩
      obtain ⟨t, rfl, _⟩ := hy
      rfl
  | node s t1 t2 t3 =>
    obtain ⟨ms, m1, m2, m3⟩ := ht
    have hd : ∀ u v w : Tr, dp u ≤ max (dp t1) (max (dp t2) (dp t3)) → dp v ≤ max (dp t1) (max (dp t2) (dp t3)) → dp w ≤ max (dp t1) (max (dp t2) (dp t3)) → ∀ z, dp (.node z u v w) ≤ dp (.node s t1 t2 t3) + 1 := by
      intro u v w h1 h2 h3 z
      simp only [dp]
      omega
    unfold eTr
    simp [asB_bl]
    split
    · refine R_callS (leaf_ok A n hn) rfl rfl fun y a b hy => ?_
      simp only [List.set_cons_zero]
      refine ⟨a, b, _, rfl, by simp, y, ?_, hy.mono (by omega)⟩
      obtain ⟨t, rfl, _⟩ := hy
      rfl
    · split
      · exact ⟨z4, a, b, _, rfl, by simp, _, rfl, .node x t1 t2 t3, rfl, hd _ _ _ (by omega) (by omega) (by omega) _, hxo, m1, m2, m3⟩
      · split
        · exact ⟨z4, a, b, _, rfl, by simp, _, rfl, .node s t2 t1 t3, rfl, hd _ _ _ (by omega) (by omega) (by omega) _, ms, m2, m1, m3⟩
        · split
          · exact ⟨z4, a, b, _, rfl, by simp, _, rfl, .node s t1 t1 t3, rfl, hd _ _ _ (by omega) (by omega) (by omega) _, ms, m1, m1, m3⟩
          · exact ⟨z4, a, b, _, rfl, by simp, _, rfl, .node s t3 t2 t1, rfl, hd _ _ _ (by omega) (by omega) (by omega) _, ms, m3, m2, m1⟩
end K21

set_option Elab.async false
set_option linter.all false
set_option maxRecDepth 100000
set_option maxHeartbeats 4000000
set_option autoImplicit false
namespace K21
open PySem PySem.Spec L2 DS
@[simp ↓] theorem R_slV {cs : Cs} (f : M Res) (lo hi : M (Option Int)) (Q : Res → Cs → Prop) : R (slV f lo hi) cs Q ↔ R f cs fun r c1 => R lo c1 fun l c2 => R hi c2 fun u c3 => opK (view c3 (frz r)) fun x => opK (oSl x l u) fun z => Q z c3 := by
  unfold slV
  simp only [R_bnd, R_asR, R_vw, R_lft]
@[simp ↓] theorem R_noO {cs : Cs} (Q : Option Int → Cs → Prop) : R noO cs Q ↔ Q none cs := R_ret _ _
def asI : D → Option Int
  | .int i => some i
  | _ => none
@[simp ↓] theorem asI_i (i : Int) (k : Int → Prop) : opK (asI (.int i)) k ↔ k i := opK_some _ _
@[simp ↓] theorem R_soO {cs : Cs} (f : M Res) (Q : Option Int → Cs → Prop) : R (soO f) cs Q ↔ R (asD f) cs fun x c1 => opK (asI x) fun i => Q (some i) c1 := by
  unfold soO
  rw [R_bnd]
  constructor
  · rintro ⟨x, c1, e, q⟩
    refine ⟨x, c1, e, ?_⟩
    cases x <;> first | exact (opK_some _ _).mpr ((R_ret _ _).mp q) | exact False.elim ((R_fail _).mp q)
  · rintro ⟨x, c1, e, i, hi, q⟩
    refine ⟨x, c1, e, ?_⟩
    cases x <;> first | cases hi | skip
    exact (R_ret _ _).mpr q
theorem cut1 (x : D) (xs : List D) (k : Res → Prop) : opK (oSl (.lst (x :: xs)) (some 1) none) k ↔ k (.o (.l xs)) := by
  have e : cutD (x :: xs) (some 1) none = xs := by
    unfold cutD
    simp [HT.sIx]
  have e2 : oSl (.lst (x :: xs)) (some 1) none = some (.o (.l (cutD (x :: xs) (some 1) none))) := rfl
  rw [e2, e]
  exact opK_some _ _
theorem changed_ok (A : Ad) (ns : List Str) (n : Nat) (hl : ns.length ≤ 5) (hs : ∀ k ∈ ns, SOk k) (hn : n < 900) : ∀ (m : Nat) (t : Tr) (d : Int), dp t < m → marksOk t → FvS (F__law_changed A m) [eN ns, eTr t, .int (n : Int), .int d] (treeP (dp t + 1))
  | 0, t, _, h, _ => absurd h (by omega)
  | m + 1, t, d, hm, ht => by
    refine fvS_of fun a b => ?_
    unfold g__law_changed
    show RS _ [src true a b, .d (.tup (ns.map .str)), .d (eTr t), .d (.int (n : Int)), .d (.int d), .un, .un] _
    simp only [src]
    have fin : ∀ (a b : Int) (Q : Res → Cs → Prop), (∀ y a b, treeP (dp t + 1) y → Q y [src true a b, .d (.tup (ns.map .str)), .d (eTr t), .d (.int (n : Int)), .d (.int d), .un, .un]) → R (callR (F__law_spoilt A) [frz (Res.s 0), frz (Res.d (D.tup (List.map D.str ns))), frz (Res.d (eTr t)), frz (Res.d (D.int (n : Int)))]) [src true a b, .d (.tup (ns.map .str)), .d (eTr t), .d (.int (n : Int)), .d (.int d), .un, .un] Q := by
      intro a b Q q
      refine R_callS (spoilt_ok A ns t n hl hs hn ht) rfl rfl fun y a b hy => q y a b hy
    have fin2 : ∀ y a b, treeP (dp t + 1) y → Ends2 4 (treeP (dp t + 1)) (Out.rt y [src true a b, .d (.tup (ns.map .str)), .d (eTr t), .d (.int (n : Int)), .d (.int d), .un, .un]) := by
      intro y a b hy
      refine ⟨a, b, _, rfl, by simp, y, ?_, hy⟩
      obtain ⟨t, rfl, _⟩ := hy
      rfl
    cases t with
    | leaf i =>
      simp [eTr]
      exact fin a b _ fin2
    | node s t1 t2 t3 =>
      simp [eTr, asB_bl]
      by_cases hd : d = 0
      · subst hd
        simp
        exact fin a b _ fin2
      · simp [hd]
        refine R_callS (draw_ok A 4 (by omega) (by omega)) rfl rfl fun y a b hy => ?_
        obtain ⟨r, rfl, h0, h1⟩ := hy
        simp only [List.set_cons_zero, src]
        simp [asB_bl]
        by_cases hr : r = 0
        · simp [hr]
          exact fin a b _ fin2
        · simp [hr]
          clear fin fin2
          obtain ⟨ms, m1, m2, m3⟩ := ht
          simp only [dp] at hm
          refine R_callS (draw_ok A 3 (by omega) (by omega)) rfl rfl fun y a b hy => ?_
          obtain ⟨r, rfl, h0, h1⟩ := hy
          simp only [List.set_cons_zero, src]
          have hc : r = 0 ∨ r = 1 ∨ r = 2 := by omega
          have ih := fun (t : Tr) (h1 : dp t < m) (h2 : marksOk t) => changed_ok A ns n hl hs hn m t (d - 1) h1 h2
          have hx : ∀ (j : Nat) (k : Nat → Prop), j < 4 → (opK (ixN (([D.str s, eTr t1, eTr t2, eTr t3] : List D).length) (j : Int)) k ↔ k j) := fun j k h => ix_nat k (by simpa using h)
          rcases hc with rfl | rfl | rfl
          · have hx := fun k => hx 1 k (by omega)
            simp
            refine R_callS (ih t1 (by omega) m1) rfl rfl fun y a b hy => ?_
            obtain ⟨t, rfl, hd2, hm2⟩ := hy
            simp only [List.set_cons_zero, src]
            simp
            exact ⟨a, b, _, rfl, by simp, _, rfl, .node s t t2 t3, rfl, by simp only [dp]; omega, ms, hm2, m2, m3⟩
          · have hx := fun k => hx 2 k (by omega)
            simp
            refine R_callS (ih t2 (by omega) m2) rfl rfl fun y a b hy => ?_
            obtain ⟨t, rfl, hd2, hm2⟩ := hy
            simp only [List.set_cons_zero, src]
            simp
            refine (hx _).mpr ?_
            simp
            exact ⟨a, b, _, rfl, by simp, _, rfl, .node s t1 t t3, rfl, by simp only [dp]; omega, ms, m1, hm2, m3⟩
          · have hx := fun k => hx 3 k (by omega)
            simp
            refine R_callS (ih t3 (by omega) m3) rfl rfl fun y a b hy => ?_
            obtain ⟨t, rfl, hd2, hm2⟩ := hy
            simp only [List.set_cons_zero, src]
            simp
            refine (hx _).mpr ?_
            simp
            exact ⟨a, b, _, rfl, by simp, _, rfl, .node s t1 t2 t, rfl, by simp only [dp]; omega, ms, m1, m2, hm2⟩
end K21

set_option Elab.async false
set_option linter.all false
set_option maxRecDepth 100000
set_option maxHeartbeats 4000000
set_option autoImplicit false
namespace K21
open PySem PySem.Spec L2 DS
theorem three {ys : List D} (h : ys.length = 3) : ∃ a b c, ys = [a, b, c] := by
  match ys, h with
  | [a, b, c], _ => exact ⟨a, b, c, rfl⟩
theorem rng3m : rngD 0 3 = ([0, 1, 2] : List Int).map D.int := rfl
def treeD (d : Nat) : D → Prop := fun y => ∃ t, y = eTr t ∧ dp t ≤ d ∧ marksOk t
theorem grown_ok (A : Ad) (ns : List Str) (n : Nat) (hl : ns.length ≤ 5) (hs : ∀ k ∈ ns, SOk k) (hn : n < 900) : ∀ (m d : Nat), d < m → d < 900 → FvS (F__law_grown A m) [eN ns, .int (n : Int), .int (d : Int)] (treeP d)
  | 0, d, h, _ => absurd h (by omega)
  | m + 1, d, hm, hd9 => by
    refine fvS_of fun a b => ?_
    unfold g__law_grown
    show RS _ [src true a b, .d (.tup (ns.map .str)), .d (.int (n : Int)), .d (.int (d : Int)), .un, .un, .un, .un] _
    simp only [src]
    simp [asB_bl]
    have fin : ∀ (a b : Int), R (callR (F__law_leaf A) [frz (Res.s 0), frz (Res.d (D.int (n : Int)))]) [Cell.o true (O.l [D.int a, D.int b]), .d (.tup (ns.map .str)), .d (.int (n : Int)), .d (.int (d : Int)), .un, .un, .un, .un] fun r cs1 => Ends2 3 (treeP d) (Out.rt r cs1) := by
      intro a b
      refine R_callS (leaf_ok A n hn) rfl rfl fun y a b hy => ?_
      refine ⟨a, b, _, rfl, by simp, y, ?_, hy.mono (by omega)⟩
      obtain ⟨t, rfl, _⟩ := hy
      rfl
    by_cases hd : d = 0
    · simp [hd] at fin ⊢
      exact fin a b
    · simp [hd]
      refine R_callS (draw_ok A 3 (by omega) (by omega)) rfl rfl fun y a b hy => ?_
      obtain ⟨r, rfl, h0, h1⟩ := hy
      simp only [List.set_cons_zero, src]
      simp [asB_bl]
      by_cases hr : r = 0
      · simp [hr]
        exact fin a b
      · simp [hr]
        clear fin
        refine ⟨small_ok (by omega), small_ok (by omega), ?_⟩
        refine R_callS (draw_ok A (ns.length + 1) (by omega) (by omega)) rfl rfl fun y a b hy => ?_
        obtain ⟨r, rfl, h0, h1⟩ := hy
        simp only [List.set_cons_zero, src]
        obtain ⟨x, hx, g⟩ := atM D.str (xs := ns ++ [("zz" : Str)]) h0 (by simp; omega)
        have hxo : SOk x := by
          rcases List.mem_append.mp hx with h | h
          · exact hs x h
          · rw [List.mem_singleton.mp h]; exact zz_ok
        rw [List.map_append] at g
        have g2 : ∀ k : D → Prop, opK (atI (ns.map D.str ++ [D.str "zz"]) r) k ↔ k (.str x) := g
        simp [↓g2, rng3m]
        refine lc_all (as := ([0, 1, 2] : List Int)) D.int (fun c => ∃ a b, c = [src true a b, .d (.tup (ns.map .str)), .d (.int (n : Int)), .d (.int (d : Int)), .d (.lst (ns.map .str ++ [.str "zz"])), .d (.str x), .un, .un]) (treeD (d - 1)) (small_ok (by simp)) (fun v hv c i => ?_) (fun ys c hy hl i => ?_) ⟨a, b, rfl⟩
        · obtain ⟨a, b, rfl⟩ := i
          refine ⟨by simp [noOw], ?_⟩
          simp only [wipeC, List.set_cons_succ, List.set_cons_zero, src]
          simp
          have ed : ((d : Int) - 1) = ((d - 1 : Nat) : Int) := by omega
          rw [ed]
          refine R_callS (grown_ok A ns n hl hs hn m (d - 1) (by omega) (by omega)) rfl rfl fun y a b hy => ?_
          obtain ⟨t, rfl, hd2, hm2⟩ := hy
          simp only [List.set_cons_zero, src]
          simp [reC]
          exact ⟨t, rfl, hd2, hm2⟩
        · obtain ⟨a, b, rfl⟩ := i
          obtain ⟨y1, y2, y3, rfl⟩ := three hl
          obtain ⟨t1, rfl, d1, m1⟩ := hy y1 (by simp)
          obtain ⟨t2, rfl, d2, m2⟩ := hy y2 (by simp)
          obtain ⟨t3, rfl, d3, m3⟩ := hy y3 (by simp)
          simp only [src]
          simp
          exact ⟨small_ok (by omega), a, b, _, rfl, by simp, _, rfl, .node x t1 t2 t3, rfl, by simp only [dp]; omega, hxo, m1, m2, m3⟩
end K21

set_option Elab.async false
set_option linter.all false
set_option maxRecDepth 100000
set_option maxHeartbeats 4000000
set_option autoImplicit false
namespace K21
open PySem PySem.Spec L2 DS
theorem more_loop2 {ps : Ps} (hn : Nd ps) (hl : ps.length < 900) (s : Str) (v : Int) {c0 c1 c2 c3 c4 c5 c6 c7 c9 : Cell} {Q : Out → Prop} (e3 : c3 = .d (.dk (mkd ps)))
    (q : ∀ c, Q (.nx [c0, c1, c2, c3, c4, c5, c6, c7, .o false (.k (mkd (mrg [(s, v)] ps))), c])) : RL (gN 9) (sSub 8 (bi (getV 3) (getV 9) oIx) (getV 9)) ((mkd ps).map fun kv => keyD kv.1) [c0, c1, c2, c3, c4, c5, c6, c7, .o false (.k (mkd [(s, v)])), c9] Q := by
  subst e3
  rw [mkd_keys, List.map_map]
  refine RL_fold (D.str ∘ fun p : Str × Int => p.1) (fun zs c => ∃ c9, c = [c0, c1, c2, .d (.dk (mkd ps)), c4, c5, c6, c7, .o false (.k (mkd (mrg [(s, v)] zs))), c9]) ps (fun zs x ys c e i => ?_) ⟨_, rfl⟩ (fun c i => ?_)
  · obtain ⟨c9, rfl⟩ := i
    have hx : look ps x.1 = some x.2 := look_mem hn (by rw [e]; simp)
    have hz : (mrg [(s, v)] zs).length < sizeLine := by
      have := mrg_len zs [(s, v)]
      have h2 := congrArg List.length e
      simp at h2 this
      have := small_ok (n := (mrg [(s, v)] zs).length + 1) (by omega)
      omega
    simp [mkd_get, hx, mkd_len, hz]
    rw [mkd_put]
    unfold mrg
    rw [List.foldl_append]
    simp [turn]
  · obtain ⟨c9, rfl⟩ := i
    exact q c9
theorem made_loop {R' : Fd} {ns : List Str} {ts : List Tb} {o : Str} {os : List Str} {ps : Ps} {x4 : D} (hn : Nd ps) (hl : ps.length < 900) (ih : ∀ ps' : Ps, Nd ps' → ps'.length ≤ ps.length + 1 → FvS R' [eTh ns ts, .lst (os.map .str), .dk (mkd ps')] (treeP os.length)) {Q : Out → Prop} {a b : Int}
    (q : ∀ a b y1 y2 y3 c7 c8 c9, treeD os.length y1 → treeD os.length y2 → treeD os.length y3 → Q (.nx [.o true (.l [.int a, .int b]), .d (.tup [eN ns, .tup (ts.map eT)]), .d (.lst ((o :: os).map .str)), .d (.dk (mkd ps)), .d x4, .un, .o false (.l [y1, y2, y3]), c7, c8, c9])) :
    RL (gN 7) (seqS (sR 8 (dspK (pairsC (DS.bi (getV 2) (kon (D.int 0)) oIx) (getV 7) pairsN)))
      (seqS (forS (seqI (getV 3)) (gN 9) (sSub 8 (DS.bi (getV 3) (getV 9) oIx) (getV 9)))
        (exS (mtV isL 6 (argCons (callF R' (argCons (getV 0) (argCons (getV 1) (argCons (slV (getV 2) (soO (kon (D.int 1))) noO) (argCons (fzV2 8) argNil))))) argNil) opAppend))))
    (rngD 0 3) [.o true (.l [.int a, .int b]), .d (.tup [eN ns, .tup (ts.map eT)]), .d (.lst ((o :: os).map .str)), .d (.dk (mkd ps)), .d x4, .un, .o false (.l []), .un, .un, .un] Q := by
  rw [rng3m]
  refine RL_fold D.int (fun zs c => ∃ a b bs c7 c8 c9, c = [src true a b, .d (.tup [eN ns, .tup (ts.map eT)]), .d (.lst ((o :: os).map .str)), .d (.dk (mkd ps)), .d x4, .un, .o false (.l bs), c7, c8, c9] ∧ bs.length = zs.length ∧ ∀ y ∈ bs, treeD os.length y) [0, 1, 2] (fun zs v ys c e i => ?_) ⟨a, b, [], .un, .un, .un, rfl, rfl, by simp⟩ (fun c i => ?_)
  · obtain ⟨a, b, bs, c7, c8, c9, rfl, hb, hy⟩ := i
    have hz := congrArg List.length e
    simp at hz
    simp only [src]
    simp
    rw [dspk1]
    refine more_loop2 hn hl o v rfl fun c9 => ?_
    simp
    refine (cut1 _ _ _).mpr ?_
    refine R_callS (ih _ (mrg1_nd o v) (mrg1_len o v)) rfl rfl fun y a b hy2 => ?_
    obtain ⟨t, rfl, hd2, hm2⟩ := hy2
    simp only [List.set_cons_zero, src]
    simp
    refine ⟨by have := small_ok (n := bs.length + 1) (by omega); omega, ?_⟩
    refine ⟨a, b, _, ⟨⟨rfl, rfl⟩, rfl⟩, by simp [hb], fun y hm => ?_⟩
    rcases List.mem_append.mp hm with h | h
    · exact hy y h
    · rw [List.mem_singleton.mp h]; exact ⟨t, rfl, hd2, hm2⟩
  · obtain ⟨a, b, bs, c7, c8, c9, rfl, hb, hy⟩ := i
    obtain ⟨y1, y2, y3, rfl⟩ := three hb
    exact q a b y1 y2 y3 c7 c8 c9 (hy y1 (by simp)) (hy y2 (by simp)) (hy y3 (by simp))
theorem made_ok (A : Ad) {ns : List Str} {ts : List Tb} {q : Tb} (w : Wf ns ts q) (htl : ts.length < 900) : ∀ (m : Nat) (os : List Str) (ps : Ps), os.length < m → os.length < 20 → (∀ k ∈ os, SOk k) → Nd ps → ps.length + os.length < 800 →
    FvS (F__law_made A m) [eTh ns ts, .lst (os.map .str), .dk (mkd ps)] (treeP os.length)
  | 0, os, _, h, _, _, _, _ => absurd h (by omega)
  | m + 1, os, ps, hm, hm2, ho, hn, hl => by
    refine fvS_of fun a b => ?_
    unfold g__law_made
    show RS _ [src true a b, .d (.tup [eN ns, .tup (ts.map eT)]), .d (.lst (os.map .str)), .d (.dk (mkd ps)), .un, .un, .un, .un, .un, .un] _
    simp only [src]
    simp
    refine ⟨by omega, ?_⟩
    rw [rngD0]
    refine lc_enc (fun i : Nat => D.int (i : Int)) (fun i => !chb (look ps) (ts.getD i ([], []))) (fun i : Nat => D.int (i : Int)) (by simp [noOw]) (small_ok (by simp; omega)) (fun i hi => ?_) ?_
    · have hi := List.mem_range.mp hi
      have hm : ts.getD i ([], []) ∈ ts := by simp [List.getD, hi]
      have g : ∀ k, opK (atI (ts.map eT) (i : Int)) k ↔ k (eT (ts.getD i ([], []))) := fun k => ts_at (i := (i : Int)) (by omega) (by omega) k
      generalize ts.getD i ([], []) = t at g hm ⊢
      have ho := w.tok _ hm
      simp only [wipeC, List.set_cons_succ, List.set_cons_zero]
      simp [↓g]
      refine R_call (lcan_hold_ok A t (im_mkd ps) ho.1 ho.2.1) rfl ?_
      simp [lk_mkd, reC]
    · have hfl : ((List.range ts.length).filter fun i => !chb (look ps) (ts.getD i ([], []))).length < 900 := by
        have := List.length_filter_le (fun i => !chb (look ps) (ts.getD i ([], []))) (List.range ts.length)
        simp only [List.length_range] at this
        omega
      generalize ((List.range ts.length).filter fun i => !chb (look ps) (ts.getD i ([], []))) = F at hfl
      have rest : ∀ (o : Str) (os' : List Str) (a b : Int), os = o :: os' → RL (gN 7) (seqS (sR 8 (dspK (pairsC (DS.bi (getV 2) (kon (D.int 0)) oIx) (getV 7) pairsN)))
          (seqS (forS (seqI (getV 3)) (gN 9) (sSub 8 (DS.bi (getV 3) (getV 9) oIx) (getV 9)))
            (exS (mtV isL 6 (argCons (callF (F__law_made A m) (argCons (getV 0) (argCons (getV 1) (argCons (slV (getV 2) (soO (kon (D.int 1))) noO) (argCons (fzV2 8) argNil))))) argNil) opAppend))))
          (rngD 0 3) [.o true (.l [.int a, .int b]), .d (.tup [eN ns, .tup (ts.map eT)]), .d (.lst (os.map .str)), .d (.dk (mkd ps)), .d (.lst (F.map fun i : Nat => D.int (i : Int))), .un, .o false (.l []), .un, .un, .un]
          (aft (Ends2 3 (treeP os.length)) fun cs1 => RS (rtS (mkT (argCons (bi (getV 2) (kon (.int 0)) oIx) (argCons (bi (getV 6) (kon (.int 0)) oIx) (argCons (bi (getV 6) (kon (.int 1)) oIx) (argCons (bi (getV 6) (kon (.int 2)) oIx) argNil)))))) cs1 (Ends2 3 (treeP os.length))) := by
        rintro o os' a b rfl
        have ho1 := ho o (by simp)
        simp only [List.length_cons] at hm hl hm2
        refine made_loop hn (by omega) (fun ps' n1 n2 => made_ok A w htl m os' ps' (by omega) (by omega) (fun k hk => ho k (List.mem_cons_of_mem _ hk)) n1 (by omega)) (fun a b y1 y2 y3 c7 c8 c9 t1 t2 t3 => ?_)
        obtain ⟨t1, rfl, d1, m1⟩ := t1
        obtain ⟨t2, rfl, d2, m2⟩ := t2
        obtain ⟨t3, rfl, d3, m3⟩ := t3
        simp [aft]
        exact ⟨small_ok (by omega), a, b, _, rfl, by simp, _, rfl, .node o t1 t2 t3, rfl, by simp only [dp]; omega, ho1, m1, m2, m3⟩
      simp [asB_bl] at rest ⊢
      by_cases hF : F = []
      · subst hF
        simp at rest ⊢
        by_cases hO : os = []
        · subst hO
          simp
          exact ⟨a, b, _, rfl, by simp, _, rfl, .leaf (-1), rfl, by simp [dp], trivial⟩
        · simp [hO]
          cases os with
          | nil => exact absurd rfl hO
          | cons o os' => exact rest o os' a b rfl
      · have hp : 0 < F.length := by
          cases F with
          | nil => exact absurd rfl hF
          | cons => simp
        have fin : ∀ a b : Int, R (callR (F__law_draw A) [frz (Res.s 0), frz (Res.d (D.int (F.length : Int)))]) [.o true (.l [.int a, .int b]), .d (.tup [eN ns, .tup (ts.map eT)]), .d (.lst (os.map .str)), .d (.dk (mkd ps)), .d (.lst (F.map fun i : Nat => D.int (i : Int))), .un, .un, .un, .un, .un] fun q cs2 =>
            opK (view cs2 (frz q)) fun y => opK (oIx (D.lst (F.map fun i : Nat => D.int (i : Int))) y) fun z => Ends2 3 (treeP os.length) (Out.rt z cs2) := by
          intro a b
          refine R_callS (draw_ok A F.length (by omega) (by omega)) rfl rfl fun y a b hy => ?_
          obtain ⟨r, rfl, h0, h1⟩ := hy
          obtain ⟨x, hx, g⟩ := atM (fun i : Nat => D.int (i : Int)) h0 h1
          simp [↓g]
          exact ⟨a, b, _, rfl, by simp, _, rfl, .leaf x, rfl, by simp [dp], trivial⟩
        simp [hF, hp]
        by_cases hO : os = []
        · simp [hO] at fin ⊢
          exact fin a b
        · simp [hO]
          refine R_callS (draw_ok A 3 (by omega) (by omega)) rfl rfl fun y a b hy => ?_
          obtain ⟨r, rfl, h0, h1⟩ := hy
          simp only [List.set_cons_zero, src]
          simp [asB_bl]
          split
          · exact fin a b
          · skip
            cases os with
            | nil => exact absurd rfl hO
            | cons o os' => exact rest o os' a b rfl
end K21

set_option Elab.async false
set_option linter.all false
set_option maxRecDepth 100000
set_option maxHeartbeats 4000000
set_option autoImplicit false
namespace K21
open PySem PySem.Spec L2 DS
theorem is_int_i (A : Ad) (i : Int) : Fv (F__law_is_int A) [.int i] (.d (.bl true)) := by
  refine fv_of ?_
  unfold g__law_is_int
  show RS _ [Cell.d (.int i)] _
  simp [asB_bl, Ends1, outR]
theorem is_int_t (A : Ad) (xs : List D) : Fv (F__law_is_int A) [.tup xs] (.d (.bl false)) := by
  refine fv_of ?_
  unfold g__law_is_int
  show RS _ [Cell.d (.tup xs)] _
  simp [asB_bl, Ends1, outR]
theorem is_tree_ok (A : Ad) : ∀ (m : Nat) (t : Tr) (d : Nat), dp t < m → dp t ≤ d → d < 900 → Fv (F__law_is_tree A m) [eTr t, .int (d : Int)] (.d (.bl true))
  | 0, t, d, h, _, _ => absurd h (by omega)
  | m + 1, .leaf i, d, _, _, _ => by
    refine fv_of ?_
    unfold g__law_is_tree
    show RS _ [Cell.d (.int i), .d (.int (d : Int)), .un] _
    simp
    refine R_call (is_int_i A i) rfl ?_
    simp [Ends1, outR]
  | m + 1, .node s a b c, d, h, hd, hd9 => by
    simp only [dp] at h hd
    have ih := fun (t : Tr) (h1 : dp t < m) (h2 : dp t ≤ d - 1) => is_tree_ok A m t (d - 1) h1 h2 (by omega)
    refine fv_of ?_
    unfold g__law_is_tree
    show RS _ [Cell.d (.tup [.str s, eTr a, eTr b, eTr c]), .d (.int (d : Int)), .un] _
    simp
    refine R_call (is_int_t A _) rfl ?_
    have hd0 : ¬ d = 0 := by omega
    have ed : ((d : Int) - 1) = ((d - 1 : Nat) : Int) := by omega
    have e3 : rngD 1 3 = [.int 1, .int 2, .int 3] := rfl
    simp [asB_bl, hd0, e3]
    rw [RL_cons]
    simp
    rw [ed]
    refine R_call (ih a (by omega) (by omega)) rfl ?_
    simp
    rw [RL_cons]
    simp
    rw [ed]
    refine R_call (ih b (by omega) (by omega)) rfl ?_
    simp
    rw [RL_cons]
    simp
    rw [ed]
    refine R_call (ih c (by omega) (by omega)) rfl ?_
    simp
    rw [RL_nil]
    simp [aft, Ends1, outR]
end K21

set_option Elab.async false
set_option linter.all false
set_option maxRecDepth 100000
set_option maxHeartbeats 4000000
set_option autoImplicit false
namespace K21
open PySem PySem.Spec L2 DS
def v012 (ps : Ps) : Prop := ∀ p ∈ ps, p.2 = 0 ∨ p.2 = 1 ∨ p.2 = 2
theorem look_v {ps : Ps} (h : v012 ps) {n : Str} {v : Int} (e : look ps n = some v) : v = 0 ∨ v = 1 ∨ v = 2 := by
  induction ps with
  | nil => cases e
  | cons p ps ih =>
    rw [look_cons] at e
    split at e
    · cases e; exact h p List.mem_cons_self
    · exact ih (fun q hq => h q (List.mem_cons_of_mem _ hq)) e
/-- what breaks: a row that solves the theory and fails the question -/
def breaksR (ns : List Str) (ts : List Tb) (q : Tb) (r : List Int) : Prop := r ∈ allRows ns.length ∧ okRow ns ts r = true ∧ rowOf (look (ns.zip r)) q.1 ∉ q.2
theorem look_zip_row {δ : Asg} : ∀ {ns : List Str}, tot δ ns → ∀ n ∈ ns, look (ns.zip (rowOf δ ns)) n = δ n
  | [], _, _, h => by cases h
  | m :: ns, ht, n, h => by
    have e : (m :: ns).zip (rowOf δ (m :: ns)) = (m, (δ m).getD 0) :: ns.zip (rowOf δ ns) := rfl
    rw [e, look_cons]
    by_cases hm : m = n
    · subst hm
      rw [if_pos rfl]
      obtain ⟨x, hx⟩ := Option.isSome_iff_exists.mp (ht m List.mem_cons_self)
      rw [hx]
      rfl
    · rw [if_neg hm]
      rcases List.mem_cons.mp h with rfl | h
      · exact absurd rfl hm
      · exact look_zip_row (fun k hk => ht k (List.mem_cons_of_mem _ hk)) n h
theorem rowOf_congr {δ ε : Asg} {ns : List Str} (h : ∀ n ∈ ns, δ n = ε n) : rowOf δ ns = rowOf ε ns := by
  unfold rowOf
  exact List.map_congr_left fun n hn => by rw [h n hn]
structure Th (ns : List Str) (ts : List Tb) (q : Tb) : Prop where
  nok : ∀ n ∈ ns, SOk n
  nd : ns.Nodup
  nl : ns.length ≤ 5
  tok : ∀ t ∈ ts, tabOk ns t
  tl : ts.length < 900
  q : tabOk ns q
theorem tabOk.ok {ns : List Str} {t : Tb} (h : tabOk ns t) (hn : ∀ n ∈ ns, SOk n) (hl : ns.length ≤ 5) : okT t := by
  have := h.1.length_le
  have h2 := h.2.length_le
  have h3 := allRows_le (n := t.1.length) (by omega)
  exact ⟨fun r hr => (allRows_mem.mp (h.2.subset hr)).1, by omega, by omega, fun n hm => hn n (h.1.subset hm)⟩
theorem Th.wf {ns : List Str} {ts : List Tb} {q : Tb} (h : Th ns ts q) : Wf ns ts q where
  nok := h.nok
  nl := by have := h.nl; omega
  tok t ht := (h.tok t ht).ok h.nok h.nl
  tl := by have := h.tl; omega
  q := h.q.ok h.nok h.nl
/-- a total assignment with values: its row -/
theorem row_breaks {ns : List Str} {ts : List Tb} {q : Tb} (w : Th ns ts q) {ps : Ps} (hv : v012 ps) (ht : tot (look ps) ns) (h1 : ∀ t ∈ ts, chb (look ps) t = true) (h2 : rowOf (look ps) q.1 ∉ q.2) : breaksR ns ts q (rowOf (look ps) ns) := by
  have hz := look_zip_row ht
  refine ⟨allRows_mem.mpr ⟨by simp [rowOf], ?_⟩, ?_, ?_⟩
  · intro v hm
    obtain ⟨n, hn, rfl⟩ := List.mem_map.mp hm
    obtain ⟨x, hx⟩ := Option.isSome_iff_exists.mp (ht n hn)
    rw [hx]
    exact look_v hv hx
  · unfold okRow
    rw [List.all_eq_true]
    intro t htm
    have hs := w.tok t htm
    have ho := hs.ok w.nok w.nl
    have h3 := h1 t htm
    rw [chb_tot (fun n hn => ht n (hs.1.subset hn)) ho.1] at h3
    rw [rowOf_congr fun n hn => hz n (hs.1.subset hn)]
    exact h3
  · rw [rowOf_congr fun n hn => hz n (w.q.1.subset hn)]
    exact h2
/-- trees that show leave nothing that breaks -/
theorem shows_sound {ns : List Str} {ts : List Tb} {q : Tb} (w : Th ns ts q) {r : List Int} (hb : breaksR ns ts q r) : ∀ (t : Tr) (δ : Asg), (∀ n v, δ n = some v → look (ns.zip r) n = some v) → shows ns ts q t δ = false
  | .leaf i, δ, hδ => by
    have hl := (allRows_mem.mp hb.1).1
    unfold shows
    by_cases h : i = -1
    · rw [if_pos h]
      rw [Bool.and_eq_false_iff]
      by_cases ha : (q.1.all fun n => (δ n).isSome) = true
      · refine .inr ?_
        have ht := (all_isSome _ _).mpr ha
        have : rowOf δ q.1 = rowOf (look (ns.zip r)) q.1 := rowOf_congr fun n hn => by
          obtain ⟨x, hx⟩ := Option.isSome_iff_exists.mp (ht n hn)
          rw [hx, hδ n x hx]
        rw [this]
        simpa using hb.2.2
      · exact .inl (by simpa using ha)
    · rw [if_neg h]
      by_cases h2 : 0 ≤ i ∧ i < ts.length
      · rw [if_pos h2]
        have hm : ts.getD i.toNat ([], []) ∈ ts := by
          have hj : i.toNat < ts.length := by omega
          simp [List.getD, hj]
        generalize ts.getD i.toNat ([], []) = t at hm
        have hs := w.tok t hm
        have hr := hb.2.1
        unfold okRow at hr
        rw [List.all_eq_true] at hr
        have hr := hr t hm
        have hf := (hs.ok w.nok w.nl).1
        have hc : chb δ t = true := by
          unfold chb
          rw [List.any_eq_true]
          refine ⟨_, of_decide_eq_true hr, ?_⟩
          have hx := agr_row (look (ns.zip r)) t.1 (rowOf (look (ns.zip r)) t.1) (tot_zip hl fun n hn => hs.1.subset hn) (by simp [rowOf])
          rw [decide_eq_true rfl] at hx
          unfold agr at hx ⊢
          rw [List.all_eq_true] at hx ⊢
          intro p hp
          have := hx p hp
          cases e : δ p.1 with
          | none => simp
          | some v =>
            rw [hδ _ _ e] at this
            simpa using this
        rw [hc]
        rfl
      · rw [if_neg h2]
  | .node s a b c, δ, hδ => by
    have hl := (allRows_mem.mp hb.1).1
    unfold shows
    by_cases h : s ∉ ns ∨ (δ s).isSome = true
    · rw [if_pos h]
    · rw [if_neg h]
      have hs : s ∈ ns := Classical.byContradiction fun z => h (.inl z)
      obtain ⟨x, hx⟩ := Option.isSome_iff_exists.mp (look_zip_some hl hs)
      have hv : v012 (ns.zip r) := by
        intro p hp
        exact (allRows_mem.mp hb.1).2 _ (List.of_mem_zip hp).2
      have hu : ∀ v, x = v → ∀ n y, upd δ s v n = some y → look (ns.zip r) n = some y := by
        rintro v rfl n y e
        unfold upd at e
        split at e
        · cases e; rename_i e2; rw [e2]; exact hx
        · exact hδ n y e
      rcases look_v hv hx with rfl | rfl | rfl
      · rw [shows_sound w hb a _ (hu 0 rfl), Bool.false_and]
      · rw [shows_sound w hb b _ (hu 1 rfl), Bool.false_and, Bool.and_false]
      · rw [shows_sound w hb c _ (hu 2 rfl), Bool.and_false, Bool.and_false]
end K21

set_option Elab.async false
set_option linter.all false
set_option maxRecDepth 100000
set_option maxHeartbeats 4000000
set_option autoImplicit false
namespace K21
open PySem PySem.Spec L2 DS
def FvE (F : Fd) (xs : List D) (P : Res → Prop) : Prop := ∃ y, Fv F xs y ∧ P y
def EndsE (n : Nat) (P : Res → Prop) : Out → Prop
  | .rt r cs => n ≤ cs.length ∧ ∃ y, outR cs r = some y ∧ P y
  | .nx cs => n ≤ cs.length ∧ P (.d .non)
  | _ => False
theorem fvE_of {N : Nat} {g : S} {xs : List D} {P : Res → Prop} (h : RS g (xs.map .d ++ List.replicate (N - xs.length) .un) (EndsE xs.length P)) : FvE (bodyF N g) xs P := by
  obtain ⟨o, e, q⟩ := h
  cases o with
  | rt r cs =>
    obtain ⟨hl, y, hy, p⟩ := q
    exact ⟨y, fv_of ⟨_, e, hl, hy⟩, p⟩
  | nx cs => exact ⟨_, fv_of ⟨_, e, q.1, rfl⟩, q.2⟩
  | bk cs => exact False.elim q
  | ct cs => exact False.elim q
def eO : Option Tr → D
  | none => .non
  | some t => eTr t
def treeOfP (ns : List Str) (ts : List Tb) (q : Tb) (ps : Ps) : Res → Prop := fun y => ∃ o : Option Tr, y = .d (eO o) ∧ (∀ t, o = some t → shows ns ts q t (look ps) = true ∧ dp t + ps.length ≤ ns.length ∧ marksOk t) ∧ (o = none → ∃ r, breaksR ns ts q r)
theorem isN_tr (t : Tr) (q : Res → Prop) : opK (oIsN (eTr t) .non) q ↔ q (.d (.bl false)) := by
  cases t <;> exact opK_some _ _
theorem tree_of_ok (A : Ad) {ns : List Str} {ts : List Tb} {q : Tb} (w : Th ns ts q) : ∀ (m : Nat) (ps : Ps), ns.length < ps.length + m → Nd ps → (∀ n ∈ ps.map (·.1), n ∈ ns) → v012 ps →
    FvE (F_Rows_tree_of A m) [.obj A.C_Rows, eTh ns ts, eT q, .dk (mkd ps)] (treeOfP ns ts q ps)
  | 0, ps, h, hn, hk, _ => by
    have := nodup_le hn hk
    rw [List.length_map] at this
    omega
  | m + 1, ps, h, hn', hk, hv => by
    have hn := hn'
    have hpl : ps.length ≤ ns.length := by
      have := nodup_le hn hk
      rw [List.length_map] at this
      omega
    have nl := w.nl
    have tl := w.tl
    refine fvE_of ?_
    unfold g_Rows_tree_of
    show RS _ [Cell.d (.obj A.C_Rows), .d (.tup [.tup (ns.map .str), .tup (ts.map eT)]), .d (.tup [.tup (q.1.map .str), eRs q.2]), .d (.dk (mkd ps)), .un, .un, .un, .un, .un, .un, .un] _
    simp
    refine ⟨by omega, ?_⟩
    rw [rngD0]
    refine RL_find (fun i : Nat => D.int (i : Int)) (fun i => !chb (look ps) (ts.getD i ([], []))) (fun c => ∃ c6, c = [Cell.d (.obj A.C_Rows), .d (.tup [.tup (ns.map .str), .tup (ts.map eT)]), .d (.tup [.tup (q.1.map .str), eRs q.2]), .d (.dk (mkd ps)), .d (.tup (ns.map .str)), .d (.tup (ts.map eT)), c6, .un, .un, .un, .un]) _ _ (fun i hi hp c hc => ?_) (fun i hi hp c hc => ?_) ⟨_, rfl⟩ (fun hall c hc => ?_)
    · obtain ⟨c6, rfl⟩ := hc
      have hi := List.mem_range.mp hi
      have g : ∀ k, opK (atI (ts.map eT) (i : Int)) k ↔ k (eT (ts.getD i ([], []))) := fun k => ts_at (i := (i : Int)) (by omega) (by omega) k
      generalize ts.getD i ([], []) = t at g hp
      simp at hp
      simp [↓g]
      refine R_call (can_hold_ok A t (im_mkd ps)) rfl ?_
      simp [lk_mkd, hp]
    · obtain ⟨c6, rfl⟩ := hc
      have hi := List.mem_range.mp hi
      have g : ∀ k, opK (atI (ts.map eT) (i : Int)) k ↔ k (eT (ts.getD i ([], []))) := fun k => ts_at (i := (i : Int)) (by omega) (by omega) k
      have fin : shows ns ts q (.leaf (i : Int)) (look ps) = !chb (look ps) (ts.getD i ([], [])) := by
        unfold shows
        rw [if_neg (by omega), if_pos ⟨by omega, by omega⟩]
        rfl
      rw [hp] at fin
      generalize ts.getD i ([], []) = t at g hp
      simp at hp
      simp [↓g]
      refine R_call (can_hold_ok A t (im_mkd ps)) rfl ?_
      simp [lk_mkd, hp, aft]
      refine ⟨by simp, _, rfl, some (.leaf i), rfl, fun t e => ?_, fun e => (nomatch e)⟩
      cases e
      exact ⟨fin, by simp [dp]; omega, trivial⟩
    · obtain ⟨c6, rfl⟩ := hc
      have hall' : ∀ t ∈ ts, chb (look ps) t = true := by
        intro t ht
        obtain ⟨i, hi, e⟩ := List.getElem_of_mem ht
        have := hall i (List.mem_range.mpr hi)
        simpa [List.getD, hi, e] using this
      simp [aft]
      refine lc_enc D.str (fun _ => true) (fun n => D.bl (look ps n).isSome) (by simp [noOw]) (small_ok w.wf.q.2.1) (fun n hn => ?_) ?_
      · simp only [wipeC, List.set_cons_succ, List.set_cons_zero]
        simp [reC, mkd_get]
      · have rest : (¬ (tot (look ps) q.1 ∧ rowOf (look ps) q.1 ∈ q.2)) → RL (gN 7) (ifS (tsb (bi (getV 7) (getV 3) oNotIn))
            (seqS (sR 8 (mkL (argCons (getV 7) argNil)))
            (seqS (forS (seqI (kon c_VALUES)) (gN 9)
            (seqS (sF 10 (methF A.C_Rows (F_Rows_tree_of A m) (getV 0) (argCons (getV 1) (argCons (getV 2) (argCons (starP (getV 3) (getV 7) (getV 9)) argNil)))))
            (seqS (ifS (tsb (bi (getV 10) (kon .non) oIsN))
            (rtS (kon .non))
            nxt)
            (exS (mtV isL 8 (argCons (getV 10) argNil) opAppend)))))
            (rtS (fn (argCons (getV 8) argNil) oTuple))))
            nxt) (ns.map .str) [Cell.d (.obj A.C_Rows), .d (.tup [.tup (ns.map .str), .tup (ts.map eT)]), .d (.tup [.tup (q.1.map .str), eRs q.2]), .d (.dk (mkd ps)), .d (.tup (ns.map .str)), .d (.tup (ts.map eT)), c6, .un, .un, .un, .un]
            (aft (EndsE 4 (treeOfP ns ts q ps)) fun cs1 => EndsE 4 (treeOfP ns ts q ps) (.rt (.d .non) cs1)) := by
          intro hq
          refine RL_find D.str (fun n => !(look ps n).isSome) (fun c => ∃ c7, c = [Cell.d (.obj A.C_Rows), .d (.tup [.tup (ns.map .str), .tup (ts.map eT)]), .d (.tup [.tup (q.1.map .str), eRs q.2]), .d (.dk (mkd ps)), .d (.tup (ns.map .str)), .d (.tup (ts.map eT)), c6, c7, .un, .un, .un]) _ _ (fun n hn hp c hc => ?_) (fun n hn hp c hc => ?_) ⟨_, rfl⟩ (fun hall c hc => ?_)
          · obtain ⟨c7, rfl⟩ := hc
            simp at hp
            simp [mkd_get, asB_bl, hp]
          · obtain ⟨c7, rfl⟩ := hc
            simp at hp
            have hm0 : n ∉ ps.map (·.1) := look_none.mp hp
            have ih : ∀ v : Int, v = 0 ∨ v = 1 ∨ v = 2 → FvE (F_Rows_tree_of A m) [.obj A.C_Rows, eTh ns ts, eT q, .dk (mkd (put ps n v))] (treeOfP ns ts q (put ps n v)) := by
              intro v hv3
              have ep := put_new hp v
              refine tree_of_ok A w m (put ps n v) ?_ (put_nd hn' n v) ?_ ?_
              · rw [ep, List.length_append]
                simp
                omega
              · rw [ep, List.map_append]
                intro k hk2
                rcases List.mem_append.mp hk2 with h | h
                · exact hk k h
                · rw [List.mem_singleton.mp h]; exact hn
              · rw [ep]
                intro p hp2
                rcases List.mem_append.mp hp2 with h | h
                · exact hv p h
                · rw [List.mem_singleton.mp h]; exact hv3
            have el : ∀ v : Int, (put ps n v).length = ps.length + 1 := fun v => by rw [put_new hp]; simp
            have z1 : ps.length + 1 ≤ sizeLine := small_ok (by omega)
            have z2 : 1 ≤ sizeLine := small_ok (by omega)
            have z3 : 1 < sizeLine := by have := small_ok (n := 10) (by omega); omega
            have z4 : 2 < sizeLine := by have := small_ok (n := 10) (by omega); omega
            have z5 : 3 < sizeLine := by have := small_ok (n := 10) (by omega); omega
            obtain ⟨_, f0, o0, rfl, s0, b0⟩ := ih 0 (by simp)
            obtain ⟨_, f1, o1, rfl, s1, b1⟩ := ih 1 (by simp)
            obtain ⟨_, f2, o2, rfl, s2, b2⟩ := ih 2 (by simp)
            have bad : (∃ r, breaksR ns ts q r) → ∀ c : Cs, 4 ≤ c.length → EndsE 4 (treeOfP ns ts q ps) (.rt (.d .non) c) := fun hb c hc =>
              ⟨hc, _, rfl, none, rfl, fun t e => (nomatch e), fun _ => hb⟩
            simp [mkd_get, asB_bl, hp, c_VALUES]
            refine ⟨z2, ?_⟩
            rw [RL_cons]
            simp
            refine ⟨rfl, by rw [star_len hn']; exact z1, ?_⟩
            rw [star_eq hn']
            refine R_call f0 rfl ?_
            cases o0 with
            | none =>
              simp [eO, aft]
              exact bad (b0 rfl) _ (by simp)
            | some t0 =>
              simp [eO]
              refine (isN_tr _ _).mpr ?_
              simp [z3]
              rw [RL_cons]
              simp
              refine ⟨rfl, by rw [star_len hn']; exact z1, ?_⟩
              rw [star_eq hn']
              refine R_call f1 rfl ?_
              cases o1 with
              | none =>
                simp [eO, aft]
                exact bad (b1 rfl) _ (by simp)
              | some t1 =>
                simp [eO]
                refine (isN_tr _ _).mpr ?_
                simp [z4]
                rw [RL_cons]
                simp
                refine ⟨rfl, by rw [star_len hn']; exact z1, ?_⟩
                rw [star_eq hn']
                refine R_call f2 rfl ?_
                cases o2 with
                | none =>
                  simp [eO, aft]
                  exact bad (b2 rfl) _ (by simp)
                | some t2 =>
                  simp [eO]
                  refine (isN_tr _ _).mpr ?_
                  simp [z5]
                  rw [RL_nil]
                  simp [aft]
                  obtain ⟨q0, d0, m0⟩ := s0 _ rfl
                  obtain ⟨q1, d1, m1⟩ := s1 _ rfl
                  obtain ⟨q2, d2, m2⟩ := s2 _ rfl
                  refine ⟨by simp, _, rfl, some (.node n t0 t1 t2), rfl, fun t e => ?_, fun e => (nomatch e)⟩
                  cases e
                  refine ⟨?_, ?_, w.nok n hn, m0, m1, m2⟩
                  · rw [look_upd] at q0 q1 q2
                    unfold shows
                    rw [if_neg (by rw [hp]; simpa using hn), q0, q1, q2]
                    rfl
                  · rw [el] at d0 d1 d2
                    simp only [dp]
                    omega
          · obtain ⟨c7, rfl⟩ := hc
            simp at hall
            have ht : tot (look ps) ns := fun n hn => hall n hn
            refine ⟨by simp, _, rfl, none, rfl, fun t e => (nomatch e), fun _ => ⟨_, row_breaks w hv ht hall' fun h2 => hq ⟨fun n hn => ht n (w.q.1.subset hn), h2⟩⟩⟩
        simp
        refine (pAll_c _ _ _).mpr ?_
        simp [asB_bl]
        by_cases ht : tot (look ps) q.1
        · have ha := (all_isSome _ _).mp ht
          rw [if_pos (by simpa using ha)]
          refine ⟨rfl, ?_⟩
          refine R_call (holds_ok A A.C_Rows q (im_mkd ps) (by rw [lk_mkd]; exact ht) (small_ok w.wf.q.2.1)) rfl ?_
          rw [lk_mkd]
          by_cases hr : rowOf (look ps) q.1 ∈ q.2
          · simp [hr]
            refine ⟨by simp, _, rfl, some (.leaf (-1)), rfl, fun t e => ?_, fun e => (nomatch e)⟩
            cases e
            refine ⟨?_, by simp [dp]; omega, trivial⟩
            unfold shows
            rw [if_pos rfl, ha, decide_eq_true hr]
            rfl
          · simp [hr]
            exact rest fun z => hr z.2
        · have ha : ¬ (q.1.all fun n => (look ps n).isSome) = true := fun z => ht ((all_isSome _ _).mpr z)
          rw [if_neg (by simpa using ha)]
          exact rest fun z => ht z.1
end K21

set_option Elab.async false
set_option linter.all false
set_option maxRecDepth 100000
set_option maxHeartbeats 4000000
set_option autoImplicit false
namespace K21
open PySem PySem.Spec L2 DS
open PySem.W (dataLe)
def kd (ks : List Str) : List (Key × D) := ks.map fun k => (.inr k, .bl true)
def ins (ks : List Str) (s : Str) : List Str := if s ∈ ks then ks else ks ++ [s]
theorem kd_put (ks : List Str) (s : Str) : dPut (kd ks) (.inr s) (.bl true) = kd (ins ks s) := by
  have ha : ((kd ks).any fun kv => decide (kv.1 = .inr s)) = decide (s ∈ ks) := by
    unfold kd
    rw [List.any_map]
    induction ks with
    | nil => simp
    | cons k ks ih =>
      rw [List.any_cons, ih]
      simp only [Function.comp, inr_dec, List.mem_cons]
      by_cases h : k = s
      · simp [h]
      · have : ¬ s = k := fun e => h e.symm
        simp [h, this]
  unfold dPut ins
  rw [ha]
  by_cases h : s ∈ ks
  · simp only [h, decide_true, if_true]
    unfold kd
    rw [List.map_map]
    apply List.map_congr_left
    intro k _
    dsimp only [Function.comp]
    split <;> rfl
  · simp [h, kd]
theorem kd_keys (ks : List Str) : (kd ks).map (fun kv => keyD kv.1) = ks.map .str := by
  unfold kd
  rw [List.map_map]
  rfl
theorem kd_len (ks : List Str) : (kd ks).length = ks.length := List.length_map _
theorem ins_nd {ks : List Str} (h : ks.Nodup) (s : Str) : (ins ks s).Nodup := by
  unfold ins
  split
  · exact h
  · rename_i hs
    refine List.nodup_append.mpr ⟨h, by simp, ?_⟩
    intro a ha b hb e
    rw [List.mem_singleton] at hb
    subst hb
    subst e
    exact hs ha
theorem ins_mem (ks : List Str) (s n : Str) : n ∈ ins ks s ↔ n ∈ ks ∨ n = s := by
  unfold ins
  split
  · rename_i hs
    constructor
    · exact .inl
    · rintro (h | rfl)
      · exact h
      · exact hs
  · simp
def insAll (ks ns : List Str) : List Str := ns.foldl ins ks
theorem insAll_nd : ∀ (ns ks : List Str), ks.Nodup → (insAll ks ns).Nodup
  | [], _, h => h
  | n :: ns, ks, h => insAll_nd ns _ (ins_nd h n)
theorem insAll_mem : ∀ (ns ks : List Str) (n : Str), n ∈ insAll ks ns ↔ n ∈ ks ∨ n ∈ ns
  | [], ks, n => by simp [insAll]
  | m :: ns, ks, n => by
    have := insAll_mem ns (ins ks m) n
    rw [ins_mem] at this
    show n ∈ insAll (ins ks m) ns ↔ _
    rw [this, List.mem_cons, or_assoc]
theorem ins_len (ks : List Str) (s : Str) : (ins ks s).length ≤ ks.length + 1 := by
  unfold ins
  split <;> simp
theorem insAll_len : ∀ (ns ks : List Str), (insAll ks ns).length ≤ ks.length + ns.length
  | [], ks => by simp [insAll]
  | n :: ns, ks => by
    have h1 := insAll_len ns (ins ks n)
    have h2 := ins_len ks n
    show (insAll (ins ks n) ns).length ≤ _
    rw [List.length_cons]
    omega
/-! the order of names -/
def leS (a b : Str) : Bool := decide (a.cps.toList ≤ b.cps.toList)
def ltS (a b : Str) : Prop := a.cps.toList < b.cps.toList
noncomputable def srt (ns : List Str) : List Str := ns.mergeSort leS
theorem str_ext {a b : Str} (h : a.cps.toList = b.cps.toList) : a = b := by
  cases a; cases b
  simp only [Str.mk.injEq]
  exact Array.toList_inj.mp h
theorem le_ne {a b : Str} (h : leS a b = true) (n : a ≠ b) : ltS a b := by
  have h := of_decide_eq_true h
  exact Classical.byContradiction fun z => n (str_ext (List.le_antisymm h (List.not_lt.mp z)))
theorem srt_perm (ns : List Str) : (srt ns).Perm ns := List.mergeSort_perm _ _
theorem srt_lt {ns : List Str} (h : ns.Nodup) : (srt ns).Pairwise ltS := by
  have tr : ∀ a b c : Str, leS a b = true → leS b c = true → leS a c = true := fun a b c h1 h2 => decide_eq_true (List.le_trans (of_decide_eq_true h1) (of_decide_eq_true h2))
  have to : ∀ a b : Str, (leS a b || leS b a) = true := fun a b => by rcases List.le_total a.cps.toList b.cps.toList with h | h <;> simp [leS, h]
  have h1 : (srt ns).Pairwise fun a b => leS a b = true := List.pairwise_mergeSort tr to ns
  have h2 : (srt ns).Pairwise (· ≠ ·) := (srt_perm ns).nodup_iff.mpr h
  exact (h1.and h2).imp fun h => le_ne h.1 h.2
theorem sorted_ext : ∀ {xs ys : List Str}, xs.Pairwise ltS → ys.Pairwise ltS → (∀ a, a ∈ xs ↔ a ∈ ys) → xs = ys
  | [], [], _, _, _ => rfl
  | [], y :: ys, _, _, h => absurd ((h y).mpr List.mem_cons_self) (by simp)
  | x :: xs, [], _, _, h => absurd ((h x).mp List.mem_cons_self) (by simp)
  | x :: xs, y :: ys, hx, hy, h => by
    have px := List.pairwise_cons.mp hx
    have py := List.pairwise_cons.mp hy
    have irr : ∀ a : Str, ¬ ltS a a := fun a => List.lt_irrefl _
    have e : x = y := by
      refine Classical.byContradiction fun ne => ?_
      have h1 : x ∈ ys := by
        rcases List.mem_cons.mp ((h x).mp List.mem_cons_self) with z | z
        · exact absurd z ne
        · exact z
      have h2 : y ∈ xs := by
        rcases List.mem_cons.mp ((h y).mpr List.mem_cons_self) with z | z
        · exact absurd z.symm ne
        · exact z
      exact irr x (List.lt_trans (px.1 y h2) (py.1 x h1))
    subst e
    rw [sorted_ext px.2 py.2 fun a => ?_]
    constructor
    · intro ha
      rcases List.mem_cons.mp ((h a).mp (List.mem_cons_of_mem _ ha)) with z | z
      · subst z; exact absurd (px.1 a ha) (irr a)
      · exact z
    · intro ha
      rcases List.mem_cons.mp ((h a).mpr (List.mem_cons_of_mem _ ha)) with z | z
      · subst z; exact absurd (py.1 a ha) (irr a)
      · exact z
theorem srt_small {ns : List Str} (h : ns.length < 2) : srt ns = ns := by
  match ns, h with
  | [], _ => simp [srt]
  | [x], _ => simp [srt]
theorem pd_s (s : Str) : pd (.str s) = .str s := rfl
theorem srtD_strs (ns : List Str) : srtD (ns.map .str) = (srt ns).map .str := by
  unfold srtD srt
  rw [List.map_mergeSort]
  intro a _ b _
  have h1 := congrFun (congrFun (PySem.W.dataLe_str fun s : Str => s) a) b
  show decide _ = _
  rw [← h1]
  rfl
theorem srtOk_strs (ns : List Str) : srtOk (ns.map .str) = true := by
  unfold srtOk
  simp only [Bool.and_eq_true, List.all_eq_true, Bool.or_eq_true]
  refine ⟨⟨?_, ?_⟩, .inr ?_⟩
  · intro x hx
    obtain ⟨n, _, rfl⟩ := List.mem_map.mp hx
    simp [pyD, pd_s, PyData.depth]
  · intro x hx y hy
    obtain ⟨n, _, rfl⟩ := List.mem_map.mp hx
    obtain ⟨m, _, rfl⟩ := List.mem_map.mp hy
    simp [pd_s, PySem.W.alike]
  · intro x hx
    obtain ⟨n, _, rfl⟩ := List.mem_map.mp hx
    rfl
theorem pSorted_strs (ns : List Str) (k : Res → Prop) : opK (oSorted [.lst (ns.map .str)]) k ↔ k (.o (.l ((srt ns).map .str))) := by
  have e : oSorted [.lst (ns.map .str)] = some (.o (.l ((srt ns).map .str))) := by
    show oSortL _ = _
    unfold oSortL
    by_cases h : ns.length < 2
    · rw [if_pos (by simpa using h), srt_small h]
    · rw [if_neg (by simpa using h), if_pos (srtOk_strs ns), srtD_strs]
  rw [e]
  exact opK_some _ _
noncomputable def mergeN (a b : List Str) : List Str := srt (insAll (insAll [] a) b)
theorem mergeN_lt (a b : List Str) : (mergeN a b).Pairwise ltS := srt_lt (insAll_nd _ _ (insAll_nd _ _ List.nodup_nil))
theorem mergeN_mem (a b : List Str) (n : Str) : n ∈ mergeN a b ↔ n ∈ a ∨ n ∈ b := by
  unfold mergeN
  rw [(srt_perm _).mem_iff, insAll_mem, insAll_mem]
  simp
theorem mergeN_nd (a b : List Str) : (mergeN a b).Nodup := (srt_perm _).nodup_iff.mpr (insAll_nd _ _ (insAll_nd _ _ List.nodup_nil))
theorem ins_loop {a : D} {c2 c3 : Cell} {Q : Out → Prop} (ns ks : List Str) (hl : ks.length + ns.length < 900) (q : ∀ d, Q (.nx [.d a, .o false (.k (kd (insAll ks ns))), c2, d])) :
    RL (gN 3) (sSub 1 (kon (.bl true)) (getV 3)) (ns.map .str) [.d a, .o false (.k (kd ks)), c2, c3] Q := by
  refine RL_fold D.str (fun zs c => ∃ c3, c = [.d a, .o false (.k (kd (insAll ks zs))), c2, c3]) ns (fun zs x ys c e i => ?_) ⟨_, rfl⟩ (fun c i => ?_)
  · obtain ⟨c3, rfl⟩ := i
    have hz : (insAll ks zs).length < sizeLine := by
      have h1 := insAll_len zs ks
      have h2 := congrArg List.length e
      simp at h2
      have h3 := small_ok (n := ks.length + ns.length + 1) (by omega)
      omega
    simp [kd_len, hz]
    rw [kd_put]
    unfold insAll
    rw [List.foldl_append]
    simp [turn]
  · obtain ⟨c3, rfl⟩ := i
    exact q c3
theorem merge_ok (A : Ad) (a b : List Str) (hl : a.length + b.length < 900) : Fv (F_merge_names A) [.tup [eN a, eN b]] (.d (eN (mergeN a b))) := by
  refine fv_of ?_
  unfold g_merge_names
  show RS _ [Cell.d (.tup [.tup (a.map .str), .tup (b.map .str)]), .un, .un, .un] _
  simp
  rw [RL_cons]
  simp
  refine ins_loop a [] (by simp; omega) fun d => ?_
  simp
  rw [RL_cons]
  simp
  have h1 := insAll_len a []
  simp at h1
  refine ins_loop b _ (by omega) fun d => ?_
  simp
  rw [RL_nil]
  simp [aft]
  rw [kd_keys]
  refine (pSorted_strs _ _).mpr ?_
  simp
  exact ⟨by simp, rfl⟩
end K21

set_option Elab.async false
set_option linter.all false
set_option maxRecDepth 100000
set_option maxHeartbeats 4000000
set_option autoImplicit false
namespace K21
open PySem PySem.Spec L2 DS
def agz (a b : List Str) (r o : List Int) : Bool := agr (look (a.zip r)) (b.zip o)
def vals (a b : List Str) (r o : List Int) : Asg := look (mrg (b.zip o) (a.zip r))
noncomputable def turnR (a b : Tb) (r : List Int) : List (List Int) := (b.2.filter (agz a.1 b.1 r)).map fun o => rowOf (vals a.1 b.1 r o) (mergeN a.1 b.1)
noncomputable def preR (a b : Tb) : List (List Int) := a.2.flatMap (turnR a b)
/-- a table in order -/
structure JT (t : Tb) : Prop where
  lt : t.1.Pairwise ltS
  nd : t.2.Nodup
  mem : ∀ r ∈ t.2, r ∈ allRows t.1.length
theorem lt_nd {ns : List Str} (h : ns.Pairwise ltS) : ns.Nodup := h.imp fun {a b} h e => by
  subst e
  exact List.lt_irrefl _ h
theorem JT.nn {t : Tb} (h : JT t) : t.1.Nodup := lt_nd h.lt
theorem JT.len {t : Tb} (h : JT t) {r : List Int} (hr : r ∈ t.2) : r.length = t.1.length := (allRows_mem.mp (h.mem r hr)).1
theorem vals_look {a b : List Str} {r o : List Int} (ha : a.Nodup) (hr : r.length = a.length) (n : Str) : vals a b r o n = (look (a.zip r) n).or (look (b.zip o) n) := look_mrg _ _ _ (zip_nd hr ha)
theorem rowOf_look {ns : List Str} (hn : ns.Nodup) : ∀ {r : List Int}, r.length = ns.length → rowOf (look (ns.zip r)) ns = r := by
  induction ns with
  | nil => intro r h; cases r with
    | nil => rfl
    | cons => cases h
  | cons n ns ih =>
    intro r h
    cases r with
    | nil => cases h
    | cons v r =>
      have h2 := List.nodup_cons.mp hn
      show ((look ((n, v) :: ns.zip r) n).getD 0) :: rowOf (look ((n, v) :: ns.zip r)) ns = v :: r
      rw [look_cons, if_pos rfl]
      have : rowOf (look ((n, v) :: ns.zip r)) ns = rowOf (look (ns.zip r)) ns := rowOf_congr fun m hm => by
        rw [look_cons, if_neg]
        intro e
        exact h2.1 (by rw [show n = m from e]; exact hm)
      rw [this, ih h2.2 (by simpa using h)]
      rfl
/-- rows that are the same at every place -/
theorem row_eq {δ : Asg} {ns : List Str} {r : List Int} (hn : ns.Nodup) (hr : r.length = ns.length) (h : ∀ n ∈ ns, δ n = look (ns.zip r) n) : rowOf δ ns = r := by
  rw [rowOf_congr h, rowOf_look hn hr]
theorem row_inj {δ ε : Asg} {ns : List Str} (hd : tot δ ns) (he : tot ε ns) (h : rowOf δ ns = rowOf ε ns) : ∀ n ∈ ns, δ n = ε n := by
  intro n hn
  have := List.map_inj_left.mp h n hn
  obtain ⟨x, hx⟩ := Option.isSome_iff_exists.mp (hd n hn)
  obtain ⟨y, hy⟩ := Option.isSome_iff_exists.mp (he n hn)
  rw [hx, hy] at this ⊢
  simpa using this
theorem agz_iff {a b : List Str} {r o : List Int} (hb : b.Nodup) (ho : o.length = b.length) : agz a b r o = true ↔ ∀ n ∈ b, ∀ v, look (a.zip r) n = some v → look (b.zip o) n = some v := by
  unfold agz agr
  rw [List.all_eq_true]
  constructor
  · intro h n hn v hv
    obtain ⟨x, hx⟩ := Option.isSome_iff_exists.mp (look_zip_some ho hn)
    have hm : ∃ p ∈ b.zip o, p.1 = n ∧ p.2 = x := by
      unfold look at hx
      obtain ⟨p, hp, rfl⟩ := Option.map_eq_some_iff.mp hx
      exact ⟨p, List.mem_of_find?_eq_some hp, by simpa using List.find?_some hp, rfl⟩
    obtain ⟨p, hp, rfl, rfl⟩ := hm
    have := h p hp
    rw [hv] at this
    simp at this
    rw [hx, this]
  · intro h p hp
    have hx := look_mem (zip_nd ho hb) hp
    cases e : look (a.zip r) p.1 with
    | none => simp
    | some v =>
      have := h p.1 (List.of_mem_zip hp).1 v e
      rw [hx] at this
      cases this
      simp
theorem vals_tot {a b : List Str} {r o : List Int} (ha : a.Nodup) (hr : r.length = a.length) (ho : o.length = b.length) : tot (vals a b r o) (mergeN a b) := by
  intro n hn
  rw [vals_look ha hr]
  rcases (mergeN_mem a b n).mp hn with h | h
  · obtain ⟨x, hx⟩ := Option.isSome_iff_exists.mp (look_zip_some hr h)
    rw [hx]
    rfl
  · have := look_zip_some ho h
    cases look (a.zip r) n with
    | none => simpa using this
    | some v => rfl
/-- the values of a join, on either side -/
theorem vals_a {a b : List Str} {r o : List Int} (ha : a.Nodup) (hr : r.length = a.length) {n : Str} (hn : n ∈ a) : vals a b r o n = look (a.zip r) n := by
  rw [vals_look ha hr]
  obtain ⟨x, hx⟩ := Option.isSome_iff_exists.mp (look_zip_some hr hn)
  rw [hx]
  rfl
theorem vals_b {a b : List Str} {r o : List Int} (ha : a.Nodup) (hr : r.length = a.length) (hb : b.Nodup) (ho : o.length = b.length) (hg : agz a b r o = true) {n : Str} (hn : n ∈ b) : vals a b r o n = look (b.zip o) n := by
  rw [vals_look ha hr]
  cases e : look (a.zip r) n with
  | none => rfl
  | some v => rw [(agz_iff hb ho).mp hg n hn v e]; rfl
theorem pre_mem {a b : Tb} (ha : JT a) (hb : JT b) {δ : Asg} (hd : tot δ (mergeN a.1 b.1)) : rowOf δ (mergeN a.1 b.1) ∈ preR a b ↔ rowOf δ a.1 ∈ a.2 ∧ rowOf δ b.1 ∈ b.2 := by
  unfold preR turnR
  rw [List.mem_flatMap]
  constructor
  · rintro ⟨r, hr, h⟩
    obtain ⟨o, ho, e⟩ := List.mem_map.mp h
    obtain ⟨ho, hg⟩ := List.mem_filter.mp ho
    have lr := ha.len hr
    have lo := hb.len ho
    have hv := row_inj (vals_tot ha.nn lr lo) hd e
    have h1 : rowOf δ a.1 = r := row_eq ha.nn lr fun n hn => by rw [← hv n ((mergeN_mem _ _ _).mpr (.inl hn)), vals_a ha.nn lr hn]
    have h2 : rowOf δ b.1 = o := row_eq hb.nn lo fun n hn => by rw [← hv n ((mergeN_mem _ _ _).mpr (.inr hn)), vals_b ha.nn lr hb.nn lo hg hn]
    rw [h1, h2]
    exact ⟨hr, ho⟩
  · rintro ⟨h1, h2⟩
    have lr := ha.len h1
    have lo := hb.len h2
    have da : ∀ n ∈ a.1, look (a.1.zip (rowOf δ a.1)) n = δ n := look_zip_row fun n hn => hd n ((mergeN_mem _ _ _).mpr (.inl hn))
    have db : ∀ n ∈ b.1, look (b.1.zip (rowOf δ b.1)) n = δ n := look_zip_row fun n hn => hd n ((mergeN_mem _ _ _).mpr (.inr hn))
    have hg : agz a.1 b.1 (rowOf δ a.1) (rowOf δ b.1) = true := (agz_iff hb.nn lo).mpr fun n hn v e => by
      rw [db n hn]
      by_cases hna : n ∈ a.1
      · rw [← da n hna]; exact e
      · rw [look_none.mpr (by rw [zip_keys lr]; exact hna)] at e; cases e
    refine ⟨_, h1, List.mem_map.mpr ⟨_, List.mem_filter.mpr ⟨h2, hg⟩, rowOf_congr fun n hn => ?_⟩⟩
    rcases (mergeN_mem _ _ _).mp hn with h | h
    · rw [vals_a ha.nn lr h, da n h]
    · rw [vals_b ha.nn lr hb.nn lo hg h, db n h]
theorem pre_rows {a b : Tb} (ha : JT a) (hb : JT b) : ∀ r ∈ preR a b, r ∈ allRows (mergeN a.1 b.1).length := by
  intro x hx
  unfold preR turnR at hx
  obtain ⟨r, hr, h⟩ := List.mem_flatMap.mp hx
  obtain ⟨o, ho, rfl⟩ := List.mem_map.mp h
  obtain ⟨ho, hg⟩ := List.mem_filter.mp ho
  have lr := ha.len hr
  have lo := hb.len ho
  refine allRows_mem.mpr ⟨by simp [rowOf], ?_⟩
  intro v hv
  obtain ⟨n, hn, rfl⟩ := List.mem_map.mp hv
  obtain ⟨x, hx⟩ := Option.isSome_iff_exists.mp (vals_tot ha.nn lr lo n hn)
  rw [hx]
  have v1 : v012 (a.1.zip r) := fun p hp => (allRows_mem.mp (ha.mem r hr)).2 _ (List.of_mem_zip hp).2
  have v2 : v012 (b.1.zip o) := fun p hp => (allRows_mem.mp (hb.mem o ho)).2 _ (List.of_mem_zip hp).2
  rw [vals_look ha.nn lr] at hx
  cases e : look (a.1.zip r) n with
  | none => rw [e] at hx; exact look_v v2 hx
  | some y => rw [e] at hx; cases hx; exact look_v v1 e
theorem pre_nd {a b : Tb} (ha : JT a) (hb : JT b) : (preR a b).Nodup := by
  unfold preR
  rw [List.nodup_iff_pairwise_ne, List.pairwise_flatMap]
  have back : ∀ r ∈ a.2, ∀ o ∈ b.2, agz a.1 b.1 r o = true → rowOf (vals a.1 b.1 r o) a.1 = r ∧ rowOf (vals a.1 b.1 r o) b.1 = o := by
    intro r hr o ho hg
    exact ⟨row_eq ha.nn (ha.len hr) fun n hn => vals_a ha.nn (ha.len hr) hn, row_eq hb.nn (hb.len ho) fun n hn => vals_b ha.nn (ha.len hr) hb.nn (hb.len ho) hg hn⟩
  have same : ∀ r ∈ a.2, ∀ o ∈ b.2, agz a.1 b.1 r o = true → ∀ r' ∈ a.2, ∀ o' ∈ b.2, agz a.1 b.1 r' o' = true → rowOf (vals a.1 b.1 r o) (mergeN a.1 b.1) = rowOf (vals a.1 b.1 r' o') (mergeN a.1 b.1) → r = r' ∧ o = o' := by
    intro r hr o ho hg r' hr' o' ho' hg' e
    have hv := row_inj (vals_tot ha.nn (ha.len hr) (hb.len ho)) (vals_tot ha.nn (ha.len hr') (hb.len ho')) e
    have b1 := back r hr o ho hg
    have b2 := back r' hr' o' ho' hg'
    constructor
    · rw [← b1.1, ← b2.1]
      exact rowOf_congr fun n hn => hv n ((mergeN_mem _ _ _).mpr (.inl hn))
    · rw [← b1.2, ← b2.2]
      exact rowOf_congr fun n hn => hv n ((mergeN_mem _ _ _).mpr (.inr hn))
  refine ⟨fun r hr => ?_, ?_⟩
  · unfold turnR
    rw [List.pairwise_map]
    have hp : (b.2.filter (agz a.1 b.1 r)).Pairwise (· ≠ ·) := List.Pairwise.filter _ hb.nd
    refine List.Pairwise.imp_of_mem (fun {x y} hx hy ne e => ?_) hp
    obtain ⟨hx, gx⟩ := List.mem_filter.mp hx
    obtain ⟨hy, gy⟩ := List.mem_filter.mp hy
    exact ne (same r hr x hx gx r hr y hy gy e).2
  · have hp : a.2.Pairwise (· ≠ ·) := ha.nd
    refine List.Pairwise.imp_of_mem (fun {x y} hx hy ne u hu v hv e => ?_) hp
    unfold turnR at hu hv
    obtain ⟨o, ho, rfl⟩ := List.mem_map.mp hu
    obtain ⟨o', ho', rfl⟩ := List.mem_map.mp hv
    obtain ⟨ho, g1⟩ := List.mem_filter.mp ho
    obtain ⟨ho', g2⟩ := List.mem_filter.mp ho'
    exact ne (same x hx o ho g1 y hy o' ho' g2 e).1
end K21

set_option Elab.async false
set_option linter.all false
set_option maxRecDepth 100000
set_option maxHeartbeats 4000000
set_option autoImplicit false
namespace K21
open PySem PySem.Spec L2 DS
open PySem.W (dataLe)
theorem zip_mkd : ∀ (ns : List Str) (r : List Int), ((ns.map Sum.inr : List Key).zip (r.map D.int)) = mkd (ns.zip r)
  | [], _ => rfl
  | _ :: _, [] => rfl
  | n :: ns, v :: r => by
    simp only [List.map_cons, List.zip_cons_cons, zip_mkd ns r]
    rfl
theorem pDictZipR {ns : List Str} {r : List Int} (hn : ns.Nodup) (hr : r.length = ns.length) (k : Res → Prop) : opK (oDictZip [.tup (ns.map .str), .tup (r.map .int)]) k ↔ k (.o (.k (mkd (ns.zip r)))) := by
  rw [pDictZip, zip_mkd]
  have e : dMerge [] (mkd (ns.zip r)) = mkd (ns.zip r) := by
    have := mkd_mrg (ns.zip r) []
    rw [mrg_nil (zip_nd hr hn)] at this
    exact this
  rw [e]
theorem pd_row (r : List Int) : pd (eRow r) = .tuple (r.map .int) := by
  unfold pd eRow
  simp only [pyD, pyDs_ints, Option.map_some, Option.getD_some]
theorem alike_ints : ∀ (r s : List Int), PySem.W.alikeAll (r.map .int) (s.map .int) = true
  | [], _ => by simp [PySem.W.alikeAll]
  | _ :: _, [] => by simp [PySem.W.alikeAll]
  | i :: r, j :: s => by simp [PySem.W.alikeAll, PySem.W.alike, alike_ints r s]
theorem srtOk_rows {rs : List (List Int)} (h : ∀ r ∈ rs, r ≠ []) : srtOk (rs.map eRow) = true := by
  unfold srtOk
  simp only [Bool.and_eq_true, List.all_eq_true, Bool.or_eq_true]
  refine ⟨⟨?_, ?_⟩, .inl ?_⟩
  · intro x hx
    obtain ⟨r, _, rfl⟩ := List.mem_map.mp hx
    refine ⟨?_, ?_⟩
    · unfold eRow
      simp only [pyD, pyDs_ints, Option.map_some, Option.isSome_some]
    · rw [pd_row]
      simp [PyData.depth, PySem.W.ke_depthAll]
  · intro x hx y hy
    obtain ⟨r, _, rfl⟩ := List.mem_map.mp hx
    obtain ⟨s, _, rfl⟩ := List.mem_map.mp hy
    rw [pd_row, pd_row]
    simp only [PySem.W.alike, alike_ints]
  · intro x hx
    obtain ⟨r, hr, rfl⟩ := List.mem_map.mp hx
    rw [pd_row]
    cases r with
    | nil => exact absurd rfl (h _ hr)
    | cons => rfl
theorem pSorted_rows {rs : List (List Int)} (h : rs.length < 2 ∨ ∀ r ∈ rs, r ≠ []) : ∃ ss : List (List Int), ss.Perm rs ∧ ∀ k, opK (oSorted [.lst (rs.map eRow)]) k ↔ k (.o (.l (ss.map eRow))) := by
  by_cases hl : rs.length < 2
  · refine ⟨rs, List.Perm.refl _, fun k => ?_⟩
    have e : oSorted [.lst (rs.map eRow)] = some (.o (.l (rs.map eRow))) := by
      show oSortL _ = _
      unfold oSortL
      rw [if_pos (by simpa using hl)]
    rw [e]
    exact opK_some _ _
  · have h := h.resolve_left hl
    refine ⟨rs.mergeSort fun a b => dataLe false pd (eRow a) (eRow b), List.mergeSort_perm _ _, fun k => ?_⟩
    have e : oSorted [.lst (rs.map eRow)] = some (.o (.l ((rs.mergeSort fun a b => dataLe false pd (eRow a) (eRow b)).map eRow))) := by
      show oSortL _ = _
      unfold oSortL
      rw [if_neg (by simpa using hl), if_pos (srtOk_rows h)]
      unfold srtD
      rw [List.map_mergeSort (f := eRow) (r := fun a b => dataLe false pd (eRow a) (eRow b)) (s := dataLe false pd) fun a _ b _ => rfl]
    rw [e]
    exact opK_some _ _
theorem stars_eq {ps qs : Ps} (h : Nd ps) : dMerge (dMerge [] (mkd ps)) (mkd qs) = mkd (mrg ps qs) := by
  have e : dMerge [] (mkd ps) = mkd ps := by
    have := mkd_mrg ps []
    rw [mrg_nil h] at this
    exact this
  rw [e, mkd_mrg]
theorem join_ok (A : Ad) {a b : Tb} (ha : JT a) (hb : JT b) (la : a.1.length ≤ 5) (lb : b.1.length ≤ 5) (lj : (mergeN a.1 b.1).length ≤ 5) : ∃ rs, rs.Perm (preR a b) ∧ Fv (F_join_tables A) [eT a, eT b] (.d (eT (mergeN a.1 b.1, rs))) := by
  have hpl : (preR a b).length ≤ 243 := Nat.le_trans (nodup_le (pre_nd ha hb) (pre_rows ha hb)) (allRows_le lj)
  have hs : (preR a b).length < 2 ∨ ∀ r ∈ preR a b, r ≠ [] := by
    by_cases h0 : (mergeN a.1 b.1).length = 0
    · left
      have := nodup_le (pre_nd ha hb) (pre_rows ha hb)
      rw [h0] at this
      simp [allRows] at this
      omega
    · right
      intro r hr e
      have := (allRows_mem.mp (pre_rows ha hb r hr)).1
      rw [e] at this
      exact h0 this.symm
  obtain ⟨ss, hp, hk⟩ := pSorted_rows hs
  refine ⟨ss, hp, fv_of ?_⟩
  unfold g_join_tables
  show RS _ [Cell.d (.tup [.tup (a.1.map .str), .tup (a.2.map eRow)]), .d (.tup [.tup (b.1.map .str), .tup (b.2.map eRow)]), .un, .un, .un, .un, .un, .un, .un] _
  simp
  refine ⟨small_ok (by omega), ?_⟩
  refine R_call (merge_ok A a.1 b.1 (by omega)) rfl ?_
  simp
  refine RL_fold eRow (fun zs c => ∃ c4 c5 c6 c7, c = [Cell.d (.tup [.tup (a.1.map .str), .tup (a.2.map eRow)]), .d (.tup [.tup (b.1.map .str), .tup (b.2.map eRow)]), .d (.tup ((mergeN a.1 b.1).map .str)), .o false (.l ((zs.flatMap (turnR a b)).map eRow)), c4, c5, c6, c7, .un]) _ (fun zs r ys c e i => ?_) ⟨_, _, _, _, rfl⟩ (fun c i => ?_)
  · obtain ⟨c4, c5, c6, c7, rfl⟩ := i
    have hr : r ∈ a.2 := by rw [e]; simp
    have lr := ha.len hr
    simp
    refine (pDictZipR ha.nn lr _).mpr ?_
    simp
    refine RL_fold eRow (fun ws c => ∃ c6 c7, c = [Cell.d (.tup [.tup (a.1.map .str), .tup (a.2.map eRow)]), .d (.tup [.tup (b.1.map .str), .tup (b.2.map eRow)]), .d (.tup ((mergeN a.1 b.1).map .str)), .o false (.l ((zs.flatMap (turnR a b) ++ (ws.filter (agz a.1 b.1 r)).map fun o => rowOf (vals a.1 b.1 r o) (mergeN a.1 b.1)).map eRow)), .d (eRow r), .d (.dk (mkd (a.1.zip r))), c6, c7, .un]) _ (fun ws o vs c e2 i => ?_) ⟨c6, c7, by simp⟩ (fun c i => ?_)
    · obtain ⟨c6, c7, rfl⟩ := i
      have ho : o ∈ b.2 := by rw [e2]; simp
      have lo := hb.len ho
      have hag := agrees_ok A b.1 o (im_mkd (a.1.zip r))
      rw [lk_mkd] at hag
      have hag' : Fv (F_agrees A) [.tup (b.1.map .str), eRow o, .dk (mkd (a.1.zip r))] (.d (.bl (agz a.1 b.1 r o))) := hag
      have hbound : ((zs.flatMap (turnR a b) ++ (ws.filter (agz a.1 b.1 r)).map fun o => rowOf (vals a.1 b.1 r o) (mergeN a.1 b.1))).length < sizeLine := by
        have e3 : preR a b = zs.flatMap (turnR a b) ++ (turnR a b r ++ ys.flatMap (turnR a b)) := by
          unfold preR
          rw [e]
          simp
        have e4 : turnR a b r = ((ws.filter (agz a.1 b.1 r)).map fun o => rowOf (vals a.1 b.1 r o) (mergeN a.1 b.1)) ++ (((o :: vs).filter (agz a.1 b.1 r)).map fun o => rowOf (vals a.1 b.1 r o) (mergeN a.1 b.1)) := by
          unfold turnR
          rw [e2]
          simp
        have h1 := congrArg List.length e3
        have h2 := congrArg List.length e4
        rw [List.length_append, List.length_append] at h1
        rw [List.length_append] at h2
        rw [List.length_append]
        have h3 := small_ok (n := 300) (by omega)
        omega
      have hmap := fun (x : List (List Int)) => List.length_map (as := x) eRow
      simp
      refine R_call hag' rfl ?_
      by_cases hg : agz a.1 b.1 r o = true
      · simp [hg]
        refine (pDictZipR hb.nn lo _).mpr ?_
        simp
        rw [stars_eq (zip_nd lo hb.nn), star_len (zip_nd lo hb.nn), mkd_len]
        refine ⟨small_ok (by simp; omega), ?_⟩
        refine lc_enc D.str (fun _ => true) (fun n => .int ((vals a.1 b.1 r o n).getD 0)) (by simp [noOw]) (small_ok (by omega)) (fun n hn => ?_) ?_
        · simp only [wipeC, List.set_cons_succ, List.set_cons_zero]
          have hx := (im_mkd (mrg (b.1.zip o) (a.1.zip r))).some (n := n) (by rw [lk_mkd]; exact vals_tot ha.nn lr lo n hn)
          rw [lk_mkd] at hx
          simp [hx, reC, vals]
        · have er : ((mergeN a.1 b.1).map fun n => D.int ((vals a.1 b.1 r o n).getD 0)) = (rowOf (vals a.1 b.1 r o) (mergeN a.1 b.1)).map .int := row_enc _ _
          rw [filter_tt, er]
          have hb2 : (zs.flatMap (turnR a b)).length + ((ws.filter (agz a.1 b.1 r))).length < sizeLine := by
            simpa [List.length_append] using hbound
          generalize zs.flatMap (turnR a b) = Z at hb2 ⊢
          simp
          refine ⟨hb2, rfl⟩
      · simp [hg, turn]
    · obtain ⟨c6, c7, rfl⟩ := i
      simp [turn]
      unfold turnR
      rw [List.map_map]
  · obtain ⟨c4, c5, c6, c7, rfl⟩ := i
    simp [aft]
    refine (hk _).mpr ?_
    simp
    refine ⟨small_ok (by omega), by simp, rfl⟩
end K21

set_option Elab.async false
set_option linter.all false
set_option maxRecDepth 100000
set_option maxHeartbeats 4000000
set_option autoImplicit false
namespace K21
open PySem PySem.Spec L2 DS
theorem all_rows_prog (A : Ad) : Fv (F_all_rows A) [.int 1] (.d (eRs [[0], [1], [2]])) := by
  refine ⟨?_, by simp⟩
  rfl
structure Inv (ns : List Str) (J : Tb) (done : List Tb) : Prop where
  jt : JT J
  sub : ∀ n ∈ J.1, n ∈ ns
  cov : ∀ t ∈ done, ∀ n ∈ t.1, n ∈ J.1
  sat : ∀ δ : Asg, tot δ ns → (∀ n ∈ ns, ∀ v, δ n = some v → v = 0 ∨ v = 1 ∨ v = 2) → (rowOf δ J.1 ∈ J.2 ↔ ∀ t ∈ done, rowOf δ t.1 ∈ t.2)
theorem Inv.len {ns : List Str} {J : Tb} {done : List Tb} (h : Inv ns J done) (hl : ns.length ≤ 5) : J.1.length ≤ 5 := Nat.le_trans (nodup_le h.jt.nn h.sub) hl
theorem Inv.step {ns : List Str} {J t : Tb} {done : List Tb} {rs : List (List Int)} (h : Inv ns J done) (ht : JT t) (hs : ∀ n ∈ t.1, n ∈ ns) (hp : rs.Perm (preR J t)) : Inv ns (mergeN J.1 t.1, rs) (done ++ [t]) where
  jt := ⟨mergeN_lt _ _, hp.nodup_iff.mpr (pre_nd h.jt ht), fun r hr => pre_rows h.jt ht r (hp.mem_iff.mp hr)⟩
  sub n hn := by
    rcases (mergeN_mem _ _ _).mp hn with h2 | h2
    · exact h.sub n h2
    · exact hs n h2
  cov t' ht' n hn := by
    refine (mergeN_mem _ _ _).mpr ?_
    rcases List.mem_append.mp ht' with h2 | h2
    · exact .inl (h.cov t' h2 n hn)
    · rw [List.mem_singleton.mp h2] at hn; exact .inr hn
  sat δ hd hv := by
    have h1 := pre_mem h.jt ht (δ := δ) fun n hn => by
      rcases (mergeN_mem _ _ _).mp hn with h2 | h2
      · exact hd n (h.sub n h2)
      · exact hd n (hs n h2)
    show rowOf δ (mergeN J.1 t.1) ∈ rs ↔ _
    rw [hp.mem_iff, h1, h.sat δ hd hv]
    constructor
    · rintro ⟨a, b⟩ t' ht'
      rcases List.mem_append.mp ht' with h2 | h2
      · exact a t' h2
      · rw [List.mem_singleton.mp h2]; exact b
    · intro a
      exact ⟨fun t' ht' => a t' (List.mem_append_left _ ht'), a t (by simp)⟩
theorem one_jt (n : Str) : JT ([n], [[0], [1], [2]]) where
  lt := by simp
  nd := by show ([[0], [1], [2]] : List (List Int)).Nodup; decide
  mem r hr := by
    simp at hr
    rcases hr with rfl | rfl | rfl <;> exact allRows_mem.mpr ⟨rfl, by simp⟩
theorem Inv.drop {ns : List Str} {J : Tb} {done : List Tb} {n : Str} (hn : n ∈ ns) (h : Inv ns J (done ++ [([n], [[0], [1], [2]])])) : Inv ns J done where
  jt := h.jt
  sub := h.sub
  cov t ht := h.cov t (List.mem_append_left _ ht)
  sat δ hd hv := by
    rw [h.sat δ hd hv]
    constructor
    · exact fun a t ht => a t (List.mem_append_left _ ht)
    · intro a t ht
      rcases List.mem_append.mp ht with h2 | h2
      · exact a t h2
      · rw [List.mem_singleton.mp h2]
        obtain ⟨v, e⟩ := Option.isSome_iff_exists.mp (hd n hn)
        have := hv n hn v e
        show rowOf δ [n] ∈ _
        unfold rowOf
        simp [e, this]
theorem tabOk.jt {ns : List Str} {t : Tb} (h : tabOk ns t) (hl : ns.Pairwise ltS) (nd : ∀ n, (allRows n).Nodup) : JT t where
  lt := hl.sublist h.1
  nd := (nd _).sublist h.2
  mem r hr := h.2.subset hr
theorem allRows_nd : ∀ n, (allRows n).Nodup
  | 0 => by simp [allRows]
  | n + 1 => by
    rw [allRows, List.nodup_iff_pairwise_ne, List.pairwise_flatMap]
    refine ⟨fun r hr => by simp [more3], ?_⟩
    refine List.Pairwise.imp ?_ (allRows_nd n)
    intro r s ne x hx y hy e
    have hl : ∀ (z u : List Int), z ∈ more3 u → z.dropLast = u := by
      intro z u hz
      simp [more3] at hz
      rcases hz with rfl | rfl | rfl <;> simp
    exact ne (by rw [← hl x r hx, ← hl y s hy, e])
def normP (ns : List Str) (ts : List Tb) : Res → Prop := fun y => ∃ rs : List (List Int), y = .d (.tup [eN ns, .tup [eT (ns, rs)]]) ∧ rs.Nodup ∧ ∀ r, r ∈ rs ↔ r ∈ sols ns ts
theorem inv_end {ns : List Str} {ts : List Tb} {q : Tb} {J : Tb} (w : Th ns ts q) (hlt : ns.Pairwise ltS) (h : Inv ns J ts) (hall : ∀ n ∈ ns, n ∈ J.1) : J.1 = ns ∧ J.2.Nodup ∧ ∀ r, r ∈ J.2 ↔ r ∈ sols ns ts := by
  have e : J.1 = ns := sorted_ext h.jt.lt hlt fun n => ⟨h.sub n, hall n⟩
  refine ⟨e, h.jt.nd, fun r => ?_⟩
  unfold sols
  rw [List.mem_filter]
  have key : ∀ r ∈ allRows ns.length, (r ∈ J.2 ↔ okRow ns ts r = true) := by
    intro r hr
    have lr := (allRows_mem.mp hr).1
    have hv : v012 (ns.zip r) := fun p hp => (allRows_mem.mp hr).2 _ (List.of_mem_zip hp).2
    have := h.sat (look (ns.zip r)) (tot_zip lr fun n hn => hn) (fun n _ v e => look_v hv e)
    rw [e, rowOf_look w.nd lr] at this
    rw [this]
    unfold okRow
    rw [List.all_eq_true]
    simp
  constructor
  · intro hr
    have h1 := h.jt.mem r hr
    rw [e] at h1
    exact ⟨h1, (key r h1).mp hr⟩
  · rintro ⟨h1, h2⟩
    exact (key r h1).mpr h2
theorem normal_ok (A : Ad) {ns : List Str} {ts : List Tb} {q : Tb} (w : Th ns ts q) (hlt : ns.Pairwise ltS) : FvE (F_Rows_normal A) [.obj A.C_Rows, eTh ns ts] (normP ns ts) := by
  refine fvE_of ?_
  unfold g_Rows_normal
  show RS _ [Cell.d (.obj A.C_Rows), .d (.tup [.tup (ns.map .str), .tup (ts.map eT)]), .un, .un, .un, .un] _
  have z : ∀ k, k < 1000 → k ≤ sizeLine := fun k h => small_ok h
  simp [z]
  refine RL_fold eT (fun zs c => ∃ J c4, c = [Cell.d (.obj A.C_Rows), .d (.tup [.tup (ns.map .str), .tup (ts.map eT)]), .d (.tup (ns.map .str)), .d (eT J), c4, .un] ∧ Inv ns J zs) _ (fun zs t ys c e i => ?_) ⟨([], [[]]), .un, rfl, ?_⟩ (fun c i => ?_)
  · obtain ⟨J, c4, rfl, hI⟩ := i
    have ht : t ∈ ts := by rw [e]; simp
    have hto := w.tok t ht
    have htj := hto.jt hlt allRows_nd
    have hm : (mergeN J.1 t.1).length ≤ 5 := by
      refine Nat.le_trans (nodup_le (mergeN_nd _ _) fun n hn => ?_) w.nl
      rcases (mergeN_mem _ _ _).mp hn with h2 | h2
      · exact hI.sub n h2
      · exact hto.1.subset h2
    obtain ⟨rs, hp, hf⟩ := join_ok A hI.jt htj (hI.len w.nl) (Nat.le_trans hto.1.length_le w.nl) hm
    simp [-Prod.exists]
    refine R_call hf rfl ?_
    simp [-Prod.exists]
    exact ⟨_, rfl, hI.step htj (fun n hn => hto.1.subset hn) hp⟩
  · refine ⟨⟨by simp, by simp, by simp [allRows]⟩, by simp, by simp, fun δ _ _ => by simp [rowOf]⟩
  · obtain ⟨J, c4, rfl, hI⟩ := i
    simp [aft]
    refine RL_fold D.str (fun zs c => ∃ J c5, c = [Cell.d (.obj A.C_Rows), .d (.tup [.tup (ns.map .str), .tup (ts.map eT)]), .d (.tup (ns.map .str)), .d (eT J), c4, c5] ∧ Inv ns J ts ∧ ∀ n ∈ zs, n ∈ J.1) _ (fun zs n ys c e i => ?_) ⟨J, .un, rfl, hI, by simp⟩ (fun c i => ?_)
    · obtain ⟨J, c5, rfl, hI, hz⟩ := i
      have hn : n ∈ ns := by rw [e]; simp
      have z1 : 1 ≤ sizeLine := small_ok (by omega)
      have z2 : 2 ≤ sizeLine := small_ok (by omega)
      have hb : eT J = .tup [eN J.1, eRs J.2] := rfl
      simp [hb, -Prod.exists]
      refine (pNotIn_strs (w.nok n hn) (fun m hm => w.nok m (hI.sub m hm)) _).mpr ?_
      simp [asB_bl, -Prod.exists]
      by_cases hm : n ∈ J.1
      · simp [hm, -Prod.exists]
        exact ⟨J, rfl, hI, fun m h => h.elim (hz m) fun e => e ▸ hm⟩
      · simp [hm, z1, -Prod.exists]
        refine R_call (all_rows_prog A) rfl ?_
        have hm2 : (mergeN J.1 [n]).length ≤ 5 := by
          refine Nat.le_trans (nodup_le (mergeN_nd _ _) fun m hm => ?_) w.nl
          rcases (mergeN_mem _ _ _).mp hm with h2 | h2
          · exact hI.sub m h2
          · rw [List.mem_singleton.mp h2]; exact hn
        obtain ⟨rs, hp, hf⟩ := join_ok A hI.jt (one_jt n) (hI.len w.nl) (by simp) hm2
        simp [z2, -Prod.exists]
        refine R_call hf rfl ?_
        simp [-Prod.exists]
        refine ⟨_, rfl, (hI.step (one_jt n) (fun m hm => by rw [List.mem_singleton.mp hm]; exact hn) hp).drop hn, fun m h => ?_⟩
        refine (mergeN_mem _ _ _).mpr ?_
        rcases h with h | rfl
        · exact .inl (hz m h)
        · exact .inr (by simp)
    · obtain ⟨J, c5, rfl, hI, hz⟩ := i
      obtain ⟨e1, e2, e3⟩ := inv_end w hlt hI hz
      simp
      refine ⟨small_ok (by omega), small_ok (by omega), by simp, _, rfl, J.2, ?_, e2, e3⟩
      rw [← e1]
      rfl
end K21

set_option Elab.async false
set_option linter.all false
set_option maxRecDepth 100000
set_option maxHeartbeats 4000000
set_option autoImplicit false
namespace K21
open PySem PySem.Spec L2 DS
def ceP (ns : List Str) (ts : List Tb) (q : Tb) : Res → Prop := fun y => (y = .d .non ∧ ∀ r, ¬ breaksR ns ts q r) ∨ ∃ r, y = .o (.k (mkd (ns.zip r))) ∧ breaksR ns ts q r
theorem ce_ok (A : Ad) {ns : List Str} {ts : List Tb} {q : Tb} (w : Th ns ts q) (hlt : ns.Pairwise ltS) : FvE (F_Rows_counterexample A) [.obj A.C_Rows, eTh ns ts, eT q] (ceP ns ts q) := by
  refine fvE_of ?_
  unfold g_Rows_counterexample
  show RS _ [Cell.d (.obj A.C_Rows), .d (eTh ns ts), .d (eT q), .un, .un, .un, .un] _
  obtain ⟨_, hf, rs, rfl, hnd, hmem⟩ := normal_ok A w hlt
  simp
  refine ⟨rfl, ?_⟩
  refine R_call hf rfl ?_
  have hb : eT (ns, rs) = .tup [eN ns, .tup (rs.map eRow)] := rfl
  simp [hb]
  refine RL_find eRow (fun r => !decide (rowOf (look (ns.zip r)) q.1 ∈ q.2)) (fun c => ∃ c5 c6, c = [Cell.d (.obj A.C_Rows), .d (eTh ns ts), .d (eT q), .d (eN ns), .d (.tup [.tup [eN ns, .tup (rs.map eRow)]]), c5, c6]) _ _ (fun r hr hp c hc => ?_) (fun r hr hp c hc => ?_) ⟨_, _, rfl⟩ (fun hall c hc => ?_)
  · obtain ⟨c5, c6, rfl⟩ := hc
    have hs := (hmem r).mp hr
    have lr := (allRows_mem.mp (List.mem_filter.mp hs).1).1
    simp
    refine (pDictZipR w.nd lr _).mpr ?_
    simp
    refine (R_bor_o rfl).mpr ?_
    simp only [lent, List.map_cons, List.map_nil, msk, List.set_cons_succ, List.set_cons_zero, fz_k]
    simp
    refine ⟨rfl, ?_⟩
    refine R_call (holds_ok A A.C_Rows q (im_mkd (ns.zip r)) (by rw [lk_mkd]; exact tot_zip lr fun n hn => w.q.1.subset hn) (small_ok w.wf.q.2.1)) rfl ?_
    rw [lk_mkd]
    simp at hp
    simp [hp, flat]
  · obtain ⟨c5, c6, rfl⟩ := hc
    have hs := (hmem r).mp hr
    have lr := (allRows_mem.mp (List.mem_filter.mp hs).1).1
    simp
    refine (pDictZipR w.nd lr _).mpr ?_
    simp
    refine (R_bor_o rfl).mpr ?_
    simp only [lent, List.map_cons, List.map_nil, msk, List.set_cons_succ, List.set_cons_zero, fz_k]
    simp
    refine ⟨rfl, ?_⟩
    refine R_call (holds_ok A A.C_Rows q (im_mkd (ns.zip r)) (by rw [lk_mkd]; exact tot_zip lr fun n hn => w.q.1.subset hn) (small_ok w.wf.q.2.1)) rfl ?_
    rw [lk_mkd]
    simp at hp
    simp [hp, flat, aft]
    exact ⟨by simp, _, rfl, .inr ⟨r, rfl, (List.mem_filter.mp hs).1, (List.mem_filter.mp hs).2, hp⟩⟩
  · obtain ⟨c5, c6, rfl⟩ := hc
    simp [aft]
    refine ⟨by simp, _, rfl, .inl ⟨rfl, fun r hb => ?_⟩⟩
    have := hall r ((hmem r).mpr (List.mem_filter.mpr ⟨hb.1, hb.2.1⟩))
    simp at this
    exact hb.2.2 this
end K21

set_option Elab.async false
set_option linter.all false
set_option maxRecDepth 100000
set_option maxHeartbeats 4000000
set_option autoImplicit false
namespace K21
open PySem PySem.Spec L2 DS
theorem leaf_i (a b : Int) : leafEq (.int a) (.int b) = some (decide (a = b)) := by
  simp only [leafEq, pyD, PyData.depth, PyData.eqv]
  rfl
theorem deq_i (n : Nat) (a b : Int) : deq (n + 1) (.int a) (.int b) = some (decide (a = b)) := by
  unfold deq
  rw [leaf_i]
theorem hrOk_mkd : ∀ ps : Ps, hrOkK (mkd ps) = true
  | [] => rfl
  | p :: ps => by
    show hrOkK ((.inr p.1, .int p.2) :: mkd ps) = true
    simp only [hrOkK, hrOk, hrOk_mkd ps, Bool.and_self]
theorem deqT_mkd (ps qs : Ps) : ∃ b, deqT (.dk (mkd ps)) (.dk (mkd qs)) = some b ∧ (ps = qs → Nd ps → b = true) := by
  have h1 : hrOk (.dk (mkd ps)) = true := by simp only [hrOk, hrOk_mkd]
  have h2 : hrOk (.dk (mkd qs)) = true := by simp only [hrOk, hrOk_mkd]
  unfold deqT
  rw [if_pos ⟨h1, h2⟩]
  have h3 : leafEq (.dk (mkd ps)) (.dk (mkd qs)) = none := by simp only [leafEq, pyD]
  unfold deq
  rw [h3]
  dsimp only
  unfold dictEq
  rw [if_pos]
  · refine ⟨_, rfl, ?_⟩
    rintro rfl hn
    rw [Bool.and_eq_true]
    refine ⟨by simp, ?_⟩
    rw [List.all_eq_true]
    intro p hp
    obtain ⟨x, hx, rfl⟩ := List.mem_map.mp hp
    dsimp only
    rw [mkd_get, look_mem hn hx]
    dsimp only [Option.map_some]
    rw [deq_i]
    simp
  · rw [List.all_eq_true]
    intro p hp
    obtain ⟨x, hx, rfl⟩ := List.mem_map.mp hp
    dsimp only
    rw [mkd_get]
    cases look qs x.1 with
    | none => rfl
    | some v =>
      dsimp only [Option.map_some]
      rw [deq_i]
      rfl
theorem anyEq_sols {ns : List Str} {r : List Int} (hn : ns.Nodup) (hr : r.length = ns.length) : ∀ rs : List (List Int), ∃ b, anyEq (.dk (mkd (ns.zip r))) (rs.map (eSol ns)) = some b ∧ (r ∈ rs → b = true)
  | [] => ⟨false, rfl, by simp⟩
  | s :: rs => by
    obtain ⟨b, e, h⟩ := anyEq_sols hn hr rs
    obtain ⟨c, e2, h2⟩ := deqT_mkd (ns.zip s) (ns.zip r)
    refine ⟨c || b, ?_, ?_⟩
    · simp only [List.map_cons, anyEq, e]
      show (match deqT (.dk (mkd (ns.zip s))) (.dk (mkd (ns.zip r))), some b with
        | some a, some b => some (a || b)
        | _, _ => none) = _
      rw [e2]
    · intro hm
      rcases List.mem_cons.mp hm with rfl | hm
      · rw [h2 rfl (zip_nd hr hn)]; rfl
      · rw [h hm]; simp
theorem breaks_ok (A : Ad) {ns : List Str} {ts : List Tb} {q : Tb} (w : Th ns ts q) {r : List Int} (hb : breaksR ns ts q r) : Fv (F__law_breaks A) [.dk (mkd (ns.zip r)), eT q, .lst ((sols ns ts).map (eSol ns))] (.d (.bl true)) := by
  have lr := (allRows_mem.mp hb.1).1
  obtain ⟨b, e, h⟩ := anyEq_sols w.nd lr (sols ns ts)
  have hbt := h (List.mem_filter.mpr ⟨hb.1, hb.2.1⟩)
  subst hbt
  have hq : ∀ k, opK (oNotInQ (.dk (mkd (ns.zip r))) (.lst ((sols ns ts).map (eSol ns)))) k ↔ k (.d (.bl false)) := fun k => by
    have : oNotInQ (.dk (mkd (ns.zip r))) (.lst ((sols ns ts).map (eSol ns))) = some (.d (.bl false)) := by
      unfold oNotInQ
      dsimp only
      rw [e]
      rfl
    rw [this]
    exact opK_some _ _
  refine fv_of ?_
  unfold g__law_breaks
  show RS _ [Cell.d (.dk (mkd (ns.zip r))), .d (eT q), .d (.lst ((sols ns ts).map (eSol ns))), .un] _
  simp [↓hq, asB_bl]
  rw [mkd_keys, List.map_map]
  refine lc_enc (D.str ∘ fun p : Str × Int => p.1) (fun _ => false) (fun _ => .non) (by simp [noOw]) (small_ok (by have := w.nl; simp; omega)) (fun p hp => ?_) ?_
  · simp only [wipeC, List.set_cons_succ, List.set_cons_zero]
    simp [mkd_get, look_mem (zip_nd lr w.nd) hp]
    refine R_call (is_int_i A p.2) rfl ?_
    simp [reC]
  · have ef : (ns.zip r).filter (fun _ => false) = [] := by simp
    rw [ef]
    simp [asB_bl]
    refine R_call (fits_ok A q (im_mkd (ns.zip r)) (by rw [lk_mkd]; exact tot_zip lr fun n hn => w.q.1.subset hn) (small_ok w.wf.q.2.1)) rfl ?_
    rw [lk_mkd]
    have := hb.2.2
    simp [asB_bl, this, Ends1, outR]
end K21

set_option Elab.async false
set_option linter.all false
set_option maxRecDepth 100000
set_option maxHeartbeats 4000000
set_option autoImplicit false
namespace K21
open PySem PySem.Spec L2 DS
/-- the cells of law behind the question -/
def theU : List Str := ["a", "a.k", "b", "b1", "c"]
theorem theU_lt : theU.Pairwise ltS := by
  unfold theU
  have h : ∀ a b : Str, decide (a.cps.toList < b.cps.toList) = true → ltS a b := fun a b h => of_decide_eq_true (p := a.cps.toList < b.cps.toList) h
  refine List.pairwise_cons.mpr ⟨?_, List.pairwise_cons.mpr ⟨?_, List.pairwise_cons.mpr ⟨?_, List.pairwise_cons.mpr ⟨?_, by simp⟩⟩⟩⟩ <;> intro x hx <;> simp only [List.mem_cons, List.not_mem_nil, or_false] at hx
  · rcases hx with rfl | rfl | rfl | rfl <;> exact h _ _ (by decide +kernel)
  · rcases hx with rfl | rfl | rfl <;> exact h _ _ (by decide +kernel)
  · rcases hx with rfl | rfl <;> exact h _ _ (by decide +kernel)
  · rcases hx with rfl
    exact h _ _ (by decide +kernel)
theorem theU_ok : ∀ n ∈ theU, SOk n := by
  intro n hn
  unfold theU at hn
  simp only [List.mem_cons, List.not_mem_nil, or_false] at hn
  rcases hn with rfl | rfl | rfl | rfl | rfl <;> (unfold SOk; decide +kernel)
noncomputable def lawC (A : Ad) : S := (seqS (sR 2 (callF (F__law_source A) (argCons (getV 0) (argCons (kon (.int 3)) argNil))))
  (seqS (exS (mtV isL 13 (argCons (lcF (rng1 (kon (.int 8))) [5] (gN 5) (ret true) (asD (callF (F__law_changed A 12) (argCons (getV 2) (argCons (getV 3) (argCons (getV 12) (argCons (fn (argCons (bi (getV 4) (kon (.int 1)) oIx) argNil) oLen) (argCons (kon (.int 5)) argNil)))))))) argNil) opExtend))
  (seqS (exS (mtV isL 13 (argCons (lcF (rng1 (kon (.int 6))) [5] (gN 5) (ret true) (asD (callF (F__law_grown A 12) (argCons (getV 2) (argCons (getV 3) (argCons (fn (argCons (bi (getV 4) (kon (.int 1)) oIx) argNil) oLen) (argCons (kon (.int 2)) argNil))))))) argNil) opExtend))
  (seqS (forS (seqI (fzV2 13)) (gN 14)
  (seqS (sF 15 (methF A.C_Rows (F_Rows_accepts A) (getV 1) (argCons (getV 4) (argCons (getV 7) (argCons (getV 14) argNil)))))
  (ifS ((orT (notT (tst (isi (getV 15) .bool))) (tsb (bi (getV 15) (callF (F__law_rows_show A 12) (argCons (getV 4) (argCons (getV 7) (argCons (getV 14) (argCons (newK) argNil))))) oNe))))
  (rtS (kon (.bl false)))
  nxt)))
  (rtS (kon (.bl true)))))))
noncomputable def lawB (A : Ad) : S := (seqS (ifS (tsb (bi (fn (argCons (getV 8) argNil) oLen) (kon (.int 0)) oGt))
  (seqS (ifS ((orT (tsb (bi (getV 10) (kon .non) oNotN)) (notT (tst (bor 11 (callF (F__law_breaks A) (argCons (getV 11) (argCons (getV 7) (argCons (getV 6) argNil)))))))))
  (rtS (kon (.bl false)))
  nxt)
  (seqS (sSub 11 (kon (.int 1)) (kon (.str "spoilt")))
  (ifS (notT (tst (callF (F__law_breaks A) (argCons (methF A.C_Rows (F_Rows_counterexample A) (getV 1) (argCons (getV 4) (argCons (getV 7) argNil))) (argCons (getV 7) (argCons (getV 6) argNil))))))
  (rtS (kon (.bl false)))
  nxt)))
  (seqS (ifS ((orT (tsb (bi (getV 11) (kon .non) oNotN)) (notT (tst (callF (F__law_is_tree A 12) (argCons (getV 10) (argCons (fn (argCons (getV 3) argNil) oLen) argNil)))))))
  (rtS (kon (.bl false)))
  nxt)
  (seqS (ifS (notT (tst (callF (F__law_rows_show A 12) (argCons (getV 4) (argCons (getV 7) (argCons (getV 10) (argCons (newK) argNil)))))))
  (rtS (kon (.bl false)))
  nxt)
  (seqS (exS (mtV isL 13 (argCons (getV 10) argNil) opAppend))
  (seqS (sR 2 (callF (F__law_source A) (argCons (getV 0) (argCons (kon (.int 2)) argNil))))
  (exS (mtV isL 13 (argCons (lcF (rng1 (kon (.int 8))) [5] (gN 5) (ret true) (asD (callF (F__law_changed A 12) (argCons (getV 2) (argCons (getV 3) (argCons (getV 10) (argCons (fn (argCons (bi (getV 4) (kon (.int 1)) oIx) argNil) oLen) (argCons (kon (.int 5)) argNil)))))))) argNil) opExtend)))))))
  (lawC A))
noncomputable def lawA2 (A : Ad) : S := (seqS (sR 2 (callF (F__law_source A) (argCons (getV 0) (argCons (kon (.int 1)) argNil))))
  (seqS (sF 7 (callF (F__law_question A) (argCons (getV 2) (argCons (getV 4) (argCons (getV 6) argNil)))))
  (seqS (sF 8 (lcF (seqI (getV 6)) [9] (gN 9) (notT (tst (callF (F__law_fits A) (argCons (getV 7) (argCons (getV 9) argNil))))) (asD (getV 9))))
  (seqS (sF 10 (methF A.C_Rows (F_Rows_certificate A) (getV 1) (argCons (getV 4) (argCons (getV 7) argNil))))
  (seqS (sR 11 (methF A.C_Rows (F_Rows_counterexample A) (getV 1) (argCons (getV 4) (argCons (getV 7) argNil))))
  (seqS (sF 12 (callF (F__law_made A 12) (argCons (getV 2) (argCons (getV 4) (argCons (callF (F__law_order A) (argCons (getV 2) (argCons (getV 3) argNil))) (argCons (newK) argNil))))))
  (seqS (sR 13 (mkL (argCons (getV 12) argNil)))
  (lawB A))))))))
theorem law_split (A : Ad) : g_law A = (seqS (sF 1 (mk0 A.C_Rows))
  (seqS (sR 2 (callF (F__law_source A) (argCons (getV 0) (argCons (kon (.int 0)) argNil))))
  (seqS (sF 3 (fn (argCons (callF (F__law_some A) (argCons (getV 2) (argCons (mkL (argCons (kon (.str "a")) (argCons (kon (.str "a.k")) (argCons (kon (.str "b")) (argCons (kon (.str "b1")) (argCons (kon (.str "c")) argNil)))))) (argCons (bi (mkL (argCons (kon (.int 2)) (argCons (kon (.int 3)) (argCons (kon (.int 3)) (argCons (kon (.int 4)) argNil))))) (callF (F__law_draw A) (argCons (getV 2) (argCons (kon (.int 4)) argNil))) oIx) argNil)))) argNil) oTuple))
  (seqS (sF 4 (mkT (argCons (getV 3) (argCons (fn (argCons (lcF (rng1 (callF (F__law_draw A) (argCons (getV 2) (argCons (kon (.int 5)) argNil)))) [5] (gN 5) (ret true) (asD (callF (F__law_table A) (argCons (getV 2) (argCons (getV 3) argNil))))) argNil) oTuple) argNil))))
  (seqS (sF 6 (callF (F__law_solutions A) (argCons (getV 4) argNil)))
  (lawA2 A)))))) := rfl

/-- a theory without a question -/
structure Th0 (ns : List Str) (ts : List Tb) : Prop where
  sub : ns.Sublist theU
  tok : ∀ t ∈ ts, tabOk ns t
  tl : ts.length < 900
theorem Th0.th {ns : List Str} {ts : List Tb} {q : Tb} (h : Th0 ns ts) (hq : tabOk ns q) : Th ns ts q where
  nok n hn := theU_ok n (h.sub.subset hn)
  nd := lt_nd (theU_lt.sublist h.sub)
  nl := h.sub.length_le
  tok := h.tok
  tl := h.tl
  q := hq
theorem Th0.lt {ns : List Str} {ts : List Tb} (h : Th0 ns ts) : ns.Pairwise ltS := theU_lt.sublist h.sub
theorem tabOk.subT {ns : List Str} {ts : List Tb} {t : Tb} (w : Th0 ns ts) (h : tabOk ns t) : subT ns t := ⟨h.ok (w.th h).nok (w.th h).nl, fun n hn => h.1.subset hn⟩
theorem law_1 (A : Ad) (xs : List Int) (hx : xs.length ≤ 63) {Q : Out → Prop}
    (q : ∀ ns ts a b, Th0 ns ts → RS (lawA2 A) [.d (.scr xs), .d (.obj A.C_Rows), src false a b, .d (eN ns), .d (eTh ns ts), .un, .d (.lst ((sols ns ts).map (eSol ns))), .un, .un, .un, .un, .un, .un, .un, .un, .un] Q) :
    RS (g_law A) [.d (.scr xs), .un, .un, .un, .un, .un, .un, .un, .un, .un, .un, .un, .un, .un, .un, .un] Q := by
  rw [law_split]
  have z : ∀ k, k < 1000 → k ≤ sizeLine := fun k h => small_ok h
  obtain ⟨a, b, hs⟩ := source_ok A xs 0 (by omega) (by omega)
  simp [z]
  refine R_call hs rfl ?_
  simp
  refine R_callS (draw_ok A 4 (by omega) (by omega)) rfl rfl fun y a b hy => ?_
  obtain ⟨r, rfl, h0, h1⟩ := hy
  simp only [List.set_cons_zero, List.set_cons_succ, src]
  obtain ⟨v, hv, g⟩ := atM D.int (xs := [2, 3, 3, 4]) h0 (by simpa using h1)
  have g2 : ∀ k : D → Prop, opK (atI [.int 2, .int 3, .int 3, .int 4] r) k ↔ k (.int v) := g
  simp [↓g2]
  refine R_callS (some_ok A (.lst (theU.map .str)) theU v rfl (by unfold theU; simp)) rfl rfl fun y a b hy => ?_
  obtain ⟨ns, rfl, hsub⟩ := hy
  simp only [List.set_cons_zero, List.set_cons_succ, src]
  simp
  refine R_callS (draw_ok A 5 (by omega) (by omega)) rfl rfl fun y a b hy => ?_
  obtain ⟨n, rfl, h0, h1⟩ := hy
  simp only [List.set_cons_zero, List.set_cons_succ, src]
  simp
  refine ⟨⟨by omega, by omega⟩, ?_⟩
  rw [rngD0]
  refine lc_gen (fun i : Nat => D.int (i : Int)) (fun c => ∃ a b, c = [Cell.d (.scr xs), .d (.obj A.C_Rows), src false a b, .d (.tup (ns.map .str)), .un, .un, .un, .un, .un, .un, .un, .un, .un, .un, .un, .un]) (fun y => ∃ t, tabOk ns t ∧ y = eT t) (z _ (by simp; omega)) (fun x hx c i => ?_) (fun ys c hy hl i => ?_) ⟨a, b, rfl⟩
  · obtain ⟨a, b, rfl⟩ := i
    refine ⟨by simp [noOw], ?_⟩
    simp only [wipeC, List.set_cons_succ, List.set_cons_zero, src]
    simp
    refine R_callS (table_ok A ns hsub.length_le) rfl rfl fun y a b hy => ?_
    obtain ⟨t, rfl, ht⟩ := hy
    simp only [List.set_cons_zero, List.set_cons_succ, src]
    simp [reC]
    exact ⟨_, _, ht, rfl⟩
  · obtain ⟨a, b, rfl⟩ := i
    obtain ⟨ts, rfl, hts⟩ := unmap eT (tabOk ns) ys hy
    simp at hl
    have w : Th0 ns ts := ⟨hsub, hts, by omega⟩
    simp only [src]
    simp
    refine ⟨z _ (by omega), ?_⟩
    refine R_call (solutions_ok A (lt_nd w.lt) hsub.length_le (fun t ht => (hts t ht).subT w) w.tl) rfl ?_
    simp
    exact q ns ts a b w
end K21

set_option Elab.async false
set_option linter.all false
set_option maxRecDepth 100000
set_option maxHeartbeats 4000000
set_option autoImplicit false
namespace K21
open PySem PySem.Spec L2 DS
theorem cert_ok (A : Ad) {ns : List Str} {ts : List Tb} {q : Tb} (w : Th ns ts q) : FvE (F_Rows_certificate A) [.obj A.C_Rows, eTh ns ts, eT q] (treeOfP ns ts q []) := by
  obtain ⟨y, hf, hp⟩ := tree_of_ok A w 12 [] (by have := w.nl; simp; omega) (by simp [Nd]) (by simp) (by intro p hp; cases hp)
  refine ⟨y, fv_of ?_, hp⟩
  unfold g_Rows_certificate
  show RS _ [Cell.d (.obj A.C_Rows), .d (eTh ns ts), .d (eT q)] _
  simp
  refine ⟨rfl, ?_⟩
  refine R_call hf rfl ?_
  obtain ⟨o, rfl, _⟩ := hp
  simp [Ends1, outR]
def brk (ns : List Str) (ts : List Tb) (q : Tb) : List (List Int) := (sols ns ts).filter fun r => !decide (rowOf (look (ns.zip r)) q.1 ∈ q.2)
theorem brk_mem {ns : List Str} {ts : List Tb} {q : Tb} {r : List Int} : r ∈ brk ns ts q ↔ breaksR ns ts q r := by
  unfold brk sols breaksR
  rw [List.mem_filter, List.mem_filter, and_assoc]
  simp
theorem brk_len {ns : List Str} {ts : List Tb} {q : Tb} (hl : ns.length ≤ 5) : (sols ns ts).length ≤ 243 := Nat.le_trans (List.length_filter_le _ _) (allRows_le hl)
theorem law_2 (A : Ad) (xs : List Int) (hx : xs.length ≤ 63) {ns : List Str} {ts : List Tb} (w0 : Th0 ns ts) {a b : Int} {Q : Out → Prop}
    (q : ∀ qq o tm a b fc, tabOk ns qq → ((∀ t, o = some t → shows ns ts qq t (look []) = true ∧ dp t ≤ ns.length ∧ marksOk t) ∧ (o = none → ∃ r, breaksR ns ts qq r)) →
      ((fc = .d .non ∧ ∀ r, ¬ breaksR ns ts qq r) ∨ ∃ r, fc = .o false (.k (mkd (ns.zip r))) ∧ breaksR ns ts qq r) → dp tm ≤ 5 ∧ marksOk tm →
      RS (lawB A) [.d (.scr xs), .d (.obj A.C_Rows), src false a b, .d (eN ns), .d (eTh ns ts), .un, .d (.lst ((sols ns ts).map (eSol ns))), .d (eT qq), .d (.lst ((brk ns ts qq).map (eSol ns))), .un, .d (eO o), fc, .d (eTr tm), .o false (.l [eTr tm]), .un, .un] Q) :
    RS (lawA2 A) [.d (.scr xs), .d (.obj A.C_Rows), src false a b, .d (eN ns), .d (eTh ns ts), .un, .d (.lst ((sols ns ts).map (eSol ns))), .un, .un, .un, .un, .un, .un, .un, .un, .un] Q := by
  have z : ∀ k, k < 1000 → k ≤ sizeLine := fun k h => small_ok h
  have hl := w0.sub.length_le
  have hl5 : ns.length ≤ 5 := hl
  obtain ⟨a1, b1, hs⟩ := source_ok A xs 1 (by omega) (by omega)
  unfold lawA2
  simp only [src]
  simp [z]
  refine R_call hs rfl ?_
  simp
  refine R_callS (question_ok A (lt_nd w0.lt) hl5 w0.tok w0.tl (sl := sols ns ts) (fun r hr => (allRows_mem.mp (List.mem_filter.mp hr).1).1) (by have := brk_len (q := ([], [])) (ts := ts) hl5; omega)) rfl rfl fun y a b hy => ?_
  obtain ⟨qq, rfl, hq⟩ := hy
  have w := w0.th hq
  simp only [List.set_cons_zero, List.set_cons_succ, src]
  simp
  refine lc_enc (eSol ns) (fun r => !decide (rowOf (look (ns.zip r)) qq.1 ∈ qq.2)) (eSol ns) (by simp [noOw]) (z _ (by have := brk_len (q := ([], [])) (ts := ts) hl5; omega)) (fun r hr => ?_) ?_
  · have lr := (allRows_mem.mp (List.mem_filter.mp hr).1).1
    simp only [wipeC, List.set_cons_succ, List.set_cons_zero]
    simp
    refine R_call (fits_ok A qq (im_mkd (ns.zip r)) (by rw [lk_mkd]; exact tot_zip lr fun n hn => hq.1.subset hn) (small_ok w.wf.q.2.1)) rfl ?_
    rw [lk_mkd]
    simp [reC]
  · show Kset 8 _ _ _
    simp
    obtain ⟨_, hc, o, rfl, ho1, ho2⟩ := cert_ok A w
    refine ⟨rfl, ?_⟩
    refine R_call hc rfl ?_
    simp
    refine ⟨rfl, ?_⟩
    obtain ⟨y, hf, hy⟩ := ce_ok A w w0.lt
    refine R_call hf rfl ?_
    rcases hy with ⟨rfl, hno⟩ | ⟨r, rfl, hbr⟩
    · simp
      refine R_callS (order_ok A ns hl5) rfl rfl fun y a b hy => ?_
      obtain ⟨os, rfl, lo, mo⟩ := hy
      simp only [List.set_cons_zero, List.set_cons_succ, src]
      skip
      refine R_callS (made_ok A w.wf w0.tl 12 os [] (by omega) (by omega) (fun k hk => w.nok k (mo k hk)) (by simp [Nd]) (by simp; omega)) rfl rfl fun y a b hy => ?_
      obtain ⟨tm, rfl, hd, hm⟩ := hy
      simp only [List.set_cons_zero, List.set_cons_succ, src]
      simp
      refine ⟨z _ (by omega), ?_⟩
      exact q qq o tm a b _ hq ⟨fun t e => by have := ho1 t e; simpa using this, ho2⟩ (.inl ⟨rfl, hno⟩) ⟨by omega, hm⟩
    · simp
      refine R_callS (order_ok A ns hl5) rfl rfl fun y a b hy => ?_
      obtain ⟨os, rfl, lo, mo⟩ := hy
      simp only [List.set_cons_zero, List.set_cons_succ, src]
      skip
      refine R_callS (made_ok A w.wf w0.tl 12 os [] (by omega) (by omega) (fun k hk => w.nok k (mo k hk)) (by simp [Nd]) (by simp; omega)) rfl rfl fun y a b hy => ?_
      obtain ⟨tm, rfl, hd, hm⟩ := hy
      simp only [List.set_cons_zero, List.set_cons_succ, src]
      simp
      refine ⟨z _ (by omega), ?_⟩
      exact q qq o tm a b _ hq ⟨fun t e => by have := ho1 t e; simpa using this, ho2⟩ (.inr ⟨r, rfl, hbr⟩) ⟨by omega, hm⟩
end K21

set_option Elab.async false
set_option linter.all false
set_option maxRecDepth 100000
set_option maxHeartbeats 4000000
set_option autoImplicit false
namespace K21
open PySem PySem.Spec L2 DS
theorem accepts_ok (A : Ad) {ns : List Str} {ts : List Tb} {q : Tb} (w : Wf ns ts q) {t : Tr} (hd : dp t < 12) (hm : marksOk t) : Fv (F_Rows_accepts A) [.obj A.C_Rows, eTh ns ts, eT q, eTr t] (.d (.bl (shows ns ts q t (look [])))) := by
  have hf := tree_shows_ok A w 12 t [] hd hm (by simp [Nd]) (by simp)
  refine fv_of ?_
  unfold g_Rows_accepts
  show RS _ [Cell.d (.obj A.C_Rows), .d (eTh ns ts), .d (eT q), .d (eTr t)] _
  simp
  refine ⟨rfl, ?_⟩
  refine R_call hf rfl ?_
  simp [Ends1, outR]
theorem pNe_bb (b : Bool) (k : Res → Prop) : opK (oNe (.bl b) (.bl b)) k ↔ k (.d (.bl false)) := by
  have e : oNe (.bl b) (.bl b) = some (.d (.bl false)) := by cases b <;> rfl
  rw [e]
  exact opK_some _ _
theorem rng8 : rngD 0 8 = ([0, 1, 2, 3, 4, 5, 6, 7] : List Int).map D.int := rfl
theorem rng6 : rngD 0 6 = ([0, 1, 2, 3, 4, 5] : List Int).map D.int := rfl
theorem unmapT {d : Nat} {ys : List D} (h : ∀ y ∈ ys, treeD d y) : ∃ us : List Tr, ys = us.map eTr ∧ ∀ t ∈ us, dp t ≤ d ∧ marksOk t := by
  exact unmap eTr (fun t => dp t ≤ d ∧ marksOk t) ys fun y hy => by
    obtain ⟨t, h1, h2⟩ := h y hy
    exact ⟨t, h2, h1⟩
theorem law_3 (A : Ad) (xs : List Int) (hx : xs.length ≤ 63) {ns : List Str} {ts : List Tb} {q : Tb} (w0 : Th0 ns ts) (hq : tabOk ns q) {tm : Tr} (htm : dp tm ≤ 5 ∧ marksOk tm) {c2 c6 c8 c10 c11 : Cell} {L : List Tr} (hL : ∀ t ∈ L, dp t ≤ 10 ∧ marksOk t) (hLl : L.length ≤ 100) :
    RS (lawC A) [.d (.scr xs), .d (.obj A.C_Rows), c2, .d (eN ns), .d (eTh ns ts), .un, c6, .d (eT q), c8, .un, c10, c11, .d (eTr tm), .o false (.l (L.map eTr)), .un, .un] (Ends1 1 (.d (.bl true))) := by
  have z : ∀ k, k < 1000 → k ≤ sizeLine := fun k h => small_ok h
  have w := w0.th hq
  have hl5 : ns.length ≤ 5 := w.nl
  have htl := w.tl
  obtain ⟨a1, b1, hs⟩ := source_ok A xs 3 (by omega) (by omega)
  unfold lawC
  simp
  refine R_call hs rfl ?_
  have hb : eTh ns ts = .tup [eN ns, .tup (ts.map eT)] := rfl
  simp [rng8, rng6]
  refine lc_all (as := ([0, 1, 2, 3, 4, 5, 6, 7] : List Int)) D.int (fun c => ∃ a b, c = [.d (.scr xs), .d (.obj A.C_Rows), src false a b, .d (eN ns), .d (eTh ns ts), .un, c6, .d (eT q), c8, .un, c10, c11, .d (eTr tm), .o false (.l (L.map eTr)), .un, .un]) (treeD (dp tm + 1)) (z _ (by simp)) (fun v hv c i => ?_) (fun ys c hy hl i => ?_) ⟨a1, b1, rfl⟩
  · obtain ⟨a, b, rfl⟩ := i
    refine ⟨by simp [noOw], ?_⟩
    simp only [wipeC, List.set_cons_succ, List.set_cons_zero, src]
    simp [hb]
    refine R_callS (changed_ok A ns ts.length hl5 w.nok htl 12 tm 5 (by omega) htm.2) rfl rfl fun y a b hy => ?_
    obtain ⟨t, rfl, hd2, hm2⟩ := hy
    simp only [List.set_cons_zero, List.set_cons_succ, src]
    simp [reC]
    exact ⟨t, rfl, hd2, hm2⟩
  · obtain ⟨a, b, rfl⟩ := i
    obtain ⟨us, rfl, hus⟩ := unmapT hy
    simp at hl
    simp only [src]
    simp
    refine ⟨z _ (by omega), ?_⟩
    refine lc_all (as := ([0, 1, 2, 3, 4, 5] : List Int)) D.int (fun c => ∃ a b, c = [.d (.scr xs), .d (.obj A.C_Rows), src false a b, .d (eN ns), .d (eTh ns ts), .un, c6, .d (eT q), c8, .un, c10, c11, .d (eTr tm), .o false (.l (L.map eTr ++ us.map eTr)), .un, .un]) (treeD 2) (z _ (by simp)) (fun v hv c i => ?_) (fun ys c hy hl i => ?_) ⟨a, b, rfl⟩
    · obtain ⟨a, b, rfl⟩ := i
      refine ⟨by simp [noOw], ?_⟩
      simp only [wipeC, List.set_cons_succ, List.set_cons_zero, src]
      simp [hb]
      refine R_callS (grown_ok A ns ts.length hl5 w.nok htl 12 2 (by omega) (by omega)) rfl rfl fun y a b hy => ?_
      obtain ⟨t, rfl, hd2, hm2⟩ := hy
      simp only [List.set_cons_zero, List.set_cons_succ, src]
      simp [reC]
      exact ⟨t, rfl, hd2, hm2⟩
    · obtain ⟨a, b, rfl⟩ := i
      obtain ⟨vs, rfl, hvs⟩ := unmapT hy
      simp at hl
      simp only [src]
      simp
      refine ⟨z _ (by omega), ?_⟩
      have eL : L.map eTr ++ (us.map eTr ++ vs.map eTr) = (L ++ (us ++ vs)).map eTr := by simp
      rw [eL]
      have hall : ∀ t ∈ L ++ (us ++ vs), dp t < 12 ∧ marksOk t := by
        intro t ht
        rcases List.mem_append.mp ht with h | h
        · have := hL t h; exact ⟨by omega, this.2⟩
        · rcases List.mem_append.mp h with h | h
          · have := hus t h; exact ⟨by omega, this.2⟩
          · have := hvs t h; exact ⟨by omega, this.2⟩
      generalize L ++ (us ++ vs) = M at hall
      refine RL_fold eTr (fun zs c => ∃ a b c14 c15, c = [.d (.scr xs), .d (.obj A.C_Rows), src false a b, .d (eN ns), .d (eTh ns ts), .un, c6, .d (eT q), c8, .un, c10, c11, .d (eTr tm), .d (.lst (M.map eTr)), c14, c15]) _ (fun zs t ys c e i => ?_) ⟨a, b, _, _, rfl⟩ (fun c i => ?_)
      · obtain ⟨a, b, c14, c15, rfl⟩ := i
        have ht := hall t (by rw [e]; simp)
        simp only [src]
        simp
        refine ⟨rfl, ?_⟩
        refine R_call (accepts_ok A w.wf ht.1 ht.2) rfl ?_
        simp [asB_bl]
        refine R_call (rows_show_ok A w.wf 12 t [] ht.1 ht.2 (by simp [Nd]) (by simp)) rfl ?_
        simp
        refine (pNe_bb _ _).mpr ?_
        simp [asB_bl, turn]
      · obtain ⟨a, b, c14, c15, rfl⟩ := i
        simp [aft, Ends1, outR]
end K21

set_option Elab.async false
set_option linter.all false
set_option maxRecDepth 100000
set_option maxHeartbeats 4000000
set_option autoImplicit false
namespace K21
open PySem PySem.Spec L2 DS
theorem law_4 (A : Ad) (xs : List Int) (hx : xs.length ≤ 63) {ns : List Str} {ts : List Tb} {q : Tb} (w0 : Th0 ns ts) (hq : tabOk ns q) {o : Option Tr} {tm : Tr} {a b : Int} {fc : Cell}
    (ho : (∀ t, o = some t → shows ns ts q t (look []) = true ∧ dp t ≤ ns.length ∧ marksOk t) ∧ (o = none → ∃ r, breaksR ns ts q r))
    (hf : (fc = .d .non ∧ ∀ r, ¬ breaksR ns ts q r) ∨ ∃ r, fc = .o false (.k (mkd (ns.zip r))) ∧ breaksR ns ts q r) (htm : dp tm ≤ 5 ∧ marksOk tm) :
    RS (lawB A) [.d (.scr xs), .d (.obj A.C_Rows), src false a b, .d (eN ns), .d (eTh ns ts), .un, .d (.lst ((sols ns ts).map (eSol ns))), .d (eT q), .d (.lst ((brk ns ts q).map (eSol ns))), .un, .d (eO o), fc, .d (eTr tm), .o false (.l [eTr tm]), .un, .un] (Ends1 1 (.d (.bl true))) := by
  have z : ∀ k, k < 1000 → k ≤ sizeLine := fun k h => small_ok h
  have w := w0.th hq
  have hl5 : ns.length ≤ 5 := w.nl
  have htl := w.tl
  have hlC := fun (c2 c6 c8 c10 c11 : Cell) (L : List Tr) (h1 : ∀ t ∈ L, dp t ≤ 10 ∧ marksOk t) (h2 : L.length ≤ 100) => law_3 A xs hx w0 hq htm (c2 := c2) (c6 := c6) (c8 := c8) (c10 := c10) (c11 := c11) h1 h2
  unfold lawB
  simp only [src]
  simp [asB_bl]
  rcases hf with ⟨rfl, hno⟩ | ⟨r, rfl, hbr⟩
  · have he : brk ns ts q = [] := List.eq_nil_iff_forall_not_mem.mpr fun r hr => hno r (brk_mem.mp hr)
    obtain ⟨t, rfl⟩ : ∃ t, o = some t := by
      cases o with
      | none => obtain ⟨r, hr⟩ := ho.2 rfl; exact absurd hr (hno r)
      | some t => exact ⟨t, rfl⟩
    obtain ⟨hs, hd, hm⟩ := ho.1 t rfl
    have hb : eTh ns ts = .tup [eN ns, .tup (ts.map eT)] := rfl
    have hb2 : ∀ k, opK (oLen [eN ns]) k ↔ k (.d (.int (ns.length : Int))) := fun k => by
      have : eN ns = .tup (ns.map .str) := rfl
      rw [this, pLen_t, List.length_map]
    rw [he]
    simp [eO, asB_bl, ↓hb2]
    refine R_call (is_tree_ok A 12 t ns.length (by omega) hd (by omega)) rfl ?_
    simp
    refine R_call (rows_show_ok A w.wf 12 t [] (by omega) hm (by simp [Nd]) (by simp)) rfl ?_
    rw [hs]
    simp
    refine ⟨by have := z 2 (by omega); omega, ?_⟩
    obtain ⟨a1, b1, hsrc⟩ := source_ok A xs 2 (by omega) (by omega)
    refine R_call hsrc rfl ?_
    simp [rng8]
    refine lc_all (as := ([0, 1, 2, 3, 4, 5, 6, 7] : List Int)) D.int (fun c => ∃ a b, c = [.d (.scr xs), .d (.obj A.C_Rows), src false a b, .d (eN ns), .d (eTh ns ts), .un, .d (.lst ((sols ns ts).map (eSol ns))), .d (eT q), .d (.lst []), .un, .d (eTr t), .d .non, .d (eTr tm), .o false (.l [eTr tm, eTr t]), .un, .un]) (treeD (dp t + 1)) (z _ (by simp)) (fun v hv c i => ?_) (fun ys c hy hl i => ?_) ⟨a1, b1, rfl⟩
    · obtain ⟨a, b, rfl⟩ := i
      refine ⟨by simp [noOw], ?_⟩
      simp only [wipeC, List.set_cons_succ, List.set_cons_zero, src]
      simp [hb]
      refine R_callS (changed_ok A ns ts.length hl5 w.nok htl 12 t 5 (by omega) hm) rfl rfl fun y a b hy => ?_
      obtain ⟨u, rfl, hd2, hm2⟩ := hy
      simp only [List.set_cons_zero, List.set_cons_succ, src]
      simp [reC]
      exact ⟨u, rfl, hd2, hm2⟩
    · obtain ⟨a, b, rfl⟩ := i
      obtain ⟨us, rfl, hus⟩ := unmapT hy
      simp at hl
      simp only [src]
      simp
      refine ⟨z _ (by omega), ?_⟩
      exact hlC _ _ _ _ _ (tm :: t :: us) (fun u hu => by
        rcases List.mem_cons.mp hu with rfl | hu
        · exact ⟨by omega, htm.2⟩
        · rcases List.mem_cons.mp hu with rfl | hu
          · exact ⟨by omega, hm⟩
          · have := hus u hu; exact ⟨by omega, this.2⟩) (by simp; omega)
  · have hne : brk ns ts q ≠ [] := fun e => by
      have := brk_mem.mpr hbr
      rw [e] at this
      cases this
    have hp : 0 < (brk ns ts q).length := List.length_pos_iff.mpr hne
    have hn : o = none := by
      cases o with
      | none => rfl
      | some t =>
        have h1 := (ho.1 t rfl).1
        rw [shows_sound w hbr t (look []) (fun n v e => by cases e)] at h1
        cases h1
    subst hn
    have lr := (allRows_mem.mp hbr.1).1
    simp [hp, eO, asB_bl]
    refine (R_bor_o rfl).mpr ?_
    simp only [lent, List.map_cons, List.map_nil, msk, List.set_cons_succ, List.set_cons_zero, fz_k]
    simp
    refine R_call (breaks_ok A w hbr) rfl ?_
    simp [flat, mkd_len]
    refine ⟨by have := z (ns.length + 1) (by omega); omega, rfl, ?_⟩
    obtain ⟨y, hf, hy⟩ := ce_ok A w w0.lt
    refine R_call hf rfl ?_
    rcases hy with ⟨rfl, hno⟩ | ⟨r2, rfl, hbr2⟩
    · exact absurd hbr (hno r)
    · simp
      refine R_call (breaks_ok A w hbr2) rfl ?_
      simp
      exact hlC _ _ _ _ _ [tm] (fun u hu => by rw [List.mem_singleton.mp hu]; exact ⟨by omega, htm.2⟩) (by simp)
theorem law_true : ∀ (A : Ad) (ns : List Int), ns.length ≤ 63 → ∃ cs', F_law A [.d (.scr ns)] = some (.d (.bl true), cs') := by
  intro A xs hx
  have h : Fv (F_law A) [.scr xs] (.d (.bl true)) := by
    refine fv_of ?_
    show RS _ [Cell.d (.scr xs), .un, .un, .un, .un, .un, .un, .un, .un, .un, .un, .un, .un, .un, .un, .un] _
    refine law_1 A xs hx fun ns ts a b w0 => ?_
    exact law_2 A xs hx w0 fun q o tm a b fc hq ho hf htm => law_4 A xs hx w0 hq ho hf htm
  exact ⟨_, h.1⟩
end K21

namespace K21
open PySem PySem.Spec L2 DS
/-! ### the end -/
def spLaw (K : PySem.W.Frag) : Sp := fun vs H Q _ => ∃ (a : Addr) (ns : List Int), vs = [.ref a] ∧ SqL K H a (ns.map V.int) ∧ ns.length ≤ 63 ∧ ∀ H', Q (.bl true) H'
theorem all_mk {l : PySem.W.OpenLaw} {w : World} {K : PySem.W.Frag} {h : Heap} {mg : Str → Option Value} {fa : Addr} (X : K.In h) (G : h.Ns mainGlobals mg) (hfa : mg "law" = some (.ref fa))
    {C_Rows : Addr}
    {va_VALUES : Addr} {vo_VALUES : Option Addr} {vi_VALUES : Array Value} {vn_VALUES : Nat} {vs_VALUES : Array (Option Value)}
    {od0 an0 : Option Addr} {sl0 : Array (Option Value)} {oc0 kV0 dc0 pm0 cd0 ct0 : Value} {f0 : Addr}
    {od1 an1 : Option Addr} {sl1 : Array (Option Value)} {oc1 kV1 dc1 pm1 cd1 ct1 : Value} {f1 : Addr}
    {od2 an2 : Option Addr} {sl2 : Array (Option Value)} {oc2 kV2 dc2 pm2 cd2 ct2 : Value} {f2 : Addr}
    {od3 an3 : Option Addr} {sl3 : Array (Option Value)} {oc3 kV3 dc3 pm3 cd3 ct3 : Value} {f3 : Addr}
    {od4 an4 : Option Addr} {sl4 : Array (Option Value)} {oc4 kV4 dc4 pm4 cd4 ct4 : Value} {f4 : Addr}
    {od5 an5 : Option Addr} {sl5 : Array (Option Value)} {oc5 kV5 dc5 pm5 cd5 ct5 : Value} {f5 : Addr}
    {od6 an6 : Option Addr} {sl6 : Array (Option Value)} {oc6 kV6 dc6 pm6 cd6 ct6 : Value} {f6 : Addr}
    {od7 an7 : Option Addr} {sl7 : Array (Option Value)} {oc7 kV7 dc7 pm7 cd7 ct7 : Value} {f7 : Addr}
    {od8 an8 : Option Addr} {sl8 : Array (Option Value)} {oc8 kV8 dc8 pm8 cd8 ct8 : Value} {f8 : Addr}
    {od9 an9 : Option Addr} {sl9 : Array (Option Value)} {oc9 kV9 dc9 pm9 cd9 ct9 : Value} {f9 : Addr}
    {od10 an10 : Option Addr} {sl10 : Array (Option Value)} {oc10 kV10 dc10 pm10 cd10 ct10 : Value} {f10 : Addr}
    {od11 an11 : Option Addr} {sl11 : Array (Option Value)} {oc11 kV11 dc11 pm11 cd11 ct11 : Value} {f11 : Addr}
    {od12 an12 : Option Addr} {sl12 : Array (Option Value)} {oc12 kV12 dc12 pm12 cd12 ct12 : Value} {f12 : Addr}
    {od13 an13 : Option Addr} {sl13 : Array (Option Value)} {oc13 kV13 dc13 pm13 cd13 ct13 : Value} {f13 : Addr}
    {od14 an14 : Option Addr} {sl14 : Array (Option Value)} {oc14 kV14 dc14 pm14 cd14 ct14 : Value} {f14 : Addr}
    {od15 an15 : Option Addr} {sl15 : Array (Option Value)} {oc15 kV15 dc15 pm15 cd15 ct15 : Value} {f15 : Addr}
    {od16 an16 : Option Addr} {sl16 : Array (Option Value)} {oc16 kV16 dc16 pm16 cd16 ct16 : Value} {f16 : Addr}
    {od17 an17 : Option Addr} {sl17 : Array (Option Value)} {oc17 kV17 dc17 pm17 cd17 ct17 : Value} {f17 : Addr}
    {od18 an18 : Option Addr} {sl18 : Array (Option Value)} {oc18 kV18 dc18 pm18 cd18 ct18 : Value} {f18 : Addr}
    {od19 an19 : Option Addr} {sl19 : Array (Option Value)} {oc19 kV19 dc19 pm19 cd19 ct19 : Value} {f19 : Addr}
    {od20 an20 : Option Addr} {sl20 : Array (Option Value)} {oc20 kV20 dc20 pm20 cd20 ct20 : Value} {f20 : Addr}
    {od21 an21 : Option Addr} {sl21 : Array (Option Value)} {oc21 kV21 dc21 pm21 cd21 ct21 : Value} {f21 : Addr}
    {od22 an22 : Option Addr} {sl22 : Array (Option Value)} {oc22 kV22 dc22 pm22 cd22 ct22 : Value} {f22 : Addr}
    {od23 an23 : Option Addr} {sl23 : Array (Option Value)} {oc23 kV23 dc23 pm23 cd23 ct23 : Value} {f23 : Addr}
    {od24 an24 : Option Addr} {sl24 : Array (Option Value)} {oc24 kV24 dc24 pm24 cd24 ct24 : Value} {f24 : Addr}
    {od25 an25 : Option Addr} {sl25 : Array (Option Value)} {oc25 kV25 dc25 pm25 cd25 ct25 : Value} {f25 : Addr}
    {od26 an26 : Option Addr} {sl26 : Array (Option Value)} {oc26 kV26 dc26 pm26 cd26 ct26 : Value} {f26 : Addr}
    {od27 an27 : Option Addr} {sl27 : Array (Option Value)} {oc27 kV27 dc27 pm27 cd27 ct27 : Value} {f27 : Addr}
    {od28 an28 : Option Addr} {sl28 : Array (Option Value)} {oc28 kV28 dc28 pm28 cd28 ct28 : Value} {f28 : Addr}
    {od29 an29 : Option Addr} {sl29 : Array (Option Value)} {oc29 kV29 dc29 pm29 cd29 ct29 : Value} {f29 : Addr}
    {od30 an30 : Option Addr} {sl30 : Array (Option Value)} {oc30 kV30 dc30 pm30 cd30 ct30 : Value} {f30 : Addr}
    {od31 an31 : Option Addr} {sl31 : Array (Option Value)} {oc31 kV31 dc31 pm31 cd31 ct31 : Value} {f31 : Addr}
    {od32 an32 : Option Addr} {sl32 : Array (Option Value)} {oc32 kV32 dc32 pm32 cd32 ct32 : Value} {f32 : Addr}
    (aC_Rows : PySem.W.nsIn K mainGlobals "Rows" = some (some (.ref C_Rows)))
    (pg_Rows : PySem.W.plainGet K C_Rows Str.empty = true) (hd_Rows : PySem.W.hasDictIn K C_Rows = true) (po_Rows : PySem.W.plainOver K C_Rows = true) (sa_Rows : PySem.W.findIn K (.ref C_Rows) "__setattr__" = some (some (.builtin "object.__setattr__")))
    (mk_Rows : PySem.W.makesIn K C_Rows = true) (in_Rows : PySem.W.findIn K (.ref C_Rows) "__init__" = some (some (.builtin "object.__init__"))) (tp_Rows : PySem.W.mroIn K C_Rows (.type "object") = some true) (kc_Rows : PySem.W.keepIn K (.ref C_Rows) = true)
    (v_VALUES : PySem.W.nsIn K mainGlobals "VALUES" = some (some (.ref va_VALUES))) (w_VALUES : K.lookup va_VALUES = some ⟨.type "tuple", vo_VALUES, .seq vi_VALUES vn_VALUES, vs_VALUES⟩) (e_VALUES : vi_VALUES.toList.map absV = cv_VALUES.map some)
    (a0 : PySem.W.nsIn K mainGlobals "_law_source" = some (some (.ref f0)))
    (l0 : K.lookup f0 = some ⟨oc0, od0, .func (PySem.W.fnOf "_law_source" "_law_source" (defArgs s__law_source) (defBody s__law_source) (defScope s__law_source) .none kV0 dc0 pm0 an0 cd0 ct0), sl0⟩)
    (c0 : PySem.W.codeIn K cd0 "_law_source" = true) (k0 : PySem.W.keepIn K (.ref f0) = true)
    (a1 : PySem.W.nsIn K mainGlobals "_law_all_rows" = some (some (.ref f1)))
    (l1 : K.lookup f1 = some ⟨oc1, od1, .func (PySem.W.fnOf "_law_all_rows" "_law_all_rows" (defArgs s__law_all_rows) (defBody s__law_all_rows) (defScope s__law_all_rows) .none kV1 dc1 pm1 an1 cd1 ct1), sl1⟩)
    (c1 : PySem.W.codeIn K cd1 "_law_all_rows" = true) (k1 : PySem.W.keepIn K (.ref f1) = true)
    (a2 : PySem.W.nsIn K mainGlobals "_law_values" = some (some (.ref f2)))
    (l2 : K.lookup f2 = some ⟨oc2, od2, .func (PySem.W.fnOf "_law_values" "_law_values" (defArgs s__law_values) (defBody s__law_values) (defScope s__law_values) .none kV2 dc2 pm2 an2 cd2 ct2), sl2⟩)
    (c2 : PySem.W.codeIn K cd2 "_law_values" = true) (k2 : PySem.W.keepIn K (.ref f2) = true)
    (a3 : PySem.W.nsIn K mainGlobals "_law_fits" = some (some (.ref f3)))
    (l3 : K.lookup f3 = some ⟨oc3, od3, .func (PySem.W.fnOf "_law_fits" "_law_fits" (defArgs s__law_fits) (defBody s__law_fits) (defScope s__law_fits) .none kV3 dc3 pm3 an3 cd3 ct3), sl3⟩)
    (c3 : PySem.W.codeIn K cd3 "_law_fits" = true) (k3 : PySem.W.keepIn K (.ref f3) = true)
    (a4 : PySem.W.nsIn K mainGlobals "_law_solutions" = some (some (.ref f4)))
    (l4 : K.lookup f4 = some ⟨oc4, od4, .func (PySem.W.fnOf "_law_solutions" "_law_solutions" (defArgs s__law_solutions) (defBody s__law_solutions) (defScope s__law_solutions) .none kV4 dc4 pm4 an4 cd4 ct4), sl4⟩)
    (c4 : PySem.W.codeIn K cd4 "_law_solutions" = true) (k4 : PySem.W.keepIn K (.ref f4) = true)
    (a5 : PySem.W.nsIn K mainGlobals "_law_draw" = some (some (.ref f5)))
    (l5 : K.lookup f5 = some ⟨oc5, od5, .func (PySem.W.fnOf "_law_draw" "_law_draw" (defArgs s__law_draw) (defBody s__law_draw) (defScope s__law_draw) .none kV5 dc5 pm5 an5 cd5 ct5), sl5⟩)
    (c5 : PySem.W.codeIn K cd5 "_law_draw" = true) (k5 : PySem.W.keepIn K (.ref f5) = true)
    (a6 : PySem.W.nsIn K mainGlobals "_law_some" = some (some (.ref f6)))
    (l6 : K.lookup f6 = some ⟨oc6, od6, .func (PySem.W.fnOf "_law_some" "_law_some" (defArgs s__law_some) (defBody s__law_some) (defScope s__law_some) .none kV6 dc6 pm6 an6 cd6 ct6), sl6⟩)
    (c6 : PySem.W.codeIn K cd6 "_law_some" = true) (k6 : PySem.W.keepIn K (.ref f6) = true)
    (a7 : PySem.W.nsIn K mainGlobals "_law_table" = some (some (.ref f7)))
    (l7 : K.lookup f7 = some ⟨oc7, od7, .func (PySem.W.fnOf "_law_table" "_law_table" (defArgs s__law_table) (defBody s__law_table) (defScope s__law_table) .none kV7 dc7 pm7 an7 cd7 ct7), sl7⟩)
    (c7 : PySem.W.codeIn K cd7 "_law_table" = true) (k7 : PySem.W.keepIn K (.ref f7) = true)
    (a8 : PySem.W.nsIn K mainGlobals "_law_question" = some (some (.ref f8)))
    (l8 : K.lookup f8 = some ⟨oc8, od8, .func (PySem.W.fnOf "_law_question" "_law_question" (defArgs s__law_question) (defBody s__law_question) (defScope s__law_question) .none kV8 dc8 pm8 an8 cd8 ct8), sl8⟩)
    (c8 : PySem.W.codeIn K cd8 "_law_question" = true) (k8 : PySem.W.keepIn K (.ref f8) = true)
    (a9 : PySem.W.findIn K (.ref C_Rows) "holds" = some (some (.ref f9))) (i9 : PySem.W.isFn K (.ref f9) = true)
    (l9 : K.lookup f9 = some ⟨oc9, od9, .func (PySem.W.fnOf "holds" "Rows.holds" (defArgs s_Rows_holds) (defBody s_Rows_holds) (defScope s_Rows_holds) .none kV9 dc9 pm9 an9 cd9 ct9), sl9⟩)
    (c9 : PySem.W.codeIn K cd9 "Rows.holds" = true) (k9 : PySem.W.keepIn K (.ref f9) = true)
    (a10 : PySem.W.nsIn K mainGlobals "agrees" = some (some (.ref f10)))
    (l10 : K.lookup f10 = some ⟨oc10, od10, .func (PySem.W.fnOf "agrees" "agrees" (defArgs s_agrees) (defBody s_agrees) (defScope s_agrees) .none kV10 dc10 pm10 an10 cd10 ct10), sl10⟩)
    (c10 : PySem.W.codeIn K cd10 "agrees" = true) (k10 : PySem.W.keepIn K (.ref f10) = true)
    (a11 : PySem.W.nsIn K mainGlobals "can_hold" = some (some (.ref f11)))
    (l11 : K.lookup f11 = some ⟨oc11, od11, .func (PySem.W.fnOf "can_hold" "can_hold" (defArgs s_can_hold) (defBody s_can_hold) (defScope s_can_hold) .none kV11 dc11 pm11 an11 cd11 ct11), sl11⟩)
    (c11 : PySem.W.codeIn K cd11 "can_hold" = true) (k11 : PySem.W.keepIn K (.ref f11) = true)
    (a12 : PySem.W.findIn K (.ref C_Rows) "tree_of" = some (some (.ref f12))) (i12 : PySem.W.isFn K (.ref f12) = true)
    (l12 : K.lookup f12 = some ⟨oc12, od12, .func (PySem.W.fnOf "tree_of" "Rows.tree_of" (defArgs s_Rows_tree_of) (defBody s_Rows_tree_of) (defScope s_Rows_tree_of) .none kV12 dc12 pm12 an12 cd12 ct12), sl12⟩)
    (c12 : PySem.W.codeIn K cd12 "Rows.tree_of" = true) (k12 : PySem.W.keepIn K (.ref f12) = true)
    (a13 : PySem.W.findIn K (.ref C_Rows) "certificate" = some (some (.ref f13))) (i13 : PySem.W.isFn K (.ref f13) = true)
    (l13 : K.lookup f13 = some ⟨oc13, od13, .func (PySem.W.fnOf "certificate" "Rows.certificate" (defArgs s_Rows_certificate) (defBody s_Rows_certificate) (defScope s_Rows_certificate) .none kV13 dc13 pm13 an13 cd13 ct13), sl13⟩)
    (c13 : PySem.W.codeIn K cd13 "Rows.certificate" = true) (k13 : PySem.W.keepIn K (.ref f13) = true)
    (a14 : PySem.W.nsIn K mainGlobals "merge_names" = some (some (.ref f14)))
    (l14 : K.lookup f14 = some ⟨oc14, od14, .func (PySem.W.fnOf "merge_names" "merge_names" (defArgs s_merge_names) (defBody s_merge_names) (defScope s_merge_names) .none kV14 dc14 pm14 an14 cd14 ct14), sl14⟩)
    (c14 : PySem.W.codeIn K cd14 "merge_names" = true) (k14 : PySem.W.keepIn K (.ref f14) = true)
    (a15 : PySem.W.nsIn K mainGlobals "join_tables" = some (some (.ref f15)))
    (l15 : K.lookup f15 = some ⟨oc15, od15, .func (PySem.W.fnOf "join_tables" "join_tables" (defArgs s_join_tables) (defBody s_join_tables) (defScope s_join_tables) .none kV15 dc15 pm15 an15 cd15 ct15), sl15⟩)
    (c15 : PySem.W.codeIn K cd15 "join_tables" = true) (k15 : PySem.W.keepIn K (.ref f15) = true)
    (a16 : PySem.W.nsIn K mainGlobals "all_rows" = some (some (.ref f16)))
    (l16 : K.lookup f16 = some ⟨oc16, od16, .func (PySem.W.fnOf "all_rows" "all_rows" (defArgs s_all_rows) (defBody s_all_rows) (defScope s_all_rows) .none kV16 dc16 pm16 an16 cd16 ct16), sl16⟩)
    (c16 : PySem.W.codeIn K cd16 "all_rows" = true) (k16 : PySem.W.keepIn K (.ref f16) = true)
    (a17 : PySem.W.findIn K (.ref C_Rows) "normal" = some (some (.ref f17))) (i17 : PySem.W.isFn K (.ref f17) = true)
    (l17 : K.lookup f17 = some ⟨oc17, od17, .func (PySem.W.fnOf "normal" "Rows.normal" (defArgs s_Rows_normal) (defBody s_Rows_normal) (defScope s_Rows_normal) .none kV17 dc17 pm17 an17 cd17 ct17), sl17⟩)
    (c17 : PySem.W.codeIn K cd17 "Rows.normal" = true) (k17 : PySem.W.keepIn K (.ref f17) = true)
    (a18 : PySem.W.findIn K (.ref C_Rows) "counterexample" = some (some (.ref f18))) (i18 : PySem.W.isFn K (.ref f18) = true)
    (l18 : K.lookup f18 = some ⟨oc18, od18, .func (PySem.W.fnOf "counterexample" "Rows.counterexample" (defArgs s_Rows_counterexample) (defBody s_Rows_counterexample) (defScope s_Rows_counterexample) .none kV18 dc18 pm18 an18 cd18 ct18), sl18⟩)
    (c18 : PySem.W.codeIn K cd18 "Rows.counterexample" = true) (k18 : PySem.W.keepIn K (.ref f18) = true)
    (a19 : PySem.W.nsIn K mainGlobals "_law_can_hold" = some (some (.ref f19)))
    (l19 : K.lookup f19 = some ⟨oc19, od19, .func (PySem.W.fnOf "_law_can_hold" "_law_can_hold" (defArgs s__law_can_hold) (defBody s__law_can_hold) (defScope s__law_can_hold) .none kV19 dc19 pm19 an19 cd19 ct19), sl19⟩)
    (c19 : PySem.W.codeIn K cd19 "_law_can_hold" = true) (k19 : PySem.W.keepIn K (.ref f19) = true)
    (a20 : PySem.W.nsIn K mainGlobals "_law_made" = some (some (.ref f20)))
    (l20 : K.lookup f20 = some ⟨oc20, od20, .func (PySem.W.fnOf "_law_made" "_law_made" (defArgs s__law_made) (defBody s__law_made) (defScope s__law_made) .none kV20 dc20 pm20 an20 cd20 ct20), sl20⟩)
    (c20 : PySem.W.codeIn K cd20 "_law_made" = true) (k20 : PySem.W.keepIn K (.ref f20) = true)
    (a21 : PySem.W.nsIn K mainGlobals "_law_order" = some (some (.ref f21)))
    (l21 : K.lookup f21 = some ⟨oc21, od21, .func (PySem.W.fnOf "_law_order" "_law_order" (defArgs s__law_order) (defBody s__law_order) (defScope s__law_order) .none kV21 dc21 pm21 an21 cd21 ct21), sl21⟩)
    (c21 : PySem.W.codeIn K cd21 "_law_order" = true) (k21 : PySem.W.keepIn K (.ref f21) = true)
    (a22 : PySem.W.findIn K (.ref C_Rows) "tree_shows" = some (some (.ref f22))) (i22 : PySem.W.isFn K (.ref f22) = true)
    (l22 : K.lookup f22 = some ⟨oc22, od22, .func (PySem.W.fnOf "tree_shows" "Rows.tree_shows" (defArgs s_Rows_tree_shows) (defBody s_Rows_tree_shows) (defScope s_Rows_tree_shows) .none kV22 dc22 pm22 an22 cd22 ct22), sl22⟩)
    (c22 : PySem.W.codeIn K cd22 "Rows.tree_shows" = true) (k22 : PySem.W.keepIn K (.ref f22) = true)
    (a23 : PySem.W.findIn K (.ref C_Rows) "accepts" = some (some (.ref f23))) (i23 : PySem.W.isFn K (.ref f23) = true)
    (l23 : K.lookup f23 = some ⟨oc23, od23, .func (PySem.W.fnOf "accepts" "Rows.accepts" (defArgs s_Rows_accepts) (defBody s_Rows_accepts) (defScope s_Rows_accepts) .none kV23 dc23 pm23 an23 cd23 ct23), sl23⟩)
    (c23 : PySem.W.codeIn K cd23 "Rows.accepts" = true) (k23 : PySem.W.keepIn K (.ref f23) = true)
    (a24 : PySem.W.nsIn K mainGlobals "_law_is_int" = some (some (.ref f24)))
    (l24 : K.lookup f24 = some ⟨oc24, od24, .func (PySem.W.fnOf "_law_is_int" "_law_is_int" (defArgs s__law_is_int) (defBody s__law_is_int) (defScope s__law_is_int) .none kV24 dc24 pm24 an24 cd24 ct24), sl24⟩)
    (c24 : PySem.W.codeIn K cd24 "_law_is_int" = true) (k24 : PySem.W.keepIn K (.ref f24) = true)
    (a25 : PySem.W.nsIn K mainGlobals "_law_breaks" = some (some (.ref f25)))
    (l25 : K.lookup f25 = some ⟨oc25, od25, .func (PySem.W.fnOf "_law_breaks" "_law_breaks" (defArgs s__law_breaks) (defBody s__law_breaks) (defScope s__law_breaks) .none kV25 dc25 pm25 an25 cd25 ct25), sl25⟩)
    (c25 : PySem.W.codeIn K cd25 "_law_breaks" = true) (k25 : PySem.W.keepIn K (.ref f25) = true)
    (a26 : PySem.W.nsIn K mainGlobals "_law_rows_show" = some (some (.ref f26)))
    (l26 : K.lookup f26 = some ⟨oc26, od26, .func (PySem.W.fnOf "_law_rows_show" "_law_rows_show" (defArgs s__law_rows_show) (defBody s__law_rows_show) (defScope s__law_rows_show) .none kV26 dc26 pm26 an26 cd26 ct26), sl26⟩)
    (c26 : PySem.W.codeIn K cd26 "_law_rows_show" = true) (k26 : PySem.W.keepIn K (.ref f26) = true)
    (a27 : PySem.W.nsIn K mainGlobals "_law_leaf" = some (some (.ref f27)))
    (l27 : K.lookup f27 = some ⟨oc27, od27, .func (PySem.W.fnOf "_law_leaf" "_law_leaf" (defArgs s__law_leaf) (defBody s__law_leaf) (defScope s__law_leaf) .none kV27 dc27 pm27 an27 cd27 ct27), sl27⟩)
    (c27 : PySem.W.codeIn K cd27 "_law_leaf" = true) (k27 : PySem.W.keepIn K (.ref f27) = true)
    (a28 : PySem.W.nsIn K mainGlobals "_law_spoilt" = some (some (.ref f28)))
    (l28 : K.lookup f28 = some ⟨oc28, od28, .func (PySem.W.fnOf "_law_spoilt" "_law_spoilt" (defArgs s__law_spoilt) (defBody s__law_spoilt) (defScope s__law_spoilt) .none kV28 dc28 pm28 an28 cd28 ct28), sl28⟩)
    (c28 : PySem.W.codeIn K cd28 "_law_spoilt" = true) (k28 : PySem.W.keepIn K (.ref f28) = true)
    (a29 : PySem.W.nsIn K mainGlobals "_law_changed" = some (some (.ref f29)))
    (l29 : K.lookup f29 = some ⟨oc29, od29, .func (PySem.W.fnOf "_law_changed" "_law_changed" (defArgs s__law_changed) (defBody s__law_changed) (defScope s__law_changed) .none kV29 dc29 pm29 an29 cd29 ct29), sl29⟩)
    (c29 : PySem.W.codeIn K cd29 "_law_changed" = true) (k29 : PySem.W.keepIn K (.ref f29) = true)
    (a30 : PySem.W.nsIn K mainGlobals "_law_grown" = some (some (.ref f30)))
    (l30 : K.lookup f30 = some ⟨oc30, od30, .func (PySem.W.fnOf "_law_grown" "_law_grown" (defArgs s__law_grown) (defBody s__law_grown) (defScope s__law_grown) .none kV30 dc30 pm30 an30 cd30 ct30), sl30⟩)
    (c30 : PySem.W.codeIn K cd30 "_law_grown" = true) (k30 : PySem.W.keepIn K (.ref f30) = true)
    (a31 : PySem.W.nsIn K mainGlobals "_law_is_tree" = some (some (.ref f31)))
    (l31 : K.lookup f31 = some ⟨oc31, od31, .func (PySem.W.fnOf "_law_is_tree" "_law_is_tree" (defArgs s__law_is_tree) (defBody s__law_is_tree) (defScope s__law_is_tree) .none kV31 dc31 pm31 an31 cd31 ct31), sl31⟩)
    (c31 : PySem.W.codeIn K cd31 "_law_is_tree" = true) (k31 : PySem.W.keepIn K (.ref f31) = true)
    (a32 : PySem.W.nsIn K mainGlobals "law" = some (some (.ref f32)))
    (l32 : K.lookup f32 = some ⟨oc32, od32, .func (PySem.W.fnOf "law" "law" (defArgs s_law) (defBody s_law) (defScope s_law) .none kV32 dc32 pm32 an32 cd32 ct32), sl32⟩)
    (c32 : PySem.W.codeIn K cd32 "law" = true) (k32 : PySem.W.keepIn K (.ref f32) = true)
    (z_all : PySem.W.nsIn K mainGlobals "all" = some none)
    (z_bool : PySem.W.nsIn K mainGlobals "bool" = some none)
    (z_dict : PySem.W.nsIn K mainGlobals "dict" = some none)
    (z_int : PySem.W.nsIn K mainGlobals "int" = some none)
    (z_isinstance : PySem.W.nsIn K mainGlobals "isinstance" = some none)
    (z_len : PySem.W.nsIn K mainGlobals "len" = some none)
    (z_list : PySem.W.nsIn K mainGlobals "list" = some none)
    (z_max : PySem.W.nsIn K mainGlobals "max" = some none)
    (z_range : PySem.W.nsIn K mainGlobals "range" = some none)
    (z_sorted : PySem.W.nsIn K mainGlobals "sorted" = some none)
    (z_str : PySem.W.nsIn K mainGlobals "str" = some none)
    (z_tuple : PySem.W.nsIn K mainGlobals "tuple" = some none)
    (z_zip : PySem.W.nsIn K mainGlobals "zip" = some none)
    (law_true : ∀ (A : Ad) (ns : List Int), ns.length ≤ 63 → ∃ cs', F_law A [.d (.scr ns)] = some (.d (.bl true), cs')) :
    ∃ fd : FuncData, (∀ (s : Shared) (v : Value), BindsTo s fd ⟨[v], []⟩ [("script", v)]) ∧ ∀ base : Heap, K.In base → base.Ns mainGlobals mg → FnOk l.prog w K mg base CX0 16 fa fd ["script"] (spLaw K) := by
  have e := hfa.symm.trans (PySem.W.mg_of X G a32)
  cases e
  have F0 := fun_mk (st := s__law_source) l0 c0 k0
  have F1 := fun_mk (st := s__law_all_rows) l1 c1 k1
  have F2 := fun_mk (st := s__law_values) l2 c2 k2
  have F3 := fun_mk (st := s__law_fits) l3 c3 k3
  have F4 := fun_mk (st := s__law_solutions) l4 c4 k4
  have F5 := fun_mk (st := s__law_draw) l5 c5 k5
  have F6 := fun_mk (st := s__law_some) l6 c6 k6
  have F7 := fun_mk (st := s__law_table) l7 c7 k7
  have F8 := fun_mk (st := s__law_question) l8 c8 k8
  have F9 := fun_mk (st := s_Rows_holds) l9 c9 k9
  have F10 := fun_mk (st := s_agrees) l10 c10 k10
  have F11 := fun_mk (st := s_can_hold) l11 c11 k11
  have F12 := fun_mk (st := s_Rows_tree_of) l12 c12 k12
  have F13 := fun_mk (st := s_Rows_certificate) l13 c13 k13
  have F14 := fun_mk (st := s_merge_names) l14 c14 k14
  have F15 := fun_mk (st := s_join_tables) l15 c15 k15
  have F16 := fun_mk (st := s_all_rows) l16 c16 k16
  have F17 := fun_mk (st := s_Rows_normal) l17 c17 k17
  have F18 := fun_mk (st := s_Rows_counterexample) l18 c18 k18
  have F19 := fun_mk (st := s__law_can_hold) l19 c19 k19
  have F20 := fun_mk (st := s__law_made) l20 c20 k20
  have F21 := fun_mk (st := s__law_order) l21 c21 k21
  have F22 := fun_mk (st := s_Rows_tree_shows) l22 c22 k22
  have F23 := fun_mk (st := s_Rows_accepts) l23 c23 k23
  have F24 := fun_mk (st := s__law_is_int) l24 c24 k24
  have F25 := fun_mk (st := s__law_breaks) l25 c25 k25
  have F26 := fun_mk (st := s__law_rows_show) l26 c26 k26
  have F27 := fun_mk (st := s__law_leaf) l27 c27 k27
  have F28 := fun_mk (st := s__law_spoilt) l28 c28 k28
  have F29 := fun_mk (st := s__law_changed) l29 c29 k29
  have F30 := fun_mk (st := s__law_grown) l30 c30 k30
  have F31 := fun_mk (st := s__law_is_tree) l31 c31 k31
  have F32 := fun_mk (st := s_law) l32 c32 k32
  let A : Ad := ⟨f0, PySem.W.fnOf "_law_source" "_law_source" (defArgs s__law_source) (defBody s__law_source) (defScope s__law_source) .none kV0 dc0 pm0 an0 cd0 ct0, f1, PySem.W.fnOf "_law_all_rows" "_law_all_rows" (defArgs s__law_all_rows) (defBody s__law_all_rows) (defScope s__law_all_rows) .none kV1 dc1 pm1 an1 cd1 ct1, f2, PySem.W.fnOf "_law_values" "_law_values" (defArgs s__law_values) (defBody s__law_values) (defScope s__law_values) .none kV2 dc2 pm2 an2 cd2 ct2, f3, PySem.W.fnOf "_law_fits" "_law_fits" (defArgs s__law_fits) (defBody s__law_fits) (defScope s__law_fits) .none kV3 dc3 pm3 an3 cd3 ct3, f4, PySem.W.fnOf "_law_solutions" "_law_solutions" (defArgs s__law_solutions) (defBody s__law_solutions) (defScope s__law_solutions) .none kV4 dc4 pm4 an4 cd4 ct4, f5, PySem.W.fnOf "_law_draw" "_law_draw" (defArgs s__law_draw) (defBody s__law_draw) (defScope s__law_draw) .none kV5 dc5 pm5 an5 cd5 ct5, f6, PySem.W.fnOf "_law_some" "_law_some" (defArgs s__law_some) (defBody s__law_some) (defScope s__law_some) .none kV6 dc6 pm6 an6 cd6 ct6, f7, PySem.W.fnOf "_law_table" "_law_table" (defArgs s__law_table) (defBody s__law_table) (defScope s__law_table) .none kV7 dc7 pm7 an7 cd7 ct7, f8, PySem.W.fnOf "_law_question" "_law_question" (defArgs s__law_question) (defBody s__law_question) (defScope s__law_question) .none kV8 dc8 pm8 an8 cd8 ct8, f9, PySem.W.fnOf "holds" "Rows.holds" (defArgs s_Rows_holds) (defBody s_Rows_holds) (defScope s_Rows_holds) .none kV9 dc9 pm9 an9 cd9 ct9, f10, PySem.W.fnOf "agrees" "agrees" (defArgs s_agrees) (defBody s_agrees) (defScope s_agrees) .none kV10 dc10 pm10 an10 cd10 ct10, f11, PySem.W.fnOf "can_hold" "can_hold" (defArgs s_can_hold) (defBody s_can_hold) (defScope s_can_hold) .none kV11 dc11 pm11 an11 cd11 ct11, f12, PySem.W.fnOf "tree_of" "Rows.tree_of" (defArgs s_Rows_tree_of) (defBody s_Rows_tree_of) (defScope s_Rows_tree_of) .none kV12 dc12 pm12 an12 cd12 ct12, f13, PySem.W.fnOf "certificate" "Rows.certificate" (defArgs s_Rows_certificate) (defBody s_Rows_certificate) (defScope s_Rows_certificate) .none kV13 dc13 pm13 an13 cd13 ct13, f14, PySem.W.fnOf "merge_names" "merge_names" (defArgs s_merge_names) (defBody s_merge_names) (defScope s_merge_names) .none kV14 dc14 pm14 an14 cd14 ct14, f15, PySem.W.fnOf "join_tables" "join_tables" (defArgs s_join_tables) (defBody s_join_tables) (defScope s_join_tables) .none kV15 dc15 pm15 an15 cd15 ct15, f16, PySem.W.fnOf "all_rows" "all_rows" (defArgs s_all_rows) (defBody s_all_rows) (defScope s_all_rows) .none kV16 dc16 pm16 an16 cd16 ct16, f17, PySem.W.fnOf "normal" "Rows.normal" (defArgs s_Rows_normal) (defBody s_Rows_normal) (defScope s_Rows_normal) .none kV17 dc17 pm17 an17 cd17 ct17, f18, PySem.W.fnOf "counterexample" "Rows.counterexample" (defArgs s_Rows_counterexample) (defBody s_Rows_counterexample) (defScope s_Rows_counterexample) .none kV18 dc18 pm18 an18 cd18 ct18, f19, PySem.W.fnOf "_law_can_hold" "_law_can_hold" (defArgs s__law_can_hold) (defBody s__law_can_hold) (defScope s__law_can_hold) .none kV19 dc19 pm19 an19 cd19 ct19, f20, PySem.W.fnOf "_law_made" "_law_made" (defArgs s__law_made) (defBody s__law_made) (defScope s__law_made) .none kV20 dc20 pm20 an20 cd20 ct20, f21, PySem.W.fnOf "_law_order" "_law_order" (defArgs s__law_order) (defBody s__law_order) (defScope s__law_order) .none kV21 dc21 pm21 an21 cd21 ct21, f22, PySem.W.fnOf "tree_shows" "Rows.tree_shows" (defArgs s_Rows_tree_shows) (defBody s_Rows_tree_shows) (defScope s_Rows_tree_shows) .none kV22 dc22 pm22 an22 cd22 ct22, f23, PySem.W.fnOf "accepts" "Rows.accepts" (defArgs s_Rows_accepts) (defBody s_Rows_accepts) (defScope s_Rows_accepts) .none kV23 dc23 pm23 an23 cd23 ct23, f24, PySem.W.fnOf "_law_is_int" "_law_is_int" (defArgs s__law_is_int) (defBody s__law_is_int) (defScope s__law_is_int) .none kV24 dc24 pm24 an24 cd24 ct24, f25, PySem.W.fnOf "_law_breaks" "_law_breaks" (defArgs s__law_breaks) (defBody s__law_breaks) (defScope s__law_breaks) .none kV25 dc25 pm25 an25 cd25 ct25, f26, PySem.W.fnOf "_law_rows_show" "_law_rows_show" (defArgs s__law_rows_show) (defBody s__law_rows_show) (defScope s__law_rows_show) .none kV26 dc26 pm26 an26 cd26 ct26, f27, PySem.W.fnOf "_law_leaf" "_law_leaf" (defArgs s__law_leaf) (defBody s__law_leaf) (defScope s__law_leaf) .none kV27 dc27 pm27 an27 cd27 ct27, f28, PySem.W.fnOf "_law_spoilt" "_law_spoilt" (defArgs s__law_spoilt) (defBody s__law_spoilt) (defScope s__law_spoilt) .none kV28 dc28 pm28 an28 cd28 ct28, f29, PySem.W.fnOf "_law_changed" "_law_changed" (defArgs s__law_changed) (defBody s__law_changed) (defScope s__law_changed) .none kV29 dc29 pm29 an29 cd29 ct29, f30, PySem.W.fnOf "_law_grown" "_law_grown" (defArgs s__law_grown) (defBody s__law_grown) (defScope s__law_grown) .none kV30 dc30 pm30 an30 cd30 ct30, f31, PySem.W.fnOf "_law_is_tree" "_law_is_tree" (defArgs s__law_is_tree) (defBody s__law_is_tree) (defScope s__law_is_tree) .none kV31 dc31 pm31 an31 cd31 ct31, fa, PySem.W.fnOf "law" "law" (defArgs s_law) (defBody s_law) (defScope s_law) .none kV32 dc32 pm32 an32 cd32 ct32, C_Rows, va_VALUES⟩
  have T : Tx K mg A := {
    F__law_source := F0
    b__law_source := F0.binds (ps := ["script", "k"]) fun _ _ _ _ _ _ us hl => match us, hl with | [_, _], _ => rfl
    m__law_source := PySem.W.mg_of X G a0
    F__law_all_rows := F1
    b__law_all_rows := F1.binds (ps := ["count"]) fun _ _ _ _ _ _ us hl => match us, hl with | [_], _ => rfl
    m__law_all_rows := PySem.W.mg_of X G a1
    F__law_values := F2
    b__law_values := F2.binds (ps := ["names", "row"]) fun _ _ _ _ _ _ us hl => match us, hl with | [_, _], _ => rfl
    m__law_values := PySem.W.mg_of X G a2
    F__law_fits := F3
    b__law_fits := F3.binds (ps := ["table", "values"]) fun _ _ _ _ _ _ us hl => match us, hl with | [_, _], _ => rfl
    m__law_fits := PySem.W.mg_of X G a3
    F__law_solutions := F4
    b__law_solutions := F4.binds (ps := ["theory"]) fun _ _ _ _ _ _ us hl => match us, hl with | [_], _ => rfl
    m__law_solutions := PySem.W.mg_of X G a4
    F__law_draw := F5
    b__law_draw := F5.binds (ps := ["source", "limit"]) fun _ _ _ _ _ _ us hl => match us, hl with | [_, _], _ => rfl
    m__law_draw := PySem.W.mg_of X G a5
    F__law_some := F6
    b__law_some := F6.binds (ps := ["source", "names", "most"]) fun _ _ _ _ _ _ us hl => match us, hl with | [_, _, _], _ => rfl
    m__law_some := PySem.W.mg_of X G a6
    F__law_table := F7
    b__law_table := F7.binds (ps := ["source", "names"]) fun _ _ _ _ _ _ us hl => match us, hl with | [_, _], _ => rfl
    m__law_table := PySem.W.mg_of X G a7
    F__law_question := F8
    b__law_question := F8.binds (ps := ["source", "theory", "solutions"]) fun _ _ _ _ _ _ us hl => match us, hl with | [_, _, _], _ => rfl
    m__law_question := PySem.W.mg_of X G a8
    F_Rows_holds := F9
    b_Rows_holds := F9.binds (ps := ["self", "constraint", "assignment"]) fun _ _ _ _ _ _ us hl => match us, hl with | [_, _, _], _ => rfl
    h_Rows_holds := ⟨a9, i9, k9⟩
    F_agrees := F10
    b_agrees := F10.binds (ps := ["names", "row", "decided"]) fun _ _ _ _ _ _ us hl => match us, hl with | [_, _, _], _ => rfl
    m_agrees := PySem.W.mg_of X G a10
    F_can_hold := F11
    b_can_hold := F11.binds (ps := ["constraint", "decided"]) fun _ _ _ _ _ _ us hl => match us, hl with | [_, _], _ => rfl
    m_can_hold := PySem.W.mg_of X G a11
    F_Rows_tree_of := F12
    b_Rows_tree_of := F12.binds (ps := ["self", "theory", "constraint", "decided"]) fun _ _ _ _ _ _ us hl => match us, hl with | [_, _, _, _], _ => rfl
    h_Rows_tree_of := ⟨a12, i12, k12⟩
    F_Rows_certificate := F13
    b_Rows_certificate := F13.binds (ps := ["self", "theory", "constraint"]) fun _ _ _ _ _ _ us hl => match us, hl with | [_, _, _], _ => rfl
    h_Rows_certificate := ⟨a13, i13, k13⟩
    F_merge_names := F14
    m_merge_names := PySem.W.mg_of X G a14
    F_join_tables := F15
    b_join_tables := F15.binds (ps := ["first", "second"]) fun _ _ _ _ _ _ us hl => match us, hl with | [_, _], _ => rfl
    m_join_tables := PySem.W.mg_of X G a15
    F_all_rows := F16
    b_all_rows := F16.binds (ps := ["count"]) fun _ _ _ _ _ _ us hl => match us, hl with | [_], _ => rfl
    m_all_rows := PySem.W.mg_of X G a16
    F_Rows_normal := F17
    b_Rows_normal := F17.binds (ps := ["self", "theory"]) fun _ _ _ _ _ _ us hl => match us, hl with | [_, _], _ => rfl
    h_Rows_normal := ⟨a17, i17, k17⟩
    F_Rows_counterexample := F18
    b_Rows_counterexample := F18.binds (ps := ["self", "theory", "constraint"]) fun _ _ _ _ _ _ us hl => match us, hl with | [_, _, _], _ => rfl
    h_Rows_counterexample := ⟨a18, i18, k18⟩
    F__law_can_hold := F19
    b__law_can_hold := F19.binds (ps := ["table", "decided"]) fun _ _ _ _ _ _ us hl => match us, hl with | [_, _], _ => rfl
    m__law_can_hold := PySem.W.mg_of X G a19
    F__law_made := F20
    b__law_made := F20.binds (ps := ["source", "theory", "order", "decided"]) fun _ _ _ _ _ _ us hl => match us, hl with | [_, _, _, _], _ => rfl
    m__law_made := PySem.W.mg_of X G a20
    F__law_order := F21
    b__law_order := F21.binds (ps := ["source", "names"]) fun _ _ _ _ _ _ us hl => match us, hl with | [_, _], _ => rfl
    m__law_order := PySem.W.mg_of X G a21
    F_Rows_tree_shows := F22
    b_Rows_tree_shows := F22.binds (ps := ["self", "theory", "constraint", "tree", "decided"]) fun _ _ _ _ _ _ us hl => match us, hl with | [_, _, _, _, _], _ => rfl
    h_Rows_tree_shows := ⟨a22, i22, k22⟩
    F_Rows_accepts := F23
    b_Rows_accepts := F23.binds (ps := ["self", "theory", "constraint", "certificate"]) fun _ _ _ _ _ _ us hl => match us, hl with | [_, _, _, _], _ => rfl
    h_Rows_accepts := ⟨a23, i23, k23⟩
    F__law_is_int := F24
    b__law_is_int := F24.binds (ps := ["value"]) fun _ _ _ _ _ _ us hl => match us, hl with | [_], _ => rfl
    m__law_is_int := PySem.W.mg_of X G a24
    F__law_breaks := F25
    b__law_breaks := F25.binds (ps := ["found", "question", "solutions"]) fun _ _ _ _ _ _ us hl => match us, hl with | [_, _, _], _ => rfl
    m__law_breaks := PySem.W.mg_of X G a25
    F__law_rows_show := F26
    b__law_rows_show := F26.binds (ps := ["theory", "constraint", "tree", "decided"]) fun _ _ _ _ _ _ us hl => match us, hl with | [_, _, _, _], _ => rfl
    m__law_rows_show := PySem.W.mg_of X G a26
    F__law_leaf := F27
    b__law_leaf := F27.binds (ps := ["source", "count"]) fun _ _ _ _ _ _ us hl => match us, hl with | [_, _], _ => rfl
    m__law_leaf := PySem.W.mg_of X G a27
    F__law_spoilt := F28
    b__law_spoilt := F28.binds (ps := ["source", "names", "tree", "count"]) fun _ _ _ _ _ _ us hl => match us, hl with | [_, _, _, _], _ => rfl
    m__law_spoilt := PySem.W.mg_of X G a28
    F__law_changed := F29
    b__law_changed := F29.binds (ps := ["source", "names", "tree", "count", "depth"]) fun _ _ _ _ _ _ us hl => match us, hl with | [_, _, _, _, _], _ => rfl
    m__law_changed := PySem.W.mg_of X G a29
    F__law_grown := F30
    b__law_grown := F30.binds (ps := ["source", "names", "count", "depth"]) fun _ _ _ _ _ _ us hl => match us, hl with | [_, _, _, _], _ => rfl
    m__law_grown := PySem.W.mg_of X G a30
    F__law_is_tree := F31
    b__law_is_tree := F31.binds (ps := ["tree", "depth"]) fun _ _ _ _ _ _ us hl => match us, hl with | [_, _], _ => rfl
    m__law_is_tree := PySem.W.mg_of X G a31
    F_law := F32
    b_law := F32.binds (ps := ["script"]) fun _ _ _ _ _ _ us hl => match us, hl with | [_], _ => rfl
    m_law := PySem.W.mg_of X G a32
    c_Rows := ⟨pg_Rows, hd_Rows, po_Rows, sa_Rows⟩
    k_Rows := ⟨mk_Rows, in_Rows, tp_Rows, kc_Rows⟩
    mC_Rows := PySem.W.mg_of X G aC_Rows
    v_VALUES := PySem.W.mg_of X G v_VALUES
    r_VALUES := fun G => con_rep (G := G) w_VALUES e_VALUES (by decide) rfl
    z_all := PySem.W.mg_none_of X G z_all
    z_bool := PySem.W.mg_none_of X G z_bool
    z_dict := PySem.W.mg_none_of X G z_dict
    z_int := PySem.W.mg_none_of X G z_int
    z_isinstance := PySem.W.mg_none_of X G z_isinstance
    z_len := PySem.W.mg_none_of X G z_len
    z_list := PySem.W.mg_none_of X G z_list
    z_max := PySem.W.mg_none_of X G z_max
    z_range := PySem.W.mg_none_of X G z_range
    z_sorted := PySem.W.mg_none_of X G z_sorted
    z_str := PySem.W.mg_none_of X G z_str
    z_tuple := PySem.W.mg_none_of X G z_tuple
    z_zip := PySem.W.mg_none_of X G z_zip
  }
  exact ⟨_, fun s v => .of_eq rfl, fun base _ _ => (ok_law (P := l.prog) (w := w) (base := base) T).imp fun vs H Q E ⟨a, ns, e, hS, hl, q⟩ => by
    subst e
    obtain ⟨cs', hF⟩ := law_true A ns hl
    exact spD_law hS hF q⟩

end K21
open PySem PySem.W PyProof.Rows
set_option maxRecDepth 100000 in
set_option maxHeartbeats 0 in
theorem PySem.Challenge.cw_shadowplays_k21_trees_of_cases_holds : PySem.Challenge.rw_shadowplays_k21_trees_of_cases.Holds := by
  w_on; o_law; k_head; (case hw => w_witness2)
  k_fill
  refine L2.walk_of (l := PySem.Challenge.rw_shadowplays_k21_trees_of_cases) (n := 63) (k := 16) (x := "script") (CX := fun _ => L2.CX0) (sp := fun w => K21.spLaw _) rfl (by decide) rfl ⟨rfl, by decide, by decide⟩ (fun w h Y => PySem.W.kIn_of Y) ?F (fun _ _ a ns hl _ hS => ⟨a, ns, rfl, hS, hl, fun _ => rfl⟩) (fun _ _ _ _ _ h => h)
  case F =>
    intro w mg fa h KX G hmg
    refine' K21.all_mk KX G hmg ?aC_Rows ?pg_Rows ?hd_Rows ?po_Rows ?sa_Rows ?mk_Rows ?in_Rows ?tp_Rows ?kc_Rows ?v_VALUES ?w_VALUES ?e_VALUES ?a0 ?l0 ?c0 ?k0 ?a1 ?l1 ?c1 ?k1 ?a2 ?l2 ?c2 ?k2 ?a3 ?l3 ?c3 ?k3 ?a4 ?l4 ?c4 ?k4 ?a5 ?l5 ?c5 ?k5 ?a6 ?l6 ?c6 ?k6 ?a7 ?l7 ?c7 ?k7 ?a8 ?l8 ?c8 ?k8 ?a9 ?i9 ?l9 ?c9 ?k9 ?a10 ?l10 ?c10 ?k10 ?a11 ?l11 ?c11 ?k11 ?a12 ?i12 ?l12 ?c12 ?k12 ?a13 ?i13 ?l13 ?c13 ?k13 ?a14 ?l14 ?c14 ?k14 ?a15 ?l15 ?c15 ?k15 ?a16 ?l16 ?c16 ?k16 ?a17 ?i17 ?l17 ?c17 ?k17 ?a18 ?i18 ?l18 ?c18 ?k18 ?a19 ?l19 ?c19 ?k19 ?a20 ?l20 ?c20 ?k20 ?a21 ?l21 ?c21 ?k21 ?a22 ?i22 ?l22 ?c22 ?k22 ?a23 ?i23 ?l23 ?c23 ?k23 ?a24 ?l24 ?c24 ?k24 ?a25 ?l25 ?c25 ?k25 ?a26 ?l26 ?c26 ?k26 ?a27 ?l27 ?c27 ?k27 ?a28 ?l28 ?c28 ?k28 ?a29 ?l29 ?c29 ?k29 ?a30 ?l30 ?c30 ?k30 ?a31 ?l31 ?c31 ?k31 ?a32 ?l32 ?c32 ?k32 ?z_all ?z_bool ?z_dict ?z_int ?z_isinstance ?z_len ?z_list ?z_max ?z_range ?z_sorted ?z_str ?z_tuple ?z_zip K21.law_true
    (case aC_Rows => k_is)
    (case pg_Rows => k_is)
    (case hd_Rows => k_is)
    (case po_Rows => k_is)
    (case sa_Rows => k_is)
    (case mk_Rows => k_is)
    (case in_Rows => k_is)
    (case tp_Rows => k_is)
    (case kc_Rows => k_is)
    (case v_VALUES => k_is)
    (case w_VALUES => k_is)
    (case e_VALUES => rfl)
    (case a0 => k_is)
    (case l0 => k_is)
    (case c0 => k_is)
    (case k0 => k_is)
    (case a1 => k_is)
    (case l1 => k_is)
    (case c1 => k_is)
    (case k1 => k_is)
    (case a2 => k_is)
    (case l2 => k_is)
    (case c2 => k_is)
    (case k2 => k_is)
    (case a3 => k_is)
    (case l3 => k_is)
    (case c3 => k_is)
    (case k3 => k_is)
    (case a4 => k_is)
    (case l4 => k_is)
    (case c4 => k_is)
    (case k4 => k_is)
    (case a5 => k_is)
    (case l5 => k_is)
    (case c5 => k_is)
    (case k5 => k_is)
    (case a6 => k_is)
    (case l6 => k_is)
    (case c6 => k_is)
    (case k6 => k_is)
    (case a7 => k_is)
    (case l7 => k_is)
    (case c7 => k_is)
    (case k7 => k_is)
    (case a8 => k_is)
    (case l8 => k_is)
    (case c8 => k_is)
    (case k8 => k_is)
    (case a9 => k_is)
    (case i9 => k_is)
    (case l9 => k_is)
    (case c9 => k_is)
    (case k9 => k_is)
    (case a10 => k_is)
    (case l10 => k_is)
    (case c10 => k_is)
    (case k10 => k_is)
    (case a11 => k_is)
    (case l11 => k_is)
    (case c11 => k_is)
    (case k11 => k_is)
    (case a12 => k_is)
    (case i12 => k_is)
    (case l12 => k_is)
    (case c12 => k_is)
    (case k12 => k_is)
    (case a13 => k_is)
    (case i13 => k_is)
    (case l13 => k_is)
    (case c13 => k_is)
    (case k13 => k_is)
    (case a14 => k_is)
    (case l14 => k_is)
    (case c14 => k_is)
    (case k14 => k_is)
    (case a15 => k_is)
    (case l15 => k_is)
    (case c15 => k_is)
    (case k15 => k_is)
    (case a16 => k_is)
    (case l16 => k_is)
    (case c16 => k_is)
    (case k16 => k_is)
    (case a17 => k_is)
    (case i17 => k_is)
    (case l17 => k_is)
    (case c17 => k_is)
    (case k17 => k_is)
    (case a18 => k_is)
    (case i18 => k_is)
    (case l18 => k_is)
    (case c18 => k_is)
    (case k18 => k_is)
    (case a19 => k_is)
    (case l19 => k_is)
    (case c19 => k_is)
    (case k19 => k_is)
    (case a20 => k_is)
    (case l20 => k_is)
    (case c20 => k_is)
    (case k20 => k_is)
    (case a21 => k_is)
    (case l21 => k_is)
    (case c21 => k_is)
    (case k21 => k_is)
    (case a22 => k_is)
    (case i22 => k_is)
    (case l22 => k_is)
    (case c22 => k_is)
    (case k22 => k_is)
    (case a23 => k_is)
    (case i23 => k_is)
    (case l23 => k_is)
    (case c23 => k_is)
    (case k23 => k_is)
    (case a24 => k_is)
    (case l24 => k_is)
    (case c24 => k_is)
    (case k24 => k_is)
    (case a25 => k_is)
    (case l25 => k_is)
    (case c25 => k_is)
    (case k25 => k_is)
    (case a26 => k_is)
    (case l26 => k_is)
    (case c26 => k_is)
    (case k26 => k_is)
    (case a27 => k_is)
    (case l27 => k_is)
    (case c27 => k_is)
    (case k27 => k_is)
    (case a28 => k_is)
    (case l28 => k_is)
    (case c28 => k_is)
    (case k28 => k_is)
    (case a29 => k_is)
    (case l29 => k_is)
    (case c29 => k_is)
    (case k29 => k_is)
    (case a30 => k_is)
    (case l30 => k_is)
    (case c30 => k_is)
    (case k30 => k_is)
    (case a31 => k_is)
    (case l31 => k_is)
    (case c31 => k_is)
    (case k31 => k_is)
    (case a32 => k_is)
    (case l32 => k_is)
    (case c32 => k_is)
    (case k32 => k_is)
    (case z_all => k_is)
    (case z_bool => k_is)
    (case z_dict => k_is)
    (case z_int => k_is)
    (case z_isinstance => k_is)
    (case z_len => k_is)
    (case z_list => k_is)
    (case z_max => k_is)
    (case z_range => k_is)
    (case z_sorted => k_is)
    (case z_str => k_is)
    (case z_tuple => k_is)
    (case z_zip => k_is)

