import PyProof.Rows.All
import Wide.All
import OpenK.AllK
import Wide.FinOn
import HandS.ForMost
import HandS.Walk
import HandS.Deep
import HandS.Zip
import HandS.IsInst
import HandS.DictComp
import HandS.TupAny
import HandS.Star
import HandS.Flow
import HandS.NoneIn
import HandS.Conv
import KE.SortData
import KE.GoesEnum
import KE.KDictZip
import KE.KDictList
import HandS.TupMul
import HandS.Codes
import PySem.Challenge.RW_objections_k02_whole_answers_and_least
import HandS.ForExc
import HandS.ExcInit
import HandS.ExcField
import HandS.Lambda
import HandS.OwnEq
import HandS.More
import HandS.FStrTup
import PyProof.ReprHeads
import PyProof.ReprHeadsEmpty
import PyProof.ReprHeadsTuple
import PyProof.CallFns
import PyProof.ReprLen
import KE.SortKeyHeap
import HandS.ListItems
import HandS.SetKeys
import HandS.Finally
import HandS.EndTab
-- part Gd1
set_option Elab.async false
set_option linter.all false
set_option maxRecDepth 100000
set_option maxHeartbeats 2000000
namespace Gd
open PySem L2
/-! ### the frozen world G beneath the heap H: G holds what no one writes any more; what is owned by the code that runs stands in H alone -/
def isD : HO → Bool
  | .dK _ => true
  | .dT _ => true
  | _ => false
/-- b: no dict of G is locked in H -/
def Rel (b : Bool) (G H : Hp) : Prop := ∀ a o, G a = some o → H a = some o ∨ (b = false ∧ isD o = true ∧ ∃ ob, H a = some (.frz ob o))
theorem Rel.refl {b : Bool} (G : Hp) : Rel b G G := fun _ _ h => .inl h
theorem Rel.ex {G H : Hp} (r : Rel true G H) {a : Addr} {o : HO} (h : G a = some o) : H a = some o := by
  rcases r a o h with h | ⟨e, _⟩
  · exact h
  · cases e
theorem Rel.low {b : Bool} {G H : Hp} (r : Rel b G H) : Rel false G H := fun a o h => by
  rcases r a o h with h | ⟨_, h⟩
  · exact .inl h
  · exact .inr ⟨rfl, h⟩
theorem Rel.of {b : Bool} {G H : Hp} (r : Rel true G H) : Rel b G H := fun a o h => .inl (r.ex h)
theorem Rel.at {b : Bool} {G H : Hp} (r : Rel b G H) {a : Addr} {o : HO} (h : G a = some o) (n : isD o = false) : H a = some o := by
  rcases r a o h with h | ⟨_, e, _⟩
  · exact h
  · rw [n] at e; cases e
theorem Rel.rd {b : Bool} {G H : Hp} (r : Rel b G H) {a : Addr} {o : HO} (h : G a = some o) : Rd H a o := by
  rcases r a o h with h | ⟨_, _, ob, h⟩
  · exact .inl h
  · exact .inr ⟨ob, h⟩
theorem Rel.free {b : Bool} {G H : Hp} (r : Rel b G H) {a : Addr} (h : H a = none) : G a = none := by
  cases q : G a with
  | none => rfl
  | some o =>
    rcases r a o q with e | ⟨_, _, ob, e⟩
    · rw [e] at h; cases h
    · rw [e] at h; cases h
theorem Rel.seqL {b : Bool} {K : PySem.W.Frag} {G H : Hp} (r : Rel b G H) {a : Addr} {xs : List V} (h : SqL K G a xs) : SqL K H a xs := by
  rcases h with (h | ⟨o, h⟩) | h
  · exact .inl (.inl (r.at h rfl))
  · exact .inl (.inr ⟨o, r.at h rfl⟩)
  · exact .inr h
theorem Rel.seqT {b : Bool} {K : PySem.W.Frag} {G H : Hp} (r : Rel b G H) {a : Addr} {xs : List V} (h : SqT K G a xs) : SqT K H a xs := by
  rcases h with (h | ⟨o, h⟩) | h
  · exact .inl (.inl (r.at h rfl))
  · exact .inl (.inr ⟨o, r.at h rfl⟩)
  · exact .inr h
/-- what is owned is written -/
theorem Rel.own {b : Bool} {G H : Hp} (r : Rel b G H) {p : Addr} {o : HO} (n : G p = none) : Rel b G (upd H p o) := fun a u h => by
  rw [upd_ne (ne_of_none h n)]
  exact r a u h
/-- what is owned (or new) is given to G -/
theorem Rel.give {b : Bool} {G H : Hp} (r : Rel b G H) {p : Addr} {o : HO} (h : H p = some o) : Rel b (upd G p o) H := fun a u e => by
  by_cases q : a = p
  · subst q
    rw [upd_same] at e
    cases e
    exact .inl h
  · rw [upd_ne q] at e
    exact r a u e
theorem Rel.up {b : Bool} {G H : Hp} (r : Rel b G H) {p : Addr} {o : HO} : Rel b (upd G p o) (upd H p o) := fun a u e => by
  by_cases q : a = p
  · subst q
    rw [upd_same] at e ⊢
    exact .inl e
  · rw [upd_ne q] at e ⊢
    exact r a u e
theorem Same.own {H H' : Hp} (e : Same H H') {p : Addr} {o : HO} (n : H p = none) : Same H (upd H' p o) := fun a u h => by
  rw [upd_ne (ne_of_none h n)]
  exact e a u h
theorem Same.new {H : Hp} {p : Addr} {o : HO} (n : H p = none) : Same H (upd H p o) := Same.own (Same.refl H) n

/-- from (G, H) to (G2, H2): nothing that stood is changed; what is new in G was new in H -/
def isTb : HO → Bool
  | .tbl _ => true
  | _ => false
/-- a table is never frozen -/
def tbN (o : HO) : Prop := isTb o = false
structure Go (G H G2 H2 : Hp) : Prop where
  g : Same G G2
  h : Same H H2
  r0 : ∀ a o, G a = none → G2 a = some o → H2 a = some o
  n : ∀ a o, H a = some o → G2 a = G a
  t : ∀ a o, G a = none → G2 a = some o → isTb o = false
theorem Go.r {G H G2 H2 : Hp} (k : Go G H G2 H2) (b : Bool) (r : Rel b G H) : Rel b G2 H2 := fun a o e => by
  cases q : G a with
  | none => exact .inl (k.r0 a o q e)
  | some u =>
    have e2 := k.g a u q
    rw [e] at e2
    cases e2
    rcases r a o q with h | ⟨h1, h2, ob, h⟩
    · exact .inl (k.h _ _ h)
    · exact .inr ⟨h1, h2, ob, k.h _ _ h⟩
theorem Go.refl (G H : Hp) : Go G H G H := ⟨Same.refl G, Same.refl H, fun a o h e => (by rw [h] at e; cases e), fun _ _ _ => rfl, fun a o h e => (by rw [h] at e; cases e)⟩
theorem Go.trans {G H G1 H1 G2 H2 : Hp} (a : Go G H G1 H1) (b : Go G1 H1 G2 H2) : Go G H G2 H2 :=
  ⟨a.g.trans b.g, a.h.trans b.h, fun x o q e => by
    cases z : G1 x with
    | none => exact b.r0 x o z e
    | some u =>
      have e2 := b.g x u z
      rw [e] at e2
      cases e2
      exact b.h _ _ (a.r0 x o q z), fun x o e => (b.n x o (a.h x o e)).trans (a.n x o e), fun x o q e => by
    cases z : G1 x with
    | none => exact b.t x o z e
    | some u =>
      have e2 := b.g x u z
      rw [e] at e2
      cases e2
      exact a.t x o q z⟩
/-- a new object, frozen at once -/
theorem Go.new {b : Bool} {G H : Hp} (r : Rel b G H) {p : Addr} {o : HO} (n : H p = none) (ho : isTb o = false := by rfl) : Go G H (upd G p o) (upd H p o) :=
  ⟨Same.new (r.free n), Same.new n, (fun a u q e => by
    by_cases z : a = p
    · subst z; rw [upd_same] at e ⊢; exact e
    · rw [upd_ne z, q] at e; cases e), fun a u e => upd_ne (ne_of_none e n), (fun a u q e => by
    by_cases z : a = p
    · subst z; rw [upd_same] at e; cases e; exact ho
    · rw [upd_ne z, q] at e; cases e)⟩
/-- a new object, owned -/
theorem Go.own {b : Bool} {G H : Hp} (r : Rel b G H) {p : Addr} {o : HO} (n : H p = none) : Go G H G (upd H p o) :=
  ⟨Same.refl G, Same.new n, fun a u q e => (by rw [q] at e; cases e), fun _ _ _ => rfl, fun a u q e => (by rw [q] at e; cases e)⟩
/-- an owned object of our own is written -/
theorem Go.wr {G H G2 H2 : Hp} (g : Go G H G2 H2) {p : Addr} {o : HO} (n : H p = none) (n2 : G2 p = none) : Go G H G2 (upd H2 p o) :=
  ⟨g.g, Same.own g.h n, fun a u q e => by rw [upd_ne (ne_of_none e n2)]; exact g.r0 a u q e, g.n, g.t⟩
/-- .. is frozen -/
theorem Go.give {G H G2 H2 : Hp} (g : Go G H G2 H2) {p : Addr} {o : HO} (n : H p = none) (n2 : G2 p = none) (h : H2 p = some o) (ho : isTb o = false := by rfl) : Go G H (upd G2 p o) H2 :=
  ⟨Same.own g.g (by
      cases q : G p with
      | none => rfl
      | some u => rw [g.g p u q] at n2; cases n2), g.h, fun a u q e => by
      by_cases z : a = p
      · subst z; rw [upd_same] at e; rw [h]; exact e
      · rw [upd_ne z] at e; exact g.r0 a u q e, fun a u e => by
      rw [upd_ne (ne_of_none e n)]
      exact g.n a u e, fun a u q e => by
      by_cases z : a = p
      · subst z; rw [upd_same] at e; cases e; exact ho
      · rw [upd_ne z] at e; exact g.t a u q e⟩
/-- behind a lock -/
theorem Go.unlock {G H G2 H2 : Hp} {d : Addr} {od : Obj} {u : HO} (g : Go G (upd H d (.frz od u)) G2 H2) (hG : G d = some u) (hH : H d = some u) : Go G H G2 (upd H2 d u) :=
  ⟨g.g, fun a o e => by
    by_cases z : a = d
    · subst z; rw [hH] at e; rw [upd_same]; exact e
    · rw [upd_ne z]; exact g.h a o (by rw [upd_ne z]; exact e), fun a o q e => by
    by_cases z : a = d
    · subst z; rw [hG] at q; cases q
    · rw [upd_ne z]; exact g.r0 a o q e, fun a o e => by
    by_cases z : a = d
    · subst z; exact (g.g _ _ hG).trans hG.symm
    · exact g.n a o (by rw [upd_ne z]; exact e), g.t⟩
theorem Rel.lock {b : Bool} {G H : Hp} (r : Rel b G H) {d : Addr} {od : Obj} {u : HO} (hG : G d = some u) (hu : isD u = true) : Rel false G (upd H d (.frz od u)) := fun a o e => by
  by_cases z : a = d
  · subst z
    rw [hG] at e
    cases e
    exact .inr ⟨rfl, hu, od, upd_same⟩
  · rw [upd_ne z]
    exact r.low a o e
theorem Go.free {G H G2 H2 : Hp} (g : Go G H G2 H2) {p : Addr} (n : H2 p = none) : H p = none := g.h.free n
/-- what was owned stays owned -/
theorem Go.owned {G H G2 H2 : Hp} (g : Go G H G2 H2) {p : Addr} {o : HO} (h : H p = some o) (n : G p = none) : G2 p = none := (g.n p o h).trans n

/-! ### what a value stands for -/
structure SR where
  p : V → Hp → Prop
  st : ∀ {u : V} {G G' : Hp}, Same G G' → p u G → p u G'
/-- one by one -/
inductive Al {α : Type} (e : α → SR) : List α → List V → Hp → Prop
  | nil {G : Hp} : Al e [] [] G
  | cons {G : Hp} {a : α} {as : List α} {v : V} {vs : List V} : (e a).p v G → Al e as vs G → Al e (a :: as) (v :: vs) G
theorem Al.st {α : Type} {e : α → SR} {G G' : Hp} (s : Same G G') : ∀ {as : List α} {vs : List V}, Al e as vs G → Al e as vs G'
  | _, _, .nil => .nil
  | _, _, .cons h t => .cons ((e _).st s h) (Al.st s t)
theorem Al.len {α : Type} {e : α → SR} {G : Hp} : ∀ {as : List α} {vs : List V}, Al e as vs G → vs.length = as.length
  | _, _, .nil => rfl
  | _, _, .cons _ t => congrArg (· + 1) (Al.len t)
theorem Al.get {α : Type} {e : α → SR} {G : Hp} : ∀ {as : List α} {vs : List V} {i : Nat} {v : V}, Al e as vs G → vs[i]? = some v → ∃ a, as[i]? = some a ∧ (e a).p v G
  | _, _, _, _, .nil, h => by simp at h
  | _, _, 0, _, .cons h _, e => by
    simp at e; subst e
    exact ⟨_, rfl, h⟩
  | _, _, i + 1, _, .cons _ t, e => by
    obtain ⟨a, h1, h2⟩ := Al.get (i := i) t (by simpa using e)
    exact ⟨a, by simpa using h1, h2⟩
theorem Al.get' {α : Type} {e : α → SR} {G : Hp} : ∀ {as : List α} {vs : List V} {i : Nat} {a : α}, Al e as vs G → as[i]? = some a → ∃ v, vs[i]? = some v ∧ (e a).p v G
  | _, _, _, _, .nil, h => by simp at h
  | _, _, 0, _, .cons h _, e => by
    simp at e; subst e
    exact ⟨_, rfl, h⟩
  | _, _, i + 1, _, .cons _ t, e => by
    obtain ⟨a, h1, h2⟩ := Al.get' (i := i) t (by simpa using e)
    exact ⟨a, by simpa using h1, h2⟩
theorem Al.app {α : Type} {e : α → SR} {G : Hp} : ∀ {as bs : List α} {vs ws : List V}, Al e as vs G → Al e bs ws G → Al e (as ++ bs) (vs ++ ws) G
  | _, _, _, _, .nil, s => s
  | _, _, _, _, .cons h t, s => .cons h (Al.app t s)
theorem Al.snoc {α : Type} {e : α → SR} {G : Hp} {as : List α} {vs : List V} {a : α} {v : V} (h : Al e as vs G) (r : (e a).p v G) : Al e (as ++ [a]) (vs ++ [v]) G := h.app (.cons r .nil)
theorem Al.take {α : Type} {e : α → SR} {G : Hp} : ∀ {as : List α} {vs : List V} (n : Nat), Al e as vs G → Al e (as.take n) (vs.take n) G
  | _, _, 0, _ => .nil
  | _, _, _ + 1, .nil => .nil
  | _, _, n + 1, .cons h t => .cons h (Al.take n t)
theorem Al.drop {α : Type} {e : α → SR} {G : Hp} : ∀ {as : List α} {vs : List V} (n : Nat), Al e as vs G → Al e (as.drop n) (vs.drop n) G
  | _, _, 0, h => h
  | _, _, _ + 1, .nil => .nil
  | _, _, n + 1, .cons _ t => Al.drop n t
theorem Al.erase {α : Type} {e : α → SR} {G : Hp} : ∀ {as : List α} {vs : List V} (n : Nat), Al e as vs G → Al e (as.eraseIdx n) (vs.eraseIdx n) G
  | _, _, _, .nil => .nil
  | _, _, 0, .cons _ t => t
  | _, _, n + 1, .cons h t => .cons h (Al.erase n t)
/-- another reading of the items -/
theorem Al.conv {α β : Type} {e : α → SR} {f : β → SR} {G : Hp} {c : α → β} (h : ∀ a v, (e a).p v G → (f (c a)).p v G) : ∀ {as : List α} {vs : List V}, Al e as vs G → Al f (as.map c) vs G
  | _, _, .nil => .nil
  | _, _, .cons r t => .cons (h _ _ r) (Al.conv h t)
theorem Al.perm {α : Type} {e : α → SR} {G : Hp} {bs : List α} : ∀ {as : List α}, List.Perm as bs → ∀ {vs : List V}, Al e as vs G → ∃ ws, List.Perm vs ws ∧ Al e bs ws G := by
  intro as p
  induction p with
  | nil => intro vs h; cases h; exact ⟨[], .nil, .nil⟩
  | cons x _ ih =>
    intro vs h
    cases h with
    | cons r t =>
      obtain ⟨ws, q1, q2⟩ := ih t
      exact ⟨_ :: ws, q1.cons _, .cons r q2⟩
  | swap x y l =>
    intro vs h
    cases h with
    | cons r t =>
      cases t with
      | cons r2 t => exact ⟨_, .swap _ _ _, .cons r2 (.cons r t)⟩
  | trans _ _ ih1 ih2 =>
    intro vs h
    obtain ⟨w1, a1, b1⟩ := ih1 h
    obtain ⟨w2, a2, b2⟩ := ih2 b1
    exact ⟨w2, a1.trans a2, b2⟩

def cst (v : V) : SR := ⟨fun u _ => u = v, fun _ h => h⟩
def I (i : Int) : SR := cst (.int i)
def B (b : Bool) : SR := cst (.bl b)
/-- a text of the laws: its signs are signs, it is not long -/
def okS (s : Str) : Bool := PyData.strOk s && decide (s.length ≤ 100000)
def S (s : Str) : SR := ⟨fun u _ => u = .str s ∧ okS s = true, fun _ h => h⟩
def N : SR := cst .non
/-- a list -/
def Lst {α : Type} (e : α → SR) (xs : List α) : SR := ⟨fun u G => ∃ a vs, u = .ref a ∧ G a = some (.lst vs) ∧ vs.length ≤ sizeLine ∧ Al e xs vs G,
  fun s ⟨a, vs, h1, h2, h3, h4⟩ => ⟨a, vs, h1, s _ _ h2, h3, h4.st s⟩⟩
/-- a tuple whose items are alike -/
def Tpl (K : PySem.W.Frag) {α : Type} (e : α → SR) (xs : List α) : SR := ⟨fun u G => ∃ a vs, u = .ref a ∧ SqT K G a vs ∧ vs.length ≤ sizeLine ∧ Al e xs vs G,
  fun s ⟨a, vs, h1, h2, h3, h4⟩ => ⟨a, vs, h1, (Rel.of (b := true) (fun x o q => .inl (s x o q))).seqT h2, h3, h4.st s⟩⟩
/-- either -/
def Sq (K : PySem.W.Frag) {α : Type} (e : α → SR) (xs : List α) : SR := ⟨fun u G => (Lst e xs).p u G ∨ (Tpl K e xs).p u G,
  fun s h => h.elim (fun h => .inl ((Lst e xs).st s h)) fun h => .inr ((Tpl K e xs).st s h)⟩
def Pr (K : PySem.W.Frag) {α β : Type} (e : α → SR) (f : β → SR) (x : α × β) : SR := ⟨fun u G => ∃ a v w, u = .ref a ∧ SqT K G a [v, w] ∧ (e x.1).p v G ∧ (f x.2).p w G,
  fun s ⟨a, v, w, h1, h2, h3, h4⟩ => ⟨a, v, w, h1, (Rel.of (b := true) (fun x o q => .inl (s x o q))).seqT h2, (e _).st s h3, (f _).st s h4⟩⟩
def Tr (K : PySem.W.Frag) {α β γ : Type} (e : α → SR) (f : β → SR) (g : γ → SR) (x : α × β × γ) : SR := ⟨fun u G => ∃ a v w z, u = .ref a ∧ SqT K G a [v, w, z] ∧ (e x.1).p v G ∧ (f x.2.1).p w G ∧ (g x.2.2).p z G,
  fun s ⟨a, v, w, z, h1, h2, h3, h4, h5⟩ => ⟨a, v, w, z, h1, (Rel.of (b := true) (fun x o q => .inl (s x o q))).seqT h2, (e _).st s h3, (f _).st s h4, (g _).st s h5⟩⟩
/-- the keys of a dict of texts, in its order; its values are not told -/
def Ks (ks : List Str) : SR := ⟨fun u G => ∃ a kvs, u = .ref a ∧ G a = some (.dK kvs) ∧ kvs.length ≤ sizeLine ∧ kvs.map (·.1) = ks.map Sum.inr,
  fun s ⟨a, kvs, h1, h2, h3, h4⟩ => ⟨a, kvs, h1, s _ _ h2, h3, h4⟩⟩
/-- a dict from texts: its pairs, in its order -/
inductive AlD {α : Type} (e : α → SR) : List (Str × α) → List (Key × V) → Hp → Prop
  | nil {G : Hp} : AlD e [] [] G
  | cons {G : Hp} {k : Str} {a : α} {as : List (Str × α)} {v : V} {vs : List (Key × V)} : (e a).p v G → AlD e as vs G → AlD e ((k, a) :: as) ((Sum.inr k, v) :: vs) G
theorem AlD.st {α : Type} {e : α → SR} {G G' : Hp} (s : Same G G') : ∀ {as : List (Str × α)} {vs : List (Key × V)}, AlD e as vs G → AlD e as vs G'
  | _, _, .nil => .nil
  | _, _, .cons h t => .cons ((e _).st s h) (AlD.st s t)
def Dct {α : Type} (e : α → SR) (kvs : List (Str × α)) : SR := ⟨fun u G => ∃ a vs, u = .ref a ∧ G a = some (.dK vs) ∧ vs.length ≤ sizeLine ∧ AlD e kvs vs G,
  fun s ⟨a, vs, h1, h2, h3, h4⟩ => ⟨a, vs, h1, s _ _ h2, h3, h4.st s⟩⟩
/-- an argument list -/
inductive AlR : List SR → List V → Hp → Prop
  | nil {G : Hp} : AlR [] [] G
  | cons {G : Hp} {r : SR} {rs : List SR} {v : V} {vs : List V} : r.p v G → AlR rs vs G → AlR (r :: rs) (v :: vs) G
theorem AlR.st {G G' : Hp} (s : Same G G') : ∀ {rs : List SR} {vs : List V}, AlR rs vs G → AlR rs vs G'
  | _, _, .nil => .nil
  | _, _, .cons h t => .cons (SR.st _ s h) (AlR.st s t)
theorem AlR.of {α : Type} {e : α → SR} {G : Hp} : ∀ {as : List α} {vs : List V}, AlR (as.map e) vs G → Al e as vs G
  | [], _, .nil => .nil
  | _ :: _, _, .cons h t => .cons h (AlR.of t)

/-! ### what a reading evaluates to -/
def Ev (b : Bool) (t : TE) (σ : L2.St) (G : Hp) (R : SR) : Prop := ∀ G1 H1, Same G G1 → Rel b G1 H1 → ∀ Q : VK, (∀ u G2 H2, Go G1 H1 G2 H2 → R.p u G2 → Q u H2) → t σ H1 Q
def EvT (b : Bool) (t : TT) (σ : L2.St) (G : Hp) (c : Bool) : Prop := ∀ G1 H1, Same G G1 → Rel b G1 H1 → ∀ Q : Bool → Hp → Prop, (∀ G2 H2, Go G1 H1 G2 H2 → Q c H2) → t σ H1 Q
def EvA (b : Bool) (t : TA) (σ : L2.St) (G : Hp) (Rs : List SR) : Prop := ∀ G1 H1, Same G G1 → Rel b G1 H1 → ∀ Q : List V → Hp → Prop, (∀ vs G2 H2, Go G1 H1 G2 H2 → AlR Rs vs G2 → Q vs H2) → t σ H1 Q
def EvO (b : Bool) (t : TO) (σ : L2.St) (G : Hp) (o : Option Int) : Prop := ∀ G1 H1, Same G G1 → Rel b G1 H1 → ∀ Q : Option Int → Hp → Prop, (∀ G2 H2, Go G1 H1 G2 H2 → Q o H2) → t σ H1 Q
/-- a new list, owned by who asked for it -/
def EvN (b : Bool) (t : TE) (σ : L2.St) (G : Hp) {α : Type} (e : α → SR) (xs : List α) : Prop := ∀ G1 H1, Same G G1 → Rel b G1 H1 → ∀ Q : VK,
  (∀ p vs G2 H2, Go G1 H1 G2 H2 → H1 p = none → G2 p = none → H2 p = some (.lst vs) → vs.length ≤ sizeLine → Al e xs vs G2 → Q (.ref p) H2) → t σ H1 Q
section
variable {K : PySem.W.Frag} {b : Bool} {σ : L2.St} {G G' H : Hp} {t ta tb te : TE} {R R' : SR} {α β γ : Type} {e : α → SR} {f : β → SR}
theorem Ev.run (h : Ev b t σ G R) (r : Rel b G H) {Q : VK} (k : ∀ u G2 H2, Go G H G2 H2 → R.p u G2 → Q u H2) : t σ H Q := h G H (Same.refl G) r Q k
theorem EvT.run {t : TT} {c : Bool} (h : EvT b t σ G c) (r : Rel b G H) {Q : Bool → Hp → Prop} (k : ∀ G2 H2, Go G H G2 H2 → Q c H2) : t σ H Q := h G H (Same.refl G) r Q k
theorem EvA.run {t : TA} {Rs : List SR} (h : EvA b t σ G Rs) (r : Rel b G H) {Q : List V → Hp → Prop} (k : ∀ vs G2 H2, Go G H G2 H2 → AlR Rs vs G2 → Q vs H2) : t σ H Q := h G H (Same.refl G) r Q k
theorem EvN.run {xs : List α} (h : EvN b t σ G e xs) (r : Rel b G H) {Q : VK} (k : ∀ p vs G2 H2, Go G H G2 H2 → H p = none → G2 p = none → H2 p = some (.lst vs) → vs.length ≤ sizeLine → Al e xs vs G2 → Q (.ref p) H2) : t σ H Q := h G H (Same.refl G) r Q k
theorem Ev.mono (s : Same G G') (h : Ev b t σ G R) : Ev b t σ G' R := fun G1 H1 a r Q k => h G1 H1 (s.trans a) r Q k
theorem EvT.mono {t : TT} {c : Bool} (s : Same G G') (h : EvT b t σ G c) : EvT b t σ G' c := fun G1 H1 a r Q k => h G1 H1 (s.trans a) r Q k
theorem EvN.mono {xs : List α} (s : Same G G') (h : EvN b t σ G e xs) : EvN b t σ G' e xs := fun G1 H1 a r Q k => h G1 H1 (s.trans a) r Q k
theorem Ev.up (h : Ev false t σ G R) : Ev true t σ G R := fun G1 H1 a r Q k => h G1 H1 a r.low Q k
theorem EvT.up {t : TT} {c : Bool} (h : EvT false t σ G c) : EvT true t σ G c := fun G1 H1 a r Q k => h G1 H1 a r.low Q k
theorem Ev.is (h : Ev b t σ G R) (q : ∀ u G2, Same G G2 → R.p u G2 → R'.p u G2) : Ev b t σ G R' := fun G1 H1 a r Q k => h G1 H1 a r Q fun u G2 H2 g p => k u G2 H2 g (q u G2 (a.trans g.g) p)
theorem Ev.eq (h : Ev b t σ G R) (q : R = R') : Ev b t σ G R' := q ▸ h
theorem EvT.eq {t : TT} {c d : Bool} (h : EvT b t σ G c) (q : c = d) : EvT b t σ G d := q ▸ h
theorem EvN.eq {xs ys : List α} (h : EvN b t σ G e xs) (q : xs = ys) : EvN b t σ G e ys := q ▸ h
theorem EvN.ev {xs : List α} (h : EvN b t σ G e xs) : Ev b t σ G (Lst e xs) := fun G1 H1 a r Q k => h G1 H1 a r Q fun p vs G2 H2 g n1 n2 hp hl al =>
  k (.ref p) (upd G2 p (.lst vs)) H2 (g.give n1 n2 hp) ⟨p, vs, rfl, upd_same, hl, al.st (Same.new n2)⟩
theorem Ev.sqL {xs : List α} (h : Ev b t σ G (Lst e xs)) : Ev b t σ G (Sq K e xs) := h.is fun _ _ _ q => .inl q
theorem Ev.sqT {xs : List α} (h : Ev b t σ G (Tpl K e xs)) : Ev b t σ G (Sq K e xs) := h.is fun _ _ _ q => .inr q

theorem ev_var {i : Nat} {v : V} (h : σ[i]? = some (some v)) (q : R.p v G) : Ev b (tVar i) σ G R := fun G1 H1 a _ _ k => ⟨v, h, k v G1 H1 (Go.refl G1 H1) (R.st a q)⟩
theorem ev_c {v : V} : Ev b (tC v) σ G (cst v) := fun G1 H1 _ _ _ k => k v G1 H1 (Go.refl G1 H1) rfl
theorem ev_cR {v : V} (q : R.p v G) : Ev b (tC v) σ G R := fun G1 H1 a _ _ k => k v G1 H1 (Go.refl G1 H1) (R.st a q)
theorem ev_int {i : Int} : Ev b (tC (.int i)) σ G (I i) := ev_c
theorem ev_bl {i : Bool} : Ev b (tC (.bl i)) σ G (B i) := ev_c
theorem ev_str {i : Str} (h : okS i = true := by decide +kernel) : Ev b (tC (.str i)) σ G (S i) := ev_cR ⟨rfl, h⟩
theorem ev_non : Ev b (tC .non) σ G N := ev_c
theorem ea_nil : EvA b tNil σ G [] := fun G1 H1 _ _ _ k => k [] G1 H1 (Go.refl G1 H1) .nil
theorem ea_cons {tr : TA} {Rs : List SR} (h : Ev b ta σ G R) (hr : EvA b tr σ G Rs) : EvA b (tCons ta tr) σ G (R :: Rs) := fun G1 H1 a r Q k =>
  h G1 H1 a r _ fun u G2 H2 g p => hr G2 H2 (a.trans g.g) (g.r _ r) _ fun vs G3 H3 g' al => k _ G3 H3 (g.trans g') (.cons (R.st g'.g p) al)
/-- two values in a row, then a relation on them: the general form of a two-place operation -/
theorem ev_op {r2 : R2} {R1 R2 : SR} (ha : Ev b ta σ G R1) (hb : Ev b tb σ G R2)
    (hr : ∀ x y G1 H1, Same G G1 → Rel b G1 H1 → R1.p x G1 → R2.p y G1 → ∀ Q : VK, (∀ u G2 H2, Go G1 H1 G2 H2 → R.p u G2 → Q u H2) → r2 x y H1 Q) : Ev b (tOp r2 ta tb) σ G R := fun G1 H1 a r Q k =>
  ha G1 H1 a r _ fun x G2 H2 g p => hb G2 H2 (a.trans g.g) (g.r _ r) _ fun y G3 H3 g' p' =>
    hr x y G3 H3 ((a.trans g.g).trans g'.g) (g'.r _ (g.r _ r)) (R1.st g'.g p) p' Q fun u G4 H4 g'' q => k u G4 H4 ((g.trans g').trans g'') q
theorem en_op {r2 : R2} {R1 R2 : SR} {xs : List α} (ha : Ev b ta σ G R1) (hb : Ev b tb σ G R2)
    (hr : ∀ x y G1 H1, Same G G1 → Rel b G1 H1 → R1.p x G1 → R2.p y G1 → ∀ Q : VK, (∀ p vs G2 H2, Go G1 H1 G2 H2 → H1 p = none → G2 p = none → H2 p = some (.lst vs) → vs.length ≤ sizeLine → Al e xs vs G2 → Q (.ref p) H2) → r2 x y H1 Q) : EvN b (tOp r2 ta tb) σ G e xs := fun G1 H1 a r Q k =>
  ha G1 H1 a r _ fun x G2 H2 g p => hb G2 H2 (a.trans g.g) (g.r _ r) _ fun y G3 H3 g' p' =>
    hr x y G3 H3 ((a.trans g.g).trans g'.g) (g'.r _ (g.r _ r)) (R1.st g'.g p) p' Q fun q vs G4 H4 g'' n1 n2 h4 l4 q4 => k q vs G4 H4 ((g.trans g').trans g'') (g.free (g'.free n1)) n2 h4 l4 q4
/-- .. that leaves the heap as it is -/
theorem ev_opP {r2 : R2} {R1 R2 : SR} (ha : Ev b ta σ G R1) (hb : Ev b tb σ G R2)
    (hr : ∀ x y G1 H1, Same G G1 → Rel b G1 H1 → R1.p x G1 → R2.p y G1 → ∃ u, R.p u G1 ∧ ∀ Q : VK, Q u H1 → r2 x y H1 Q) : Ev b (tOp r2 ta tb) σ G R := ev_op ha hb fun x y G1 H1 a r p q Q k => by
  obtain ⟨u, hu, h⟩ := hr x y G1 H1 a r p q
  exact h Q (k u G1 H1 (Go.refl G1 H1) hu)
theorem ev_cb {rc : List V → Hp → VK → Prop} {tr : TA} {Rs : List SR} (ha : EvA b tr σ G Rs)
    (hr : ∀ vs G1 H1, Same G G1 → Rel b G1 H1 → AlR Rs vs G1 → ∀ Q : VK, (∀ u G2 H2, Go G1 H1 G2 H2 → R.p u G2 → Q u H2) → rc vs H1 Q) : Ev b (tCB rc tr) σ G R := fun G1 H1 a r Q k =>
  ha G1 H1 a r _ fun vs G2 H2 g al => hr vs G2 H2 (a.trans g.g) (g.r _ r) al Q fun u G3 H3 g' p => k u G3 H3 (g.trans g') p
theorem en_cb {rc : List V → Hp → VK → Prop} {tr : TA} {Rs : List SR} {xs : List α} (ha : EvA b tr σ G Rs)
    (hr : ∀ vs G1 H1, Same G G1 → Rel b G1 H1 → AlR Rs vs G1 → ∀ Q : VK, (∀ p vs G2 H2, Go G1 H1 G2 H2 → H1 p = none → G2 p = none → H2 p = some (.lst vs) → vs.length ≤ sizeLine → Al e xs vs G2 → Q (.ref p) H2) → rc vs H1 Q) : EvN b (tCB rc tr) σ G e xs := fun G1 H1 a r Q k =>
  ha G1 H1 a r _ fun vs G2 H2 g al => hr vs G2 H2 (a.trans g.g) (g.r _ r) al Q fun p ws G3 H3 g' n1 n2 h3 l3 q3 => k p ws G3 H3 (g.trans g') (g.free n1) n2 h3 l3 q3
/-- one argument -/
theorem alr1 {r : SR} {vs : List V} (h : AlR [r] vs G) : ∃ v, vs = [v] ∧ r.p v G := by
  cases h with
  | cons h t => cases t; exact ⟨_, rfl, h⟩
theorem alr2 {r s : SR} {vs : List V} (h : AlR [r, s] vs G) : ∃ v w, vs = [v, w] ∧ r.p v G ∧ s.p w G := by
  cases h with
  | cons h t => cases t with
    | cons h2 t => cases t; exact ⟨_, _, rfl, h, h2⟩
theorem alr3 {r s q : SR} {vs : List V} (h : AlR [r, s, q] vs G) : ∃ v w z, vs = [v, w, z] ∧ r.p v G ∧ s.p w G ∧ q.p z G := by
  cases h with
  | cons h t => cases t with
    | cons h2 t => cases t with
      | cons h3 t => cases t; exact ⟨_, _, _, rfl, h, h2, h3⟩

/-! ### tests -/
theorem et_test {c : Bool} (h : Ev b te σ G (B c)) : EvT b (tTest te) σ G c := fun G1 H1 a r Q k => h G1 H1 a r _ fun u G2 H2 g p => ⟨c, p, k G2 H2 g⟩
theorem et_B {c : Bool} (h : Ev b te σ G (B c)) : EvT b (tB te) σ G c := fun G1 H1 a r Q k => h G1 H1 a r _ fun u G2 H2 g p => ⟨c, p, k G2 H2 g⟩
theorem et_and {t u : TT} {c d : Bool} (h1 : EvT b t σ G c) (h2 : c = true → EvT b u σ G d) : EvT b (tAnd t u) σ G (c && d) := fun G1 H1 a r Q k => h1 G1 H1 a r _ fun G2 H2 g => by
  cases c with
  | true => exact h2 rfl G2 H2 (a.trans g.g) (g.r _ r) Q fun G3 H3 g' => k G3 H3 (g.trans g')
  | false => exact k G2 H2 g
theorem et_or {t u : TT} {c d : Bool} (h1 : EvT b t σ G c) (h2 : c = false → EvT b u σ G d) : EvT b (tOr t u) σ G (c || d) := fun G1 H1 a r Q k => h1 G1 H1 a r _ fun G2 H2 g => by
  cases c with
  | true => exact k G2 H2 g
  | false => exact h2 rfl G2 H2 (a.trans g.g) (g.r _ r) Q fun G3 H3 g' => k G3 H3 (g.trans g')
theorem et_not {t : TT} {c : Bool} (h : EvT b t σ G c) : EvT b (tNot t) σ G (!c) := fun G1 H1 a r Q k => h G1 H1 a r _ fun G2 H2 g => k G2 H2 g
theorem et_yes : EvT b tYes σ G true := fun G1 H1 _ _ _ k => k G1 H1 (Go.refl G1 H1)
theorem ev_and {c d : Bool} (h1 : Ev b ta σ G (B c)) (h2 : c = true → Ev b tb σ G (B d)) : Ev b (tAndV ta tb) σ G (B (c && d)) := fun G1 H1 a r Q k => h1 G1 H1 a r _ fun u G2 H2 g p => ⟨c, p, by
  cases c with
  | true => exact h2 rfl G2 H2 (a.trans g.g) (g.r _ r) Q fun u G3 H3 g' p' => k u G3 H3 (g.trans g') p'
  | false => exact k _ G2 H2 g rfl⟩
theorem ev_or {c d : Bool} (h1 : Ev b ta σ G (B c)) (h2 : c = false → Ev b tb σ G (B d)) : Ev b (tOrV ta tb) σ G (B (c || d)) := fun G1 H1 a r Q k => h1 G1 H1 a r _ fun u G2 H2 g p => ⟨c, p, by
  cases c with
  | true => exact k _ G2 H2 g rfl
  | false => exact h2 rfl G2 H2 (a.trans g.g) (g.r _ r) Q fun u G3 H3 g' p' => k u G3 H3 (g.trans g') p'⟩
theorem ev_not {c : Bool} (h : Ev b ta σ G (B c)) : Ev b (tNotV ta) σ G (B (!c)) := fun G1 H1 a r Q k => h G1 H1 a r _ fun u G2 H2 g p => ⟨c, p, k _ G2 H2 g rfl⟩
theorem ev_if {t : TT} {c : Bool} (h : EvT b t σ G c) (h1 : c = true → Ev b ta σ G R) (h2 : c = false → Ev b tb σ G R) : Ev b (tIf t ta tb) σ G R := fun G1 H1 a r Q k => h G1 H1 a r _ fun G2 H2 g => by
  cases c with
  | true => exact h1 rfl G2 H2 (a.trans g.g) (g.r _ r) Q fun u G3 H3 g' p => k u G3 H3 (g.trans g') p
  | false => exact h2 rfl G2 H2 (a.trans g.g) (g.r _ r) Q fun u G3 H3 g' p => k u G3 H3 (g.trans g') p

/-! ### displays -/
theorem en_lst {tr : TA} {xs : List α} (h : EvA b tr σ G (xs.map e)) (hl : xs.length ≤ 100000) : EvN b (tLst tr) σ G e xs := fun G1 H1 a r Q k =>
  h G1 H1 a r _ fun vs G2 H2 g al => by
    have al' := AlR.of al
    have l : vs.length ≤ sizeLine := by rw [al'.len]; exact Nat.le_trans hl (by decide)
    exact ⟨l, fun p hp => k p vs G2 _ (g.trans (Go.own (g.r _ r) hp)) (g.free hp) ((g.r _ r).free hp) upd_same l al'⟩
theorem ev_tpl {tr : TA} {xs : List α} (h : EvA b tr σ G (xs.map e)) (hl : xs.length ≤ 100000) : Ev b (tTup tr) σ G (Tpl K e xs) := fun G1 H1 a r Q k =>
  h G1 H1 a r _ fun vs G2 H2 g al => by
    have al' := AlR.of al
    have l : vs.length ≤ sizeLine := by rw [al'.len]; exact Nat.le_trans hl (by decide)
    exact ⟨l, fun p hp => k _ _ _ (g.trans (Go.new (g.r _ r) hp)) ⟨p, vs, rfl, SqT.of upd_same, l, al'.st (Same.new ((g.r _ r).free hp))⟩⟩
theorem ev_pr {x : α} {y : β} (h1 : Ev b ta σ G (e x)) (h2 : Ev b tb σ G (f y)) : Ev b (tTup (tCons ta (tCons tb tNil))) σ G (Pr K e f (x, y)) := fun G1 H1 a r Q k =>
  (ea_cons h1 (ea_cons h2 ea_nil)) G1 H1 a r _ fun vs G2 H2 g al => by
    obtain ⟨v, w, rfl, q1, q2⟩ := alr2 al
    refine ⟨(by show 2 ≤ sizeLine; decide), fun p hp => ?_⟩
    have s := Same.new (o := .tup [v, w]) ((g.r _ r).free hp)
    exact k _ _ _ (g.trans (Go.new (g.r _ r) hp)) ⟨p, v, w, rfl, SqT.of upd_same, (e x).st s q1, (f y).st s q2⟩
theorem ev_tr {tc : TE} {g : γ → SR} {x : α} {y : β} {z : γ} (h1 : Ev b ta σ G (e x)) (h2 : Ev b tb σ G (f y)) (h3 : Ev b tc σ G (g z)) : Ev b (tTup (tCons ta (tCons tb (tCons tc tNil)))) σ G (Tr K e f g (x, y, z)) := fun G1 H1 a r Q k =>
  (ea_cons h1 (ea_cons h2 (ea_cons h3 ea_nil))) G1 H1 a r _ fun vs G2 H2 g' al => by
    obtain ⟨v, w, u, rfl, q1, q2, q3⟩ := alr3 al
    refine ⟨(by show 3 ≤ sizeLine; decide), fun p hp => ?_⟩
    have s := Same.new (o := .tup [v, w, u]) ((g'.r _ r).free hp)
    exact k _ _ _ (g'.trans (Go.new (g'.r _ r) hp)) ⟨p, v, w, u, rfl, SqT.of upd_same, (e x).st s q1, (f y).st s q2, (g z).st s q3⟩
end
end Gd

-- part Gd2b
set_option Elab.async false
set_option linter.all false
set_option maxRecDepth 100000
set_option maxHeartbeats 2000000
/-! ### tuples sorted, empty ones among them -/
namespace Gd
open PySem PySem.W PySem.SeqAt PySem.Calls PyProof.Rows
section
variable {prog : Program} {w : World} {A : Around} {s : Shared}
theorem call_tuple_lt {E : Value → Shared → Prop} {Q : Value → Shared → Prop} {l b : Addr} {items items2 : Array Value} {e r : Nat → Bool} (hl : s.heap.IsTuple l items) (hb : s.heap.IsTuple b items2)
    (he : ∀ j (h1 : j < items.size) (h2 : j < items2.size), EqAt A.in1 s items[j] items2[j] (e j)) (hr : ∀ j (h1 : j < items.size) (h2 : j < items2.size), e j = false → RcLt A.in1 s items[j] items2[j] (r j))
    (h : Q (.bool (firstLt e r (decide (items.size < items2.size)) (List.range (min items.size items2.size)))) s) : wpAny (model prog w) A (call (.builtin "tuple.__lt__") [.ref l, .ref b]) Q E s := by
  obtain ⟨⟨cls, dd, data, sl⟩, ho, hc, n, hd⟩ := id hl
  obtain ⟨⟨cls2, dd2, data2, sl2⟩, ho2, hc2, n2, hd2⟩ := id hb
  simp only at hc hd hc2 hd2
  subst hc hd hc2 hd2
  exact call_meets F.slot_tuple_lt ⟨_, ho, rfl⟩ F.entry_tuple_lt (F.args_tuple_lt_2 _ _) (tuple_ltAt l b items items2 n n2 dd dd2 sl sl2 e r) ⟨ho, ho2, he, hr, h⟩
theorem oneLt_tup {E : Value → Shared → Prop} {xs ys : List PyData} {a b : Value} {as bs : List Addr} {Q : Bool → Shared → Prop} (ra : Reads s.heap a (.tuple xs) as) (rb : Reads s.heap b (.tuple ys) bs) (h : alike (.tuple xs) (.tuple ys) = true)
    (hu : A.units + min (PyData.tuple xs).depth (PyData.tuple ys).depth < cLine) (hq : Q (dataLt (.tuple xs) (.tuple ys)) s) : wpAny (model prog w) A (oneLt' true a b) Q E s := by
  have hal : alikeAll xs ys = true := by simpa [alike] using h
  cases ra with
  | @tuple l o vs n _ as₁ h1 h2 h3 h4 =>
    cases rb with
    | @tuple l' o' vs' n' _ bs₁ k1 k2 k3 k4 =>
      have n1 : vs.size = xs.length := by simpa using ReadsAll.length _ _ _ h4
      have n2 : vs'.size = ys.length := by simpa using ReadsAll.length _ _ _ k4
      rw [dataLt_tuple, ← firstLt_toks xs ys hal, ← n1, ← n2] at hq
      rw [oneLt'_eq]
      simp only [if_true]
      refine wpAny_bind (wpAny_cRoomFor (room_here hu) ?_)
      refine wpAny_bind (wpAny_callSpecialIfBound?_slot (T := "tuple") ⟨_, h1, h2⟩ F.slot_tuple_lt (call_tuple_lt (e := pairEq xs ys) (r := fun j => dataLt (xs.getD j .none) (ys.getD j .none)) ⟨_, h1, h2, _, h3⟩ ⟨_, k1, k2, _, k3⟩ (fun j j1 j2 => ?_) (fun j j1 j2 hj => ?_) ?_))
      · have := eqAt_alikeAll xs ys A.in1 s vs.toList vs'.toList _ _ h4 k4 hal (room_in hu) j (by simpa using j1) (by simpa using j2)
        simpa using this
      · have := rcLt_alikeAll xs ys A.in1 s vs.toList vs'.toList _ _ h4 k4 hal (room_in hu) j (by simpa using j1) (by simpa using j2) hj
        simpa using this
      · exact wpAny_truthy_bool hq
def isE : PyData → Bool
  | .tuple [] => true
  | _ => false
theorem firsts_tup {M : Model} {E : Value → Shared → Prop} : ∀ {vs : List Value} {ds : List PyData}, EachIs (fun v d => ∃ as, Reads s.heap v d as) vs ds → (∀ d, d ∈ ds → ∃ xs, d = .tuple xs) →
    ∃ fs : List (Option Value), EachIs (fun o d => o.isSome = !isE d) fs ds ∧ ∀ Q : List (Option Value) → Shared → Prop, Q fs s → wpAny M A (vs.mapM firstOfTuple') Q E s
  | _, _, .nil, _ => ⟨[], .nil, fun Q h => by rw [List.mapM_nil]; exact wpAny_pure h⟩
  | _, _, .cons (b := d) ⟨as, r⟩ t, ht => by
    obtain ⟨fs, h1, h2⟩ := firsts_tup t fun d hd => ht d (List.mem_cons_of_mem _ hd)
    obtain ⟨xs, rfl⟩ := ht d (List.mem_cons_self ..)
    cases r with
    | @tuple a o its n _ _ ho hc hd hr =>
      refine ⟨its[0]? :: fs, .cons ?_ h1, fun Q h => ?_⟩
      · cases xs with
        | nil =>
          have : its.toList = [] := by
            have := ReadsAll.length _ _ _ hr
            exact List.eq_nil_of_length_eq_zero (by simpa using this)
          have e0 : its[0]? = none := by rw [← Array.getElem?_toList, this]; rfl
          rw [e0]; rfl
        | cons x r =>
          have hl : its.toList.length = r.length + 1 := by simpa using ReadsAll.length _ _ _ hr
          have : (its[0]?).isSome = true := by
            rw [← Array.getElem?_toList]
            cases e : its.toList with
            | nil => rw [e] at hl; simp at hl
            | cons y z => rfl
          rw [this]; rfl
      · rw [List.mapM_cons]
        refine wpAny_bind ?_
        rw [kas_first_eq]
        refine wpAny_bind (wpAny_typeOf (T := "tuple") ⟨o, ho, hc⟩ ?_)
        rw [if_neg (by decide)]
        refine wpAny_bind (listItems_at ho hd (wpAny_pure ?_))
        exact wpAny_bind (h2 _ (wpAny_pure h))
theorem each_len {α β : Type} {R : α → β → Prop} : ∀ {as : List α} {bs : List β}, EachIs R as bs → as.length = bs.length
  | _, _, .nil => rfl
  | _, _, .cons _ t => congrArg (· + 1) (each_len t)
theorem SortsAt.tups {vs : List Value} {ds : List PyData} (e : EachIs (fun v d => ∃ as, Reads s.heap v d as) vs ds) (hal : AllAlike ds) (ht : ∀ d, d ∈ ds → ∃ xs, d = .tuple xs) (hu : ∀ d, d ∈ ds → A.units + d.depth < cLine) : SortsAt prog w A s (dataKind s.heap ds) vs := by
  by_cases hE : ∃ d, d ∈ ds ∧ isE d = true
  · have room : ∀ {d d' : PyData}, d ∈ ds → A.units + min d.depth d'.depth < cLine := fun {d d'} hd => Nat.lt_of_le_of_lt (Nat.add_le_add_left (Nat.min_le_left _ _) _) (hu d hd)
    refine ⟨fun v hv => ?_, ?_⟩
    · obtain ⟨d, hd, as, r⟩ := e.left v hv
      exact ⟨_, dataKind_some hal hd r⟩
    · cases ds with
      | nil => obtain ⟨d, hd, _⟩ := hE; exact absurd hd (by simp)
      | cons d₀ ds₀ =>
        have noAll : ∀ {fs : List (Option Value)}, EachIs (fun o d => o.isSome = !isE d) fs (d₀ :: ds₀) → (fs.toArray.all fun x => x.isSome) = false := fun {fs} hf => by
          obtain ⟨d, hd, he⟩ := hE
          have : ∀ {as : List (Option Value)} {bs : List PyData}, EachIs (fun o d => o.isSome = !isE d) as bs → d ∈ bs → ∃ o ∈ as, o.isSome = false := by
            intro as bs h
            induction h with
            | nil => intro q; exact absurd q (by simp)
            | @cons a b as bs h t ih =>
              intro q
              rcases List.mem_cons.mp q with rfl | q
              · exact ⟨a, List.mem_cons_self .., by rw [h, he]; rfl⟩
              · obtain ⟨o, h1, h2⟩ := ih q
                exact ⟨o, List.mem_cons_of_mem _ h1, h2⟩
          obtain ⟨o, h1, h2⟩ := this hf hd
          cases z : (fs.toArray.all fun x => x.isSome) with
          | false => rfl
          | true =>
            simp only [List.all_toArray, List.all_eq_true] at z
            rw [z o h1] at h2; cases h2
        cases h0 : isE d₀ with
        | false =>
          refine ⟨general', ?_, fun h2 E Q hq => ?_⟩
          · intro E x y a b Q ha hb hq
            obtain ⟨d, as, hd, ra, rfl⟩ := dataKind_inv ha
            obtain ⟨d', as', hd', rb, rfl⟩ := dataKind_inv hb
            show wpAny _ _ (oneLt' false x y) _ _ _
            obtain ⟨zs, rfl⟩ := ht d hd
            exact oneLt_alike (fun z => by cases z) ra rb (hal _ hd d' hd') (fun z => by cases z) (room hd) hq
          · obtain ⟨fs, hf, hm⟩ := firsts_tup (M := model prog w) (A := A) (E := E) e ht
            rw [keyKind'_eq, List.mapM_toArray, map_eq_pure_bind]
            refine wpAny_bind (wpAny_bind (hm _ (wpAny_pure ?_)))
            rw [if_neg (by rw [noAll hf]; exact Bool.false_ne_true)]
            cases hf with
            | @cons o d os ds' ho _ =>
              have : (((o :: os).toArray[0]?).bind id).isSome = true := by
                show (o).isSome = true
                rw [ho, h0]; rfl
              rw [if_pos this]
              exact wpAny_pure hq
        | true =>
          refine ⟨oneType', ?_, fun h2 E Q hq => ?_⟩
          · intro E x y a b Q ha hb hq
            obtain ⟨d, as, hd, ra, rfl⟩ := dataKind_inv ha
            obtain ⟨d', as', hd', rb, rfl⟩ := dataKind_inv hb
            have hdd := hal d hd d' hd'
            have hr := room (d' := d') hd
            obtain ⟨zs, rfl⟩ := ht d hd
            obtain ⟨zs', rfl⟩ := ht d' hd'
            rw [keyLt'_oneType]
            exact oneLt_tup ra rb hdd hr hq
          · obtain ⟨fs, hf, hm⟩ := firsts_tup (M := model prog w) (A := A) (E := E) e ht
            rw [keyKind'_eq, List.mapM_toArray, map_eq_pure_bind]
            refine wpAny_bind (wpAny_bind (hm _ (wpAny_pure ?_)))
            rw [if_neg (by rw [noAll hf]; exact Bool.false_ne_true)]
            have hlen := each_len e
            cases hf with
            | @cons o d os ds' ho _ =>
              have : ¬ (((o :: os).toArray[0]?).bind id).isSome = true := by
                show ¬ (o).isSome = true
                rw [ho, h0]; simp
              rw [if_neg this]
              rw [oneTypeOnly'_eq, List.mapM_toArray, map_eq_pure_bind]
              have hT : ∀ v ∈ vs, Looks (model prog w) s.heap (typeOf v) (Value.type "tuple") := fun v hv => by
                obtain ⟨d1, hd1, as1, r1⟩ := e.left v hv
                obtain ⟨z1, rfl⟩ := ht d1 hd1
                exact looks_reads r1
              refine wpAny_bind (wpAny_bind (wpAny_bind (kas_mapM (r := Value.type "tuple") _ (fun v hv Q' hq => (hT v hv).here hq) (wpAny_pure ?_))))
              have hall : ((List.map (fun _ => Value.type "tuple") vs).toArray.all fun x => x == Value.type "tuple") = true := by
                simp only [List.all_toArray, List.all_map, List.all_eq_true]
                intro _ _
                exact beq_self_eq_true _
              have hz : (List.map (fun _ => Value.type "tuple") vs).toArray[0]? = some (Value.type "tuple") := by
                cases vs with
                | nil => simp at hlen
                | cons a b => simp
              rw [hz]
              simp only [hall, if_true]
              exact wpAny_pure (wpAny_pure hq)
  · refine PySem.W.SortsAt.data e hal (.inl fun d hd => ?_) hu
    obtain ⟨xs, rfl⟩ := ht d hd
    cases xs with
    | nil => exact absurd ⟨_, hd, rfl⟩ hE
    | cons x r => exact ⟨x, r, rfl⟩
/-- all are tuples, or none is a tuple or None -/
def Sortable2 (ds : List PyData) : Prop := (∀ d, d ∈ ds → ∃ xs, d = .tuple xs) ∨ ∀ d, d ∈ ds → d ≠ .none ∧ ∀ xs, d ≠ .tuple xs
theorem SortsAt.data2 {vs : List Value} {ds : List PyData} (e : EachIs (fun v d => ∃ as, Reads s.heap v d as) vs ds) (hal : AllAlike ds) (hk : Sortable2 ds) (hu : ∀ d, d ∈ ds → A.units + d.depth < cLine) : SortsAt prog w A s (dataKind s.heap ds) vs := by
  rcases hk with hk | hk
  · exact SortsAt.tups e hal hk hu
  · exact PySem.W.SortsAt.data e hal (.inr hk) hu
end
end Gd

-- part Gd2
set_option Elab.async false
set_option linter.all false
set_option maxRecDepth 100000
set_option maxHeartbeats 2000000
/-! ### rules that the layer lacks -/
namespace Gd
open PySem PySem.Spec PyProof.Rows L2
open PySem.W (EachIs AllAlike dataLe)
section
variable {prog : Program} {w : World} {A : Around} {E : Value → Shared → Prop} {s : Shared}
theorem collect_seq {l : Addr} {T : String} {o : Obj} {vs : List Value} {n : Nat} {Q : List Value → Shared → Prop} (hT : T = "list" ∨ T = "tuple") (ho : s.heap.get? l = some o) (hc : o.cls = .type T) (hd : o.data = .seq vs.toArray n)
    (h : Q vs { s with heap := (s.heap.push (seqObj "list" #[] 0)).update s.heap.objs.size (Obj.mapSeq (· ++ vs.toArray)) }) (hsz : vs.length ≤ sizeLine) :
    wpAny (model prog w) A (collect (.ref l)) Q E s := by
  unfold collect
  refine wpAny_bind (wpAny_runValue (codeAny_builtin entry_proto_collect' ?_))
  show wpAny _ _ (do again (.builtin "list.__iadd__" ⟨[← newList [], .ref l], []⟩)) _ _ s
  refine wpAny_bind (wpAny_newList (wpAny_pure ⟨Code.quiet_builtin _ (by decide +kernel), codeAny_builtin entry_list_iadd' ?_⟩))
  show wpAny _ _ (Builtin.List.listExtendWith (.ref s.heap.objs.size) (.ref l) (.ref s.heap.objs.size)) _ _ { s with heap := s.heap.push (seqObj "list" #[] 0) }
  unfold Builtin.List.listExtendWith
  have ho' : (s.heap.push (seqObj "list" #[] 0)).get? l = some o := Heap.get?_push_of_some _ ho
  refine wpAny_bind (wpAny_typeOf (T := T) ⟨o, ho', hc⟩ ?_)
  have ht : (Value.type T == Value.type "list" || Value.type T == Value.type "tuple") = true := by
    rcases hT with rfl | rfl <;> rfl
  rw [if_pos (by rw [Bool.or_assoc, ht]; simp)]
  refine wpAny_bind (listItems_at ho' hd ?_)
  refine wpAny_bind (listItems_at (xs := #[]) (n := 0) (Heap.get?_push_size _ rfl) rfl ?_)
  rw [if_neg (by simp)]
  refine wpAny_bind (listUpdate_at (xs := #[]) (n := 0) (Heap.get?_push_size _ rfl) rfl ?_ (Nat.zero_le _) (by show (#[] ++ vs.toArray).size ≤ sizeLine + 1; simp only [Array.size_append, List.size_toArray, List.length_nil]; omega))
  refine wpAny_pure ?_
  show wpAny (model prog w) A (do
      let o ← load s.heap.objs.size
      match o.data with
      | .seq xs _ => pure xs.toList
      | _ => unsupported "internal:collect") Q E { s with heap := (s.heap.push (seqObj "list" #[] 0)).update s.heap.objs.size (Obj.mapSeq (· ++ vs.toArray)) }
  refine wpAny_bind (wpAny_load (get?_update_seq (Heap.get?_push_size _ rfl) _) ?_)
  show wpAny _ _ (pure ((#[] : Array Value) ++ vs.toArray).toList) Q E _
  rw [show ((#[] : Array Value) ++ vs.toArray).toList = vs by simp]
  exact wpAny_pure h
open PySem.W in
theorem sorted_of_sortS {l : Addr} {T : String} {o : Obj} {vs : List Value} {n : Nat} {Q : Value → Shared → Prop} (hT : T = "list" ∨ T = "tuple") (ho : s.heap.get? l = some o) (hc : o.cls = .type T) (hd : o.data = .seq vs.toArray n) (hL : vs.length ≤ sizeLine)
    (body : ∀ E' : Value → Shared → Prop, wpAny (model prog w) A.in1.in1 (Builtin.«list.sort» ⟨[.ref (s.heap.objs.size + 1)], []⟩) (fun f s' => f = .done (.ret .none) ∧ Q (.ref (s.heap.objs.size + 1)) s') E' { s with heap := copyHeap s.heap vs }) :
    wpAny (model prog w) A (call (.builtin "sorted") [.ref l]) Q E s := by
  refine call_function_entry_kw kind_sorted plain_sorted entry_sorted (args_sorted1 _) ?_
  unfold Builtin.«sorted»
  refine wpAny_bind (m := checkCount "sorted" 1 1 _) (wpAny_pure ?_)
  refine wpAny_bind (collect_seq hT ho hc hd ?_ hL)
  refine wpAny_bind (wpAny_newList ?_ hL)
  have hsz : ((s.heap.push (seqObj "list" #[] 0)).update s.heap.objs.size (Obj.mapSeq (· ++ vs.toArray))).objs.size = s.heap.objs.size + 1 := by
    rw [Heap.size_update, size_push']
  show wpAny _ _ _ _ _ { s with heap := copyHeap s.heap vs }
  rw [hsz]
  refine wpAny_bind (wpAny_holding (wpAny_call_entry_kw slot_list_sort ⟨_, copyHeap_at s.heap vs, rfl⟩ entry_list_sort ?body (args_list_sort _)))
  case body =>
    show wpAny (model prog w) A.in1.in1 (Builtin.«list.sort» ⟨[.ref (s.heap.objs.size + 1)], []⟩) _ _ _
    refine wpAny_mono (body _) (fun f s' hf => ?_) fun _ _ e => e
    obtain ⟨rfl, hq⟩ := hf
    exact ⟨_, rfl, wpAny_pure ⟨_, rfl, hq⟩⟩
open PySem.W in
theorem sorted_dataS {β : Type} {R : Value → β → Prop} {bs : List β} {enc : β → PyData} {l : Addr} {T : String} {o : Obj} {vs : List Value} {n : Nat} {Q : Value → Shared → Prop} (hT : T = "list" ∨ T = "tuple") (ho : s.heap.get? l = some o) (hc : o.cls = .type T) (hd : o.data = .seq vs.toArray n)
    (e : EachIs R vs bs) (er : EachIs (fun v b => ∃ as, Reads s.heap v (enc b) as) vs bs) (hal : AllAlike (bs.map enc)) (hk : Sortable2 (bs.map enc)) (hL : bs.length ≤ sizeLine)
    (hu : ∀ b, b ∈ bs → A.units + 2 + (enc b).depth < cLine) (h : ∀ out, out.length = bs.length → EachIs R out (bs.mergeSort (dataLe false enc)) → Q (.ref (s.heap.objs.size + 1)) { s with heap := sortedAll s.heap vs (List.toArray out) }) :
    wpAny (model prog w) A (call (.builtin "sorted") [.ref l]) Q E s := by
  have er' : EachIs (fun v b => ∃ as, Reads (sortingHeap (copyHeap s.heap vs) (s.heap.objs.size + 1) vs) v (enc b) as) vs bs := er.mono fun _ _ ⟨as, r⟩ => ⟨as, PyProof.Rows.Reads.keeps (fun _ _ => sorting_copy_old) r⟩
  exact sorted_of_sortS hT ho hc hd (by rw [e.length]; exact hL) fun E' => list_sort_vals (s := { s with heap := copyHeap s.heap vs }) (copyHeap_at s.heap vs)
    (SortsAt.data2 (s := { s with heap := sortingHeap (copyHeap s.heap vs) (s.heap.objs.size + 1) vs }) (each_map (R := fun v d => ∃ as, Reads (sortingHeap (copyHeap s.heap vs) (s.heap.objs.size + 1) vs) v d as) enc er') hal hk (bound_map hu)) (by rw [e.length]; exact hL)
    ⟨rfl, h _ (by rw [sortVals_length false rfl]; exact e.length) (sortVals_data false e er' hal)⟩
end
theorem each_vals {β : Type} {R : V → β → Prop} : ∀ {us : List Value} {bs : List β}, EachIs (fun u b => ∃ v, RelV v u ∧ R v b) us bs → ∃ ws, Vals ws us ∧ EachIs R ws bs
  | _, _, .nil => ⟨[], .nil, .nil⟩
  | _, _, .cons ⟨v, r, h⟩ t => by
    obtain ⟨ws, h1, h2⟩ := each_vals t
    exact ⟨v :: ws, .cons r h1, .cons h h2⟩
theorem each_up {β : Type} {R : V → β → Prop} : ∀ {xs : List V} {us : List Value} {bs : List β}, Vals xs us → EachIs R xs bs → EachIs (fun u b => ∃ v, RelV v u ∧ R v b) us bs
  | _, _, _, .nil, .nil => .nil
  | _, _, _, .cons r t, .cons h q => .cons ⟨_, r, h⟩ (each_up t q)
/-- sorted(xs), a list or a tuple of alike data -/
def rSrt (K : PySem.W.Frag) : List V → Hp → VK → Prop := fun vs H Q => ∃ (a : Addr) (xs : List V) (β : Type) (bs : List β) (enc : β → PyData) (R : V → β → Prop), vs = [.ref a] ∧ (SqL K H a xs ∨ SqT K H a xs) ∧
  EachIs R xs bs ∧ EachIs (fun v b => Dp K H v (enc b)) xs bs ∧ AllAlike (bs.map enc) ∧ Sortable2 (bs.map enc) ∧ (∀ b, b ∈ bs → (enc b).depth ≤ 60) ∧
  ∀ ws p, H p = none → EachIs R ws (bs.mergeSort (dataLe false enc)) → Q (.ref p) (upd H p (.lst ws))
section
variable {X : Cx}
theorem cr_srt (hu : X.A.units + 64 < cLine) : CallR X (.builtin "sorted") (rSrt X.K) := by
  intro pins s σ H vs us Q I r h
  obtain ⟨a, xs, β, bs, enc, R, rfl, hs, e, ed, hal, hk, hdp, q⟩ := h
  rw [Vals.ref1 r]
  have fin : ∀ (T : String) (o : Obj) (its : List Value) (n : Nat), T = "list" ∨ T = "tuple" → s.heap.get? a = some o → o.cls = .type T → o.data = .seq its.toArray n → Vals xs its → xs.length ≤ sizeLine →
      wpAny (model X.prog X.w) X.A (call (.builtin "sorted") [.ref a]) (EP X pins σ Q) X.xe s := fun T o its n hT ho hc hd rv hl => by
    have er : EachIs (fun u b => ∃ as, Reads s.heap u (enc b) as) its bs := (each_up rv ed).mono fun u b ⟨v, r, d⟩ => Dp.reads I (enc b) v u d r
    have hlen : bs.length = xs.length := by rw [e.length]
    refine sorted_dataS (R := fun u b => ∃ v, RelV v u ∧ R v b) hT ho hc hd (each_up rv e) er hal hk (by rw [hlen]; exact hl) (fun b hb => ?_) fun out hlo ho2 => ?_
    · have := hdp b hb
      omega
    · obtain ⟨ws, hv, hw⟩ := each_vals ho2
      obtain ⟨ep, he'⟩ := PyProof.Rows.sortedAll_at s.heap its out.toArray
      have hz : ws.length ≤ sizeLine := by rw [hv.length, hlo, hlen]; exact hl
      exact ⟨.ref _, upd H (s.heap.objs.size + 1) (.lst ws), I.laid (t' := s.toks) (fun _ _ => PyProof.Rows.sortedAll_old) (Nat.le_succ _) ⟨hz, out, ep, hv, by simpa using he'⟩, rfl, q ws _ (I.hok.fresh (Nat.le_succ _)) hw⟩
  rcases hs with hs | hs
  · obtain ⟨its, rv, pl, hl⟩ := I.list hs
    obtain ⟨o, ho, hc, n, hd⟩ := pl.isList
    exact fin "list" o its n (.inl rfl) ho hc hd rv hl
  · obtain ⟨its, rv, pl, hl⟩ := I.tuple hs
    obtain ⟨o, ho, hc, n, hd⟩ := pl
    exact fin "tuple" o its n (.inr rfl) ho hc hd rv hl
end
end Gd

-- part Gd3
set_option Elab.async false
set_option linter.all false
set_option maxRecDepth 100000
set_option maxHeartbeats 2000000
namespace Gd
open PySem PySem.Spec PyProof.Rows L2
/-! ### either of two rules -/
theorem PI.or {X : Cx} {tg it : Expr} {w1 w2 : TI} (h1 : PI X tg it w1) (h2 : PI X tg it w2) : PI X tg it (fun σ H R => w1 σ H R ∨ w2 σ H R) :=
  ⟨fun pins s σ H R I h => h.elim (fun h => h1.run pins s σ H R I h) fun h => h2.run pins s σ H R I h⟩
theorem PG.or {X : Cx} {tg : Expr} {g1 g2 : TG} (h1 : PG X tg g1) (h2 : PG X tg g2) : PG X tg (fun v σ H Q => g1 v σ H Q ∨ g2 v σ H Q) :=
  ⟨fun pins s σ H v u Q I r h => h.elim (fun h => h1.run pins s σ H v u Q I r h) fun h => h2.run pins s σ H v u Q I r h⟩
theorem PE.or {X : Cx} {e : Expr} {t1 t2 : TE} (h1 : PE X e t1) (h2 : PE X e t2) : PE X e (fun σ H Q => t1 σ H Q ∨ t2 σ H Q) :=
  ⟨fun pins s σ H Q I h => h.elim (fun h => h1.run pins s σ H Q I h) fun h => h2.run pins s σ H Q I h⟩
/-! ### enumerate(tuple) -/
open Sem (wp) in
open AutoSeq1 (wpAny_loadPart') in
theorem meets_enumT {v : Value} {o : Obj} {H : Heap → Prop} (B : Begins v o H) :
    Meets (Builtin.«enumerate.__new__» ⟨[.type "enumerate", v], []⟩) (fun _ R s => H s.heap ∧
      R (.ok (.ret (.ref (s.heap.push o).objs.size))) { s with heap := (s.heap.push o).push { cls := .type "enumerate", data := .fields #[.none, .bool false, .ref s.heap.objs.size, rawInt 0, .none, .none] } }) :=
  .of_wp fun prog w A R s h => by
    obtain ⟨hp, g, d, tk, os⟩ := s; obtain ⟨h1, h⟩ := h
    have hsub := sub_enumerate
    have q1 : ∀ {A' : Around} {E : Value → Shared → Prop} {Q : Value → Shared → Prop}, Q (.ref hp.objs.size) ⟨hp.push o, g, d, tk, os⟩ → wpAny (model prog w) A' (pyIter v) Q E ⟨hp, g, d, tk, os⟩ :=
      fun q => B.iter prog w _ _ ⟨hp, g, d, tk, os⟩ _ h1 q
    wp_walk using q1
    refine wpAny_stack_any fun st => wpAny_pure ?_
    split
    · rename_i c _ _ _ _ _
      cases (c == Value.type "enumerate")
      · wp_walk using q1
        exact ⟨_, rfl, h⟩
      · wp_walk using q1
        exact ⟨_, rfl, h⟩
    · wp_walk using q1
      exact ⟨_, rfl, h⟩
section
variable {prog : Program} {w : World} {A : Around} {E : Value → Shared → Prop} {s : Shared}
theorem enum_begins1 {v : Value} {o : Obj} {H : Heap → Prop} {Q : Value → Shared → Prop} (B : Begins v o H) (h1 : H s.heap)
    (h : ∀ h', IsEnum h' (s.heap.objs.size + 1) s.heap.objs.size 0 .none → h'.get? s.heap.objs.size = some o → h'.objs.size = s.heap.objs.size + 2 →
      (∀ b o, s.heap.get? b = some o → h'.get? b = some o) → Q (.ref (s.heap.objs.size + 1)) { s with heap := h' }) :
    wpAny (model prog w) A (call (.type "enumerate") [v]) Q E s := by
  refine callType_new F.called_enumerate (by decide) (F.typeCall_enumerate_1 _) (F.newCall_enumerate_1 _) (fun obj => F.args_object_init_2 obj _) F.entry_enumerate_new
    (meets_enumT B) ⟨h1, ?_⟩
  have hz : (s.heap.push o).objs.size = s.heap.objs.size + 1 := Heap.size_push ..
  show _ ∧ _
  rw [hz]
  have he : IsEnum ((s.heap.push o).push { cls := .type "enumerate", data := .fields #[.none, .bool false, .ref s.heap.objs.size, rawInt 0, .none, .none] }) (s.heap.objs.size + 1) s.heap.objs.size 0 .none := by
    have := Heap.get?_push_size (s.heap.push o) (o := { cls := .type "enumerate", data := .fields #[.none, .bool false, .ref s.heap.objs.size, rawInt 0, .none, .none] }) rfl
    rw [hz] at this; exact this
  refine ⟨⟨_, he, rfl⟩, h _ he (Heap.get?_push_of_some _ (Heap.get?_push_size _ B.free)) (by rw [Heap.size_push, hz]) fun b o x => Heap.get?_push_of_some _ (Heap.get?_push_of_some _ x)⟩
end
/-- the tuple at a, each item in a new pair with its place -/
def IteT (K : PySem.W.Frag) (a : Addr) : It :=
  ⟨fun i H => ∃ (xs : List V) (x : V), SqT K H a xs ∧ xs[i]? = some x, fun i H v H' => ∃ T x, v = .ref T ∧ H T = none ∧ H' = upd H T (.tup [.int (i : Nat), x]) ∧ ∀ xs, SqT K H a xs → xs[i]? = some x, fun i H => ∃ xs : List V, SqT K H a xs ∧ xs.length ≤ i⟩
theorem turn_enumT {P : Program} {w : World} {K : PySem.W.Frag} {elts : List Expr} {kk : Nat} {tpos : Pos} (a e it : Addr) (hai : a ≠ it) :
    Turn P w K (.Tuple elts kk tpos) (IteT K a) [e, it] e (fun i h => (∃ old, IsEnum h e it ((i : Nat) : Int) old) ∧ h.IsTupleIter it a i ∧ e ≠ it) where
  mem := by simp
  obj := fun i h st b hb => by
    obtain ⟨⟨old, he⟩, ⟨o, ho, hc, hd⟩, _⟩ := st
    have e' : b = e ∨ b = it := by simpa using hb
    rcases e' with z | z
    · rw [z]; exact ⟨_, he, fun v q => nomatch q⟩
    · rw [z]; exact ⟨o, ho, fun v q => by rw [hd] at q; cases q⟩
  keep := fun i h h' st k => let ⟨⟨old, he⟩, hi, hne⟩ := st; ⟨⟨old, k e (by simp) _ he⟩, hi.at fun o q => k it (by simp) o q, hne⟩
  item := by
    intro X hP hw hK hc i pins s σ H E I hf st hg
    subst hP hw hK
    obtain ⟨⟨old, he⟩, hit, hne⟩ := st
    obtain ⟨xs, x, hq, hx⟩ := hg
    obtain ⟨its, rv, p, hz⟩ := I.tuple hq
    obtain ⟨u, hu, ru⟩ := rv.get hx
    have hel : e < s.heap.objs.size := Heap.lt_size he
    have hil : it < s.heap.objs.size := by obtain ⟨_, q, _⟩ := hit; exact Heap.lt_size q
    have pt : s.heap.IsTuple a its.toArray := p
    have hae : e ≠ a := fun z => by
      obtain ⟨o1, e1, c1, _⟩ := pt
      rw [← z, he] at e1
      cases e1
      have z2 : (Value.type "enumerate") = Value.type "tuple" := c1
      injection z2 with z3
      exact absurd z3 (by decide)
    have hil2 : i < its.toArray.size := by
      have := (List.getElem?_eq_some_iff.mp hu).1
      simpa using this
    refine wpAny_pyNext_enum_itemD (Draws.tuple (prog := X.prog) (w := X.w) (A := X.A.in1) (I.ok.hd hc) it a hai its.toArray) he ⟨hit, pt⟩ hil2 hne (by simp only [List.mem_cons, List.mem_nil_iff, or_false, not_or]; exact ⟨hne, hae⟩) fun x' h' tk hP ho st' hT hsz hk => ?_
    have ex' : x' = u := by
      have z : its.toArray[i]? = some u := by simpa using hu
      rw [z] at hP
      exact (Option.some.inj hP).symm
    subst ex'
    refine ⟨_, rfl, wpAny_letOwnedTupleGo_enum (s := { s with heap := h', toks := tk + 1 }) ho fun h'' he' sb => ?_⟩
    have hT2 : h''.get? s.heap.objs.size = some { cls := .type "tuple", data := .seq #[.int i tk, x'] } := (sb.2 _ (Nat.ne_of_gt hel)).trans hT
    have new : ObjOk X.prog X.w (upd H s.heap.objs.size (.tup [.int (i : Nat), x])) h'' s.heap.objs.size (.tup [.int (i : Nat), x]) :=
      ⟨by show 2 ≤ sizeLine; decide, [.int i tk, x'], .cons ⟨_, rfl⟩ (.cons ru .nil), ⟨_, hT2, rfl, _, rfl⟩⟩
    have I1 : Inv X pins σ (upd H s.heap.objs.size (.tup [.int (i : Nat), x])) { s with heap := h'', toks := tk + 1 } :=
      I.turnedNew (ch := [e, it]) (fun b ob hb q => (sb.2 b (fun z => hb (by simp [z]))).trans (hk b ob (fun z => hb (by simp [z])) (fun z => hb (by simp [z])) q)) hf (Nat.le_refl _) new
    refine ⟨.ref s.heap.objs.size, _, I1, rfl, ⟨_, x, rfl, I.hok.fresh (Nat.le_refl _), rfl, fun ys hy => by rw [I.tuple_inj hy hq]; exact hx⟩, ⟨⟨x', ?_⟩, st'.1.at fun o q => (sb.2 it (Ne.symm hne)).trans q, hne⟩, fun b hb => ?_⟩
    · have e1 : ((i + 1 : Nat) : Int) = (i : Int) + 1 := by omega
      rw [e1]; exact he'
    · have hb' : b < s.heap.objs.size := by
        have e' : b = e ∨ b = it := by simpa using hb
        rcases e' with z | z
        · rw [z]; exact hel
        · rw [z]; exact hil
      rw [upd_ne (Nat.ne_of_lt hb')]
      exact (hf b hb).1
  done := by
    intro X hP hw hK hc i pins s σ H E I hf st hg
    subst hP hw hK
    obtain ⟨⟨old, he⟩, hit, hne⟩ := st
    obtain ⟨xs, hq, hx⟩ := hg
    obtain ⟨its, rv, p, hz⟩ := I.tuple hq
    obtain ⟨f0, f1, f2, f3, f4, f5⟩ := hf it (by simp)
    have hl := rv.length
    have pt : s.heap.IsTuple a its.toArray := p
    refine wpAny_pyNext_enum_endD (n := i) (fp := [it, a]) (P := fun j v => True) (St := fun j h => j = i ∧ h.IsTupleIter it a i ∧ h.IsTuple a its.toArray) ?_ he ⟨rfl, hit, pt⟩ fun h' eb => ⟨rfl, I.turned (t' := s.toks) (fun b o hb q => eb b o hb q) f0 f1 f3 f4 f5⟩
    exact ⟨fun _ _ st => let ⟨o, ho, _⟩ := st.2.1; ⟨o, ho⟩, fun _ _ _ st hk => ⟨st.1, st.2.1.at fun o e => hk it (by simp) o e, st.2.2.at fun o e => hk a (by simp) o e⟩, fun j s Q E hi st hQ => absurd st.1 (Nat.ne_of_lt hi), fun s Q E st hE => wpAny_nextOf_tuple_end (I.ok.hd hc) st.2.1 st.2.2 (by simp; omega) hE⟩
  self := fun A i s Q E st h => let ⟨⟨_, he⟩, _⟩ := st; wpAny_pyIter_enum he h
def iEnumT (K : PySem.W.Frag) (ta : TA) : TI := fun σ H R => ta σ H fun vs H1 => ∃ a xs, vs = [.ref a] ∧ SqT K H1 a xs ∧ R (IteT K a) H1
theorem pi_enumT {X : Cx} {e : Expr} {ta : TA} {p pos tpos : Pos} {elts : List Expr} {kk : Nat} (hg : Gl X "enumerate") (hm : X.mg "enumerate" = none) (ha : PA X [e] ta) (hs : starEach [e] X.env = [(false, eval e X.env)] := by rfl) :
    PI X (.Tuple elts kk tpos) (.Call (.Name "enumerate" p) [e] [] pos) (iEnumT X.K ta) := by
  refine ⟨fun pins s σ H R I h => ?_⟩
  refine Call_ (ld_blt I hg hm boot_enumerate (PyProof.Rows.callWith_type1 (thn (ha.run pos pins s σ H _ I h) fun us s1 ⟨vs, H1, I1, r1, q1⟩ => ?_) hs rfl))
  obtain ⟨a, xs, ex, hq, q⟩ := q1
  subst ex
  cases r1 with
  | cons r rr =>
    cases rr
    cases r
    obtain ⟨its, rv, p', hz⟩ := I1.tuple hq
    refine enum_begins1 (begins_tuple a its.toArray) (show s1.heap.IsTuple a its.toArray from p') fun h' he hit hsz hk => wpAny_pyIter_enum he ?_
    have I2 : Inv X pins σ H1 { s1 with heap := h' } := I1.kept (t' := s1.toks) hk
    have hlt : a < s1.heap.objs.size := p'.lt
    refine ⟨s1.heap.objs.size + 1, [s1.heap.objs.size + 1, s1.heap.objs.size], _, _, H1, rfl, I2, turn_enumT a (s1.heap.objs.size + 1) s1.heap.objs.size (Nat.ne_of_lt hlt), ⟨⟨.none, he⟩, ⟨_, hit, rfl, rfl⟩, Nat.succ_ne_self _⟩, fun b hb => ?_, q⟩
    have e' : b = s1.heap.objs.size + 1 ∨ b = s1.heap.objs.size := by simpa using hb
    have hle : s1.heap.objs.size ≤ b := by
      rcases e' with z | z
      · rw [z]; exact Nat.le_add_right _ _
      · rw [z]; exact Nat.le_refl _
    exact I1.fpOk hle (I1.hok.fresh hle)
theorem walk_enumT {K : PySem.W.Frag} {a : Addr} {xs : List V} : Walk (IteT K a) xs.length (fun H => SqT K H a xs) (YPair (fun i => some (.int (i : Nat))) (fun i => xs[i]?)) := by
  refine ⟨fun i _ hi q => ⟨xs, xs[i], q, by simp [hi]⟩, fun _ q => ⟨xs, q, Nat.le_refl _⟩, fun i H v H' _ q y => ?_⟩
  obtain ⟨T, x, h1, h2, h3, h4⟩ := y
  exact ⟨T, .int (i : Nat), x, h1, h2, h3, rfl, h4 xs q⟩
end Gd

-- part Gd4
set_option Elab.async false
set_option linter.all false
set_option maxRecDepth 100000
set_option maxHeartbeats 2000000
/-! ### dict(zip(v1, v2)), two iterators of any kind -/
namespace Gd
open PySem PySem.Spec PyProof.Rows L2
section
variable {prog : Program} {w : World} {A : Around} {E : Value → Shared → Prop} {s : Shared} {z TI TO i1 i2 T : Addr} {fp1 fp2 : List Addr} {n1 n2 i : Nat} {P1 P2 : Nat → Value → Prop} {St1 St2 : Nat → Heap → Prop} {f : Bool} {oT : Obj}
theorem zipDH_next_item {Q : Value → Shared → Prop} (S : ZipSep2 z TI TO i1 i2 fp1 fp2) (D1 : Draws prog w A i1 fp1 n1 P1 St1) (D2 : Draws prog w A i2 fp2 n2 P2 St2)
    (hz : IsZipHeld s.heap z TI TO T f) (hT : s.heap.get? T = some oT) (hTI : IsTupOf2 s.heap TI (.ref i1) (.ref i2)) (st1 : St1 i s.heap) (st2 : St2 i s.heap) (hlt1 : i < n1) (hlt2 : i < n2)
    (hQ : ∀ x1 x2 h' tk, P1 i x1 → P2 i x2 → IsZipHeld h' z TI TO T true → St1 (i + 1) h' → St2 (i + 1) h' → IsTupOf2 h' s.heap.objs.size x1 x2 → h'.objs.size = s.heap.objs.size + 1 →
      (∀ c o, c ≠ z → c ≠ i1 → c ≠ i2 → s.heap.get? c = some o → h'.get? c = some o) → Q (.ref s.heap.objs.size) { s with heap := h', toks := tk }) :
    wpAny (model prog w) A (Builtin.«zip.__next__» ⟨[.ref z], []⟩) (fun fin s' => ∃ v, fin = .done (.ret v) ∧ Q v s') E s := by
  obtain ⟨hp, g, d, tk0, os⟩ := s
  show wpAny _ _ (field (.ref z) 2 >>= _) _ _ _
  refine wpAny_bind (wpAny_field hz rfl (x := .bool false) rfl ?_)
  show wpAny _ _ (field (.ref z) 3 >>= _) _ _ _
  refine wpAny_bind (wpAny_field hz rfl (x := .ref TI) rfl ?_)
  refine wpAny_bind (wpAny_seqItems hTI rfl ?_)
  show wpAny _ _ (Builtin.SmallTypes.ownedTupleIsFree (.ref z) >>= _) _ _ _
  refine wpAny_bind (wpAny_tupleHeld_zip hz hT fun h₁ hz₁ hs₁ => ?_)
  replace hs₁ : Heap.SameBut z hp h₁ := hs₁
  simp only [Bool.false_eq_true, if_false]
  refine wpAny_bind ?_
  rw [← Array.forIn_toList]
  simp only [List.forIn_cons, List.forIn_nil]
  refine wpAny_bind (wpAny_bind (wpAny_holding ?_))
  show wpAny _ _ (Builtin.SmallTypes.nextOf (.ref i1) >>= _) _ _ ⟨h₁, g, d, tk0, os⟩
  refine wpAny_bind (D1.item i _ _ _ hlt1 (D1.over st1 hs₁ S.zf1) fun x1 h₂ tk1 hx1 sn1 hs₂ => wpAny_pure ?_)
  replace hs₂ : Heap.SameBut i1 h₁ h₂ := hs₂
  refine wpAny_pure ?_
  refine wpAny_bind (wpAny_bind (wpAny_holding ?_))
  show wpAny _ _ (Builtin.SmallTypes.nextOf (.ref i2) >>= _) _ _ ⟨h₂, g, d, tk1, os⟩
  refine wpAny_bind (D2.item i _ _ _ hlt2 (D2.over (D2.over st2 hs₁ S.zf2) hs₂ S.sep1_2) fun x2 h₃ tk2 hx2 sn2 hs₃ => wpAny_pure ?_)
  replace hs₃ : Heap.SameBut i2 h₂ h₃ := hs₃
  refine wpAny_pure (wpAny_pure ?_)
  show wpAny _ _ (newTuple [x1, x2] >>= _) _ _ _
  refine wpAny_bind (wpAny_newTuple ?_)
  have hsz : h₃.objs.size = hp.objs.size := by rw [hs₃.1, hs₂.1, hs₁.1]
  have hz₃ : IsZipHeld h₃ z TI TO T true := hs₃.extBut _ _ S.zi2 (hs₂.extBut _ _ S.zi1 hz₁)
  have hk : ∀ c o, c ≠ z → c ≠ i1 → c ≠ i2 → hp.get? c = some o → h₃.get? c = some o := fun c o c1 c2 c3 e => hs₃.extBut _ _ c3 (hs₂.extBut _ _ c2 (hs₁.extBut _ _ c1 e))
  have sn1' : St1 (i + 1) h₃ := D1.over sn1 hs₃ S.sep2_1
  refine wpAny_pure ⟨_, rfl, ?_⟩
  show Q (.ref h₃.objs.size) _
  have hp4 : IsTupOf2 (h₃.push { cls := .type "tuple", data := .seq #[x1, x2] }) h₃.objs.size x1 x2 := Heap.get?_push_size _ rfl
  have hz4 : (h₃.push { cls := .type "tuple", data := .seq #[x1, x2] }).objs.size = h₃.objs.size + 1 := Heap.size_push ..
  rw [hsz] at hp4 hz4 ⊢
  exact hQ x1 x2 _ tk2 hx1 hx2 (Heap.get?_push_of_some _ hz₃) (D1.frame _ _ _ sn1' fun b _ o e => Heap.get?_push_of_some _ e) (D2.frame _ _ _ sn2 fun b _ o e => Heap.get?_push_of_some _ e) hp4 hz4 fun c o c1 c2 c3 e => Heap.get?_push_of_some _ (hk c o c1 c2 c3 e)
theorem zipDH_next_end {Q : Fin → Shared → Prop} (S : ZipSep2 z TI TO i1 i2 fp1 fp2) (D1 : Draws prog w A i1 fp1 n1 P1 St1) (D2 : Draws prog w A i2 fp2 n2 P2 St2)
    (hz : IsZipHeld s.heap z TI TO T f) (hT : s.heap.get? T = some oT) (hTI : IsTupOf2 s.heap TI (.ref i1) (.ref i2)) (st1 : St1 i s.heap) (st2 : St2 i s.heap) (hle1 : i ≤ n1) (hle2 : i ≤ n2) (hend : i = n1 ∨ i = n2)
    (hE : ∀ h' tk e, (∀ c o, c ≠ z → c ≠ i1 → c ≠ i2 → s.heap.get? c = some o → h'.get? c = some o) → (∃ o, h'.get? e = some o ∧ o.cls = .type "StopIteration") → E (.ref e) { s with heap := h', toks := tk }) :
    wpAny (model prog w) A (Builtin.«zip.__next__» ⟨[.ref z], []⟩) Q E s := by
  obtain ⟨hp, g, d, tk0, os⟩ := s
  show wpAny _ _ (field (.ref z) 2 >>= _) _ _ _
  refine wpAny_bind (wpAny_field hz rfl (x := .bool false) rfl ?_)
  show wpAny _ _ (field (.ref z) 3 >>= _) _ _ _
  refine wpAny_bind (wpAny_field hz rfl (x := .ref TI) rfl ?_)
  refine wpAny_bind (wpAny_seqItems hTI rfl ?_)
  show wpAny _ _ (Builtin.SmallTypes.ownedTupleIsFree (.ref z) >>= _) _ _ _
  refine wpAny_bind (wpAny_tupleHeld_zip hz hT fun h₁ hz₁ hs₁ => ?_)
  replace hs₁ : Heap.SameBut z hp h₁ := hs₁
  simp only [Bool.false_eq_true, if_false]
  refine wpAny_bind ?_
  rw [← Array.forIn_toList]
  simp only [List.forIn_cons, List.forIn_nil]
  refine wpAny_bind (wpAny_bind (wpAny_holding ?_))
  show wpAny _ _ (Builtin.SmallTypes.nextOf (.ref i1) >>= _) _ _ ⟨h₁, g, d, tk0, os⟩
  by_cases hlt1 : i < n1
  · refine wpAny_bind (D1.item i _ _ _ hlt1 (D1.over st1 hs₁ S.zf1) fun x1 h₂ tk1 hx1 sn1 hs₂ => wpAny_pure ?_)
    replace hs₂ : Heap.SameBut i1 h₁ h₂ := hs₂
    refine wpAny_pure ?_
    refine wpAny_bind (wpAny_bind (wpAny_holding ?_))
    show wpAny _ _ (Builtin.SmallTypes.nextOf (.ref i2) >>= _) _ _ ⟨h₂, g, d, tk1, os⟩
    have hi2 : i = n2 := by omega
    refine wpAny_bind (D2.done ⟨h₂, g, d, tk1, os⟩ _ _ (by rw [← hi2]; exact D2.over (D2.over st2 hs₁ S.zf2) hs₂ S.sep1_2) fun h₃ e hs₃ he => ?_)
    replace hs₃ : Heap.ExtBut i2 h₂ h₃ := hs₃
    exact hE h₃ tk1 e (fun c o c1 c2 c3 x => hs₃ _ _ c3 (hs₂.extBut _ _ c2 (hs₁.extBut _ _ c1 x))) he
  · have hi1 : i = n1 := by omega
    refine wpAny_bind (D1.done ⟨h₁, g, d, tk0, os⟩ _ _ (by rw [← hi1]; exact D1.over st1 hs₁ S.zf1) fun h₂ e hs₂ he => ?_)
    replace hs₂ : Heap.ExtBut i1 h₁ h₂ := hs₂
    exact hE h₂ tk0 e (fun c o c1 c2 _ x => hs₂ _ _ c2 (hs₁.extBut _ _ c1 x)) he
end
section
variable {prog : Program} {w : World} {z TI TO i1 i2 : Addr} {fp1 fp2 : List Addr} {n1 n2 : Nat} {P1 P2 : Nat → Value → Prop} {St1 St2 : Nat → Heap → Prop}
theorem PairArg.zipD (S : ZipSep2 z TI TO i1 i2 fp1 fp2) (D1 : ∀ A : Around, A.handled = none → Draws prog w A i1 fp1 n1 P1 St1) (D2 : ∀ A : Around, A.handled = none → Draws prog w A i2 fp2 n2 P2 St2)
    (L1 : ∀ h, St1 0 h → ∀ b ∈ fp1, ∃ o, h.get? b = some o) (L2 : ∀ h, St2 0 h → ∀ b ∈ fp2, ∃ o, h.get? b = some o) (F1 : ∀ i h h', St1 i h → (∀ b ∈ fp1, ∀ o, h.get? b = some o → h'.get? b = some o) → St1 i h') (F2 : ∀ i h h', St2 i h → (∀ b ∈ fp2, ∀ o, h.get? b = some o → h'.get? b = some o) → St2 i h')
    (O1 : ∀ i h, St1 i h → ∃ o, h.get? i1 = some o) (O2 : ∀ i h, St2 i h → ∃ o, h.get? i2 = some o) :
    PairArg prog w "zip" z ([z, TI, TO] ++ (fp1 ++ fp2)) [z, TO, i1, i2] (min n1 n2) (fun i k v => P1 i k ∧ P2 i v)
      (fun h => IsZip h z TI TO .none ∧ IsTupOf2 h TI (.ref i1) (.ref i2) ∧ (∃ a b, IsTupOf2 h TO a b) ∧ St1 0 h ∧ St2 0 h) where
  type := fun s ok => ⟨_, ok.1, rfl⟩
  notDict := by decide
  keep := fun h h' ok hk => by
    obtain ⟨hz, hTI, ⟨a, b, hTO⟩, h1, h2⟩ := ok
    exact ⟨hk _ _ hz, hk _ _ hTI, ⟨a, b, hk _ _ hTO⟩, F1 _ _ _ h1 fun b _ o e => hk b o e, F2 _ _ _ h2 fun b _ o e => hk b o e⟩
  there := fun h ok b hb => by
    obtain ⟨hz, hTI, ⟨a, c, hTO⟩, h1, h2⟩ := ok
    rcases List.mem_append.mp hb with hb | hb
    · simp only [List.mem_cons, List.not_mem_nil, or_false] at hb
      rcases hb with rfl | rfl | rfl
      all_goals first | exact ⟨_, hz⟩ | exact ⟨_, hTI⟩ | exact ⟨_, hTO⟩
    · rcases List.mem_append.mp hb with hb | hb
      · exact L1 h h1 b hb
      · exact L2 h h2 b hb
  sub := fun b hb => by
    simp only [List.mem_cons, List.not_mem_nil, or_false] at hb
    rcases hb with rfl | rfl | rfl | rfl
    · simp
    · simp
    · exact List.mem_append_right _ (List.mem_append_left _ S.mem1)
    · exact List.mem_append_right _ (List.mem_append_right _ S.mem2)
  noKeys := fun A s Q E hA ok h => getAttrOr_miss_zip ok.1 rfl rfl rfl zip_no_keys (by decide +kernel) hA h
  iter := fun A s d Q E hA ok hd hdf h => by
    obtain ⟨hz, hTI, ⟨a, b, hTO⟩, h1, h2⟩ := ok
    have dz : d ≠ z := fun e => hdf (by simp [e])
    have dTI : d ≠ TI := fun e => hdf (by simp [e])
    have dTO : d ≠ TO := fun e => hdf (by simp [e])
    have df1 : d ∉ fp1 := fun e => hdf (List.mem_append_right _ (List.mem_append_left _ e))
    have df2 : d ∉ fp2 := fun e => hdf (List.mem_append_right _ (List.mem_append_right _ e))
    have di1 : d ≠ i1 := fun e => df1 (e ▸ S.mem1)
    have di2 : d ≠ i2 := fun e => df2 (e ▸ S.mem2)
    refine wpAny_pyIter_zip hz (h z [z, TO, i1, i2] (fun i h => IsTupOf2 h TI (.ref i1) (.ref i2) ∧ St1 i h ∧ St2 i h ∧
      ((IsZip h z TI TO .none ∧ ∃ a b, IsTupOf2 h TO a b) ∨ ∃ T f oT, IsZipHeld h z TI TO T f ∧ h.get? T = some oT ∧ T ≠ z ∧ T ≠ i1 ∧ T ≠ i2 ∧ T ≠ d)) s.heap s.toks ?_
      ⟨hTI, h1, h2, .inl ⟨hz, a, b, hTO⟩⟩ (fun _ _ e => e) fun b hb => .inl hb)
    exact {
      off := fun hm => by
        simp only [List.mem_cons, List.not_mem_nil, or_false] at hm
        rcases hm with e | e | e | e
        · exact dz e
        · exact dTO e
        · exact di1 e
        · exact di2 e
      frame := fun i h₁ h₂ st hk => by
        obtain ⟨hTI, h1, h2, hz⟩ := st
        refine ⟨hk _ _ (Ne.symm dTI) hTI, F1 _ _ _ h1 fun b hb o e => hk b o (fun q => df1 (q ▸ hb)) e, F2 _ _ _ h2 fun b hb o e => hk b o (fun q => df2 (q ▸ hb)) e, ?_⟩
        rcases hz with ⟨hz, a, b, hTO⟩ | ⟨T, f, oT, hz, hT, r1, r2, r3, r4⟩
        · exact .inl ⟨hk _ _ (Ne.symm dz) hz, a, b, hk _ _ (Ne.symm dTO) hTO⟩
        · exact .inr ⟨T, f, oT, hk _ _ (Ne.symm dz) hz, hk _ _ r4 hT, r1, r2, r3, r4⟩
      item := fun i s₁ Q₁ E₁ hi st hds hQ => by
        obtain ⟨hTI, h1, h2, hz⟩ := st
        have hix : i < n1 := Nat.lt_of_lt_of_le hi (Nat.min_le_left ..)
        have hiy : i < n2 := Nat.lt_of_lt_of_le hi (Nat.min_le_right ..)
        have lt : ∀ {c o}, s₁.heap.get? c = some o → s₁.heap.objs.size ≠ c := fun e => Nat.ne_of_gt (Heap.lt_size e)
        have q1 : s₁.heap.objs.size ≠ i1 := let ⟨_, e⟩ := O1 _ _ h1; lt e
        have q2 : s₁.heap.objs.size ≠ i2 := let ⟨_, e⟩ := O2 _ _ h2; lt e
        rcases hz with ⟨hz, a, b, hTO⟩ | ⟨T, f, oT, hz, hT, r1, r2, r3, r4⟩
        · refine wpAny_pyNext_zipD2_item S (D1 A.in1 hA) (D2 A.in1 hA) hz hTI hTO h1 h2 hix hiy fun x1 x2 h' tk y1 y2 a1 a2 a3 a4 a5 a6 hk => ?_
          exact hQ s₁.heap.objs.size _ _ h' tk ⟨y1, y2⟩ (.inl ⟨_, a5, rfl, _, rfl⟩)
            ⟨hk _ _ S.TIz S.TITO S.TIi1 S.TIi2 hTI, a3, a4, .inr ⟨s₁.heap.objs.size, false, _, a1, a5, lt hz, q1, q2, Nat.ne_of_gt hds⟩⟩
            fun c o hc e => hk c o (fun x => hc (by simp [x])) (fun x => hc (by simp [x])) (fun x => hc (by simp [x])) (fun x => hc (by simp [x])) e
        · have hTy : s₁.TypeIs (.ref z) "zip" := ⟨_, hz, rfl⟩
          unfold pyNext
          refine wpAny_bind (wpAny_attempt (wpAny_callSpecial?_slot (name := Str.ofString "__next__") hTy F.slot_zip_next
            (wpAny_call_entry F.slot_zip_next hTy F.entry_zip_next
              (zipDH_next_item S (D1 A.in1 hA) (D2 A.in1 hA) hz hT hTI h1 h2 hix hiy fun x1 x2 h' tk y1 y2 a1 a3 a4 a5 a6 hk => wpAny_pure ?_) (F.args_zip_next_1 _))))
          exact hQ s₁.heap.objs.size _ _ h' tk ⟨y1, y2⟩ (.inl ⟨_, a5, rfl, _, rfl⟩)
            ⟨hk _ _ S.TIz S.TIi1 S.TIi2 hTI, a3, a4, .inr ⟨T, true, oT, a1, hk _ _ r1 r2 r3 hT, r1, r2, r3, r4⟩⟩
            fun c o hc e => hk c o (fun x => hc (by simp [x])) (fun x => hc (by simp [x])) (fun x => hc (by simp [x])) e
      done := fun s₁ Q₁ E₁ st hQ => by
        obtain ⟨hTI, h1, h2, hz⟩ := st
        have hend : min n1 n2 = n1 ∨ min n1 n2 = n2 := by omega
        rcases hz with ⟨hz, a, b, hTO⟩ | ⟨T, f, oT, hz, hT, r1, r2, r3, r4⟩
        · exact wpAny_pyNext_zipD2_end S (D1 A.in1 hA) (D2 A.in1 hA) hz hTI hTO h1 h2 (Nat.min_le_left ..) (Nat.min_le_right ..) hend fun h' tk hk => hQ h' tk fun c o hc e => hk c o (fun x => hc (by simp [x])) (fun x => hc (by simp [x])) (fun x => hc (by simp [x])) (fun x => hc (by simp [x])) e
        · have hTy : s₁.TypeIs (.ref z) "zip" := ⟨_, hz, rfl⟩
          unfold pyNext
          refine wpAny_bind (wpAny_attempt (wpAny_callSpecial?_slot (name := Str.ofString "__next__") hTy F.slot_zip_next
            (wpAny_call_entry F.slot_zip_next hTy F.entry_zip_next (zipDH_next_end S (D1 A.in1 hA) (D2 A.in1 hA) hz hT hTI h1 h2 (Nat.min_le_left ..) (Nat.min_le_right ..) hend fun h' tk e hk he => ?_) (F.args_zip_next_1 _))))
          obtain ⟨o, ho, hc⟩ := he
          refine wpAny_bind (wpAny_isInstance (T := "StopIteration") (b := true) ⟨o, ho, hc⟩ isSubtype_stop ?_)
          exact wpAny_pure (hQ _ tk fun c o hc e => hk c o (fun x => hc (by simp [x])) (fun x => hc (by simp [x])) (fun x => hc (by simp [x])) e) }
end
/-- dict(zip(ks, ys)): ks a list of texts, ys a tuple -/
def tDictZip (K : PySem.W.Frag) (ta : TA) : TE := fun σ H Q => ta σ H fun vs H1 => ∃ (a b : Addr) (ks : List Str) (ys : List V), vs = [.ref a, .ref b] ∧ SqL K H1 a (ks.map V.str) ∧ SqT K H1 b ys ∧ ks.length = ys.length ∧
  ∀ p, H1 p = none → Q (.ref p) (upd H1 p (.dK (mergeK [] ((ks.map Sum.inr).zip ys))))
theorem kv_zip : ∀ {ks : List Str} {ys : List V} {us ws : List Value}, Vals (ks.map V.str) us → Vals ys ws → ks.length = ys.length → KV ((ks.map (Sum.inr : Str → Key)).zip ys) ((ks.map (Sum.inr : Str → Key)).zip ws)
  | [], _, _, _, _, _, _ => .nil
  | k :: ks, [], _, _, _, _, h => by simp at h
  | k :: ks, y :: ys, _, _, .cons r t, .cons r' t', h => .cons ⟨rfl, r'⟩ (kv_zip t t' (by simpa using h))
theorem pe_dictZip {X : Cx} {e e2 : Expr} {ta : TA} {p pos p2 pos2 : Pos} (hc : X.calm = true) (hg : Gl X "dict") (hm : X.mg "dict" = none) (hg2 : Gl X "zip") (hm2 : X.mg "zip" = none) (ha : PA X [e, e2] ta)
    (hs : starEach [e, e2] X.env = (false, eval e X.env) :: starEach [e2] X.env := by rfl) (hpl : (backTo pos2 (starEach [e2] X.env)).any (·.1) = false := by rfl)
    (hs2 : starEach [.Call (.Name "zip" p2) [e, e2] [] pos2] X.env = (false, eval (.Call (.Name "zip" p2) [e, e2] [] pos2) X.env) :: starEach [] X.env := by rfl) :
    PE X (.Call (.Name "dict" p) [.Call (.Name "zip" p2) [e, e2] [] pos2] [] pos) (tDictZip X.K ta) := by
  refine ⟨fun pins s σ H Q I h => ?_⟩
  refine Call_ (ld_blt I hg hm boot_dict (PyProof.Rows.callWith_type1 (args_cons ?_ hs2) hs2))
  refine Call_ (ld_blt I hg2 hm2 PyProof.Rows.boot_zip (PyProof.Rows.callWith_type1 (thn (ha.run pos2 pins s σ H _ I h) fun us s1 ⟨vs, H1, I1, r1, q1⟩ => ?_) hs hpl))
  obtain ⟨a, b, ks, ys, ex, hqx, hqy, hlen, q⟩ := q1
  subst ex
  cases r1 with
  | cons r rr =>
    cases rr with
    | cons r' rr =>
      cases rr
      cases r
      cases r'
      obtain ⟨its, rv, p1, hl1⟩ := I1.list hqx
      obtain ⟨its2, rv2, p2', hl2⟩ := I1.tuple hqy
      refine zip_begins2 (begins_list a its.toArray) (begins_tuple b its2.toArray) p1.isList (show s1.heap.IsTuple b its2.toArray from p2') fun h' hz hTI hTO h1 h2 hsz hk => ?_
      refine args_nil ?_
      have la : a < s1.heap.objs.size := p1.lt
      have lb : b < s1.heap.objs.size := p2'.lt
      have S := zip_sep2 (N := s1.heap.objs.size) (fp1 := [a]) (fp2 := [b]) (by intro c hc; simp at hc; rw [hc]; exact la) (by intro c hc; simp at hc; rw [hc]; exact lb)
      have D1 := fun (A : Around) (hA : A.handled = none) => Draws.list (prog := X.prog) (w := X.w) hA s1.heap.objs.size a (Nat.ne_of_lt la) its.toArray
      have D2 := fun (A : Around) (hA : A.handled = none) => Draws.tuple (prog := X.prog) (w := X.w) hA (s1.heap.objs.size + 1) b (Nat.ne_of_lt (Nat.lt_succ_of_lt lb)) its2.toArray
      have P := PairArg.zipD S D1 D2
        (fun h st c hc => by
          obtain ⟨⟨o1, e1, _⟩, ⟨o2, e2, _⟩⟩ := st
          simp only [List.mem_cons, List.not_mem_nil, or_false] at hc
          rcases hc with rfl | rfl
          · exact ⟨_, e1⟩
          · exact ⟨_, e2⟩)
        (fun h st c hc => by
          obtain ⟨⟨o1, e1, _⟩, ⟨o2, e2, _⟩⟩ := st
          simp only [List.mem_cons, List.not_mem_nil, or_false] at hc
          rcases hc with rfl | rfl
          · exact ⟨_, e1⟩
          · exact ⟨_, e2⟩)
        (D1 X.A (I.ok.hd hc)).frame (D2 X.A (I.ok.hd hc)).frame (fun i h st => let ⟨o, e, _⟩ := st.1; ⟨o, e⟩) (fun i h st => let ⟨o, e, _⟩ := st.1; ⟨o, e⟩)
      have hz1 : its.length = ks.length := by rw [← rv.length, List.length_map]
      have hz2 : its2.length = ys.length := rv2.length.symm
      have hn : min its.toArray.size its2.toArray.size = ks.length := by simp; omega
      have I2 : Inv X pins σ H1 { s1 with heap := h' } := I1.kept (t' := s1.toks) hk
      refine call_dict_pairs (knd := mixKind X.prog X.w) (kvs := (ks.map (Sum.inr : Str → Key)).zip its2) P (I.ok.hd hc) ⟨hz, hTI, ⟨_, _, hTO⟩, ⟨⟨_, h1, rfl, rfl⟩, p1.isList.at fun o e => hk _ o e⟩, ⟨⟨_, h2, rfl, rfl⟩, (show s1.heap.IsTuple b its2.toArray from p2').at fun o e => hk _ o e⟩⟩ ⟨?_, fun i key v hr => ?_⟩ (by rw [hn]; have := hl1; rw [List.length_map] at this; exact this) fun h'' tk hd' k => ?_
      · rw [hn, List.length_zip, List.length_map]
        omega
      · obtain ⟨hr1, hr2⟩ := hr
        have hr1' : its[i]? = some key := by simpa using hr1
        have hr2' : its2[i]? = some v := by simpa using hr2
        have hi : i < ks.length := by
          have := (List.getElem?_eq_some_iff.mp hr1').1
          omega
        obtain ⟨u, hu, ru⟩ := rv.get (x := V.str ks[i]) (by rw [List.getElem?_map, List.getElem?_eq_getElem hi]; rfl)
        rw [hr1'] at hu
        cases hu
        refine ⟨Sum.inr ks[i], ?_, kV_is (k := Sum.inr ks[i]) ru⟩
        rw [List.getElem?_zip_eq_some]
        exact ⟨by rw [List.getElem?_map, List.getElem?_eq_getElem hi]; rfl, hr2'⟩
      · have fr : ∀ c, H1 c = none ∨ (∃ o, H1 c = some o) := fun c => by cases H1 c <;> simp
        have rel := kv_zip rv rv2 hlen
        have hmm : (h'.objs.size == sysModules) = false := beq_eq_false_iff_ne.mpr (Nat.ne_of_gt I2.big)
        have hlz : (mergeK [] ((ks.map (Sum.inr : Str → Key)).zip ys)).length ≤ sizeLine := by
          refine Nat.le_trans (length_mergeK _ []) ?_
          rw [List.length_nil, Nat.zero_add, List.length_zip, List.length_map]
          have := hl1
          rw [List.length_map] at this
          omega
        have hle : s1.heap.objs.size ≤ h'.objs.size := by rw [hsz]; omega
        have fresh4 : ∀ c, c ∈ [s1.heap.objs.size + 4, s1.heap.objs.size + 3, s1.heap.objs.size, s1.heap.objs.size + 1] → FpOk X pins H1 c := fun c hcm => by
          have e' : c = s1.heap.objs.size + 4 ∨ c = s1.heap.objs.size + 3 ∨ c = s1.heap.objs.size ∨ c = s1.heap.objs.size + 1 := by simpa using hcm
          have hle : s1.heap.objs.size ≤ c := by
            rcases e' with z | z | z | z
            · rw [z]; exact Nat.le_add_right _ _
            · rw [z]; exact Nat.le_add_right _ _
            · rw [z]; exact Nat.le_refl _
            · rw [z]; exact Nat.le_add_right _ _
          exact I1.fpOk hle (I1.hok.fresh hle)
        have new : ObjOk X.prog X.w (upd H1 h'.objs.size (.dK (mergeK [] ((ks.map (Sum.inr : Str → Key)).zip ys)))) h'' h'.objs.size (.dK (mergeK [] ((ks.map (Sum.inr : Str → Key)).zip ys))) :=
          ⟨hlz, hmm, merged [] ((ks.map (Sum.inr : Str → Key)).zip its2), KV.merge rel .nil, hd'⟩
        have I3 := I2.turnedNew (t' := tk) (h' := h'') (ch := [s1.heap.objs.size + 4, s1.heap.objs.size + 3, s1.heap.objs.size, s1.heap.objs.size + 1]) k fresh4 (Nat.le_refl _) new
        exact ⟨.ref h'.objs.size, _, I3, rfl, q _ (I2.hok.fresh (Nat.le_refl _))⟩
end Gd

-- part Gd5
set_option Elab.async false
set_option linter.all false
set_option maxRecDepth 100000
set_option maxHeartbeats 2000000
namespace Gd
open PySem PySem.Spec PyProof.Rows L2
/-! ### list(d.values()) -/
def tListVals (td : TE) : TE := fun σ H Q => td σ H fun x H1 => ∃ d kvs, x = .ref d ∧ Rd H1 d (.dK kvs) ∧ ∀ p, H1 p = none → Q (.ref p) (upd H1 p (.lst (kvs.map (·.2))))
theorem vals_kv : ∀ {kvs : List (Key × V)} {vs : List (Key × Value)}, KV kvs vs → Vals (kvs.map (·.2)) (vs.map (·.2))
  | _, _, .nil => .nil
  | _, _, .cons h t => .cons h.2 (vals_kv t)
theorem pe_listVals {X : Cx} {e : Expr} {te : TE} {p pos apos cpos : Pos} (hc : X.calm = true) (he : PE X e te) (hg : Gl X "list") (hm : X.mg "list" = none) (hv : bootBuiltins "list" = some (.type "list")) (hbase : attributeBase e "values" X.env (eval e X.env) = eval e X.env := by rfl) (hline : (apos.endLine == cpos.line) = true := by rfl)
    (hs : starEach [.Call (.Attribute e "values" apos) [] [] cpos] X.env = (false, eval (.Call (.Attribute e "values" apos) [] [] cpos) X.env) :: starEach [] X.env := by rfl) :
    PE X (.Call (.Name "list" p) [.Call (.Attribute e "values" apos) [] [] cpos] [] pos) (tListVals te) := by
  refine ⟨fun pins s σ H Q I hq => ?_⟩
  refine wpAny_Call_Name_kw (ld_blt I hg hm hv ?_)
  refine PyProof.Rows.callWith_type1 ?_ hs rfl
  rw [hs]
  show wpAny _ _ (spliced ((false, eval (.Call (.Attribute e "values" apos) [] [] cpos) X.env) :: backTo pos (starEach [] X.env))) _ _ s
  refine Calls.spliced_cons ?_
  refine wpAny_Call_method (T := "dict") (id := "dict.values") hbase rfl hline F.plainAttrs_dict F.slot_dict_values F.type_dict_values (thn (he.run pins s σ H _ I hq) fun u s1 ⟨x, H1, I1, rx, d, kvs, ex, hd, q⟩ => ?_)
  subst ex
  obtain rfl : u = Value.ref d := rx
  obtain ⟨hz, hs0, vs, kv, hdo⟩ := dk_rd I1.hok hd
  obtain ⟨ep, hat⟩ := hdo.dictAt
  have lk : kvs.length = vs.length := Paired.length kv
  have I2 : Inv X pins σ H1 { s1 with heap := s1.heap.push { cls := .type "dict_values", data := .fields #[.ref d] } } := I1.kept (t' := s1.toks) fun b ob q => Heap.get?_push_of_some _ q
  refine ⟨hdo.typeIs, hdo.mapOf.noDict, ?_⟩
  show wpAny _ _ (callWith cpos (.builtin "dict.values") [.ref d] [] []) _ X.xe s1
  refine method_meetsIn F.slot_dict_values F.entry_dict_values rfl (PySem.evalArgs_none ⟨rfl, hdo.typeIs, F.args_dict_values_1 _, _, meets_dict_values (mixKind X.prog X.w) d hs0, ⟨vs, hdo⟩, ?_⟩)
  refine Calls.spliced_nil ?_
  refine PySem.W.kdl_call (PySem.W.kdl_values (knd := mixKind X.prog X.w) (kvs := vs) (ep := ep) (d := d)) (I1.ok.hd hc) ⟨⟨_, Heap.get?_push_size _ rfl, rfl, rfl⟩, hat.push _⟩ (by omega) fun h' tk acc c hk hS hacc => ?_
  have ev : acc.toList = vs.map (·.2) := PySem.W.kdl_vals_eq acc.toList (by rw [Array.length_toList]; exact hacc.1) fun j v e => hacc.2 j v (by rw [← Array.getElem?_toList]; exact e)
  exact ⟨.ref _, upd H1 _ (.lst (kvs.map (·.2))), I2.laid (t' := tk) hk (Nat.le_refl _) (show ObjOk X.prog X.w _ h' _ (.lst (kvs.map (·.2))) from ⟨by rw [List.length_map]; exact hz, acc.toList, c, by rw [ev]; exact vals_kv kv, by rw [Array.toArray_toList]; exact hS⟩), rfl, q _ (I2.hok.fresh (Nat.le_refl _))⟩
end Gd

-- part Gd6
set_option Elab.async false
set_option linter.all false
set_option maxRecDepth 100000
set_option maxHeartbeats 2000000
namespace Gd
open PySem PySem.Spec PyProof.Rows L2
/-! ### t * 0, t * 1 -/
theorem tuple_mul1 (l : Addr) (items : Array Value) (n : Nat) (dd : Option Addr) (sl : Array (Option Value)) (u : Tok) :
    Meets (Builtin.«tuple.__mul__» ⟨[.ref l, .int 1 u], []⟩) (fun _ R s => s.heap.get? l = some { cls := .type "tuple", dict := dd, data := .seq items n, slots := sl } ∧
      R (.ok (.ret (Value.ref l))) s) :=
  .of_wp fun prog w A R s h => by
    obtain ⟨hp, g, d, tk, os⟩ := s
    obtain ⟨hl, h⟩ := h
    have f1 := AutoSeq1.idx_int
    have c0 : (decide ((1 : Int) < -(2 ^ 63)) || decide ((1 : Int) ≥ 2 ^ 63)) = false := by decide
    have c1 : (items.isEmpty || (1 : Int) == 1) = true := by simp
    wp_walk using wpAny_loadPart' hl
    repeat (first
      | (refine wpAny_ite_false (decide_eq_false (by rw [c0]; exact Bool.false_ne_true)) ?_; wp_walk using wpAny_loadPart' hl)
      | (refine wpAny_ite_true (decide_eq_true (by rw [c1])) ?_; wp_walk using wpAny_loadPart' hl))
    exact ⟨_, rfl, h⟩
theorem tuple_mul0 (l : Addr) (items : Array Value) (n : Nat) (dd : Option Addr) (sl : Array (Option Value)) (u : Tok) (c1 : (items.isEmpty || (0 : Int) == 1) = false) :
    Meets (Builtin.«tuple.__mul__» ⟨[.ref l, .int 0 u], []⟩) (fun _ R s => s.heap.get? l = some { cls := .type "tuple", dict := dd, data := .seq items n, slots := sl } ∧
      R (.ok (.ret (Value.ref s.heap.objs.size))) { s with heap := s.heap.push { cls := Value.type "tuple", data := Data.seq #[] }, toks := s.toks }) :=
  .of_wp fun prog w A R s h => by
    obtain ⟨hp, g, d, tk, os⟩ := s
    obtain ⟨hl, h⟩ := h
    have f1 := AutoSeq1.idx_int
    have c0 : (decide ((0 : Int) < -(2 ^ 63)) || decide ((0 : Int) ≥ 2 ^ 63)) = false := by decide
    have c2 : (decide ((0 : Int) ≤ 0) || items.isEmpty) = true := by simp
    wp_walk using wpAny_loadPart' hl
    repeat (first
      | (refine wpAny_ite_false (decide_eq_false (by rw [c0]; exact Bool.false_ne_true)) ?_; wp_walk using wpAny_loadPart' hl)
      | (refine wpAny_ite_false (decide_eq_false (by rw [c1]; exact Bool.false_ne_true)) ?_; wp_walk using wpAny_loadPart' hl)
      | (refine wpAny_ite_true (decide_eq_true (by rw [c2])) ?_; wp_walk using wpAny_loadPart' hl))
    exact ⟨_, rfl, h⟩
/-- t * k, k 0 or 1, t a tuple that is not empty -/
def rRep1 (K : PySem.W.Frag) : R2 := fun x y H Q => ∃ l k xs, x = .ref l ∧ y = .int k ∧ SqT K H l xs ∧ xs ≠ [] ∧ ((k = 1 ∧ Q (.ref l) H) ∨ (k = 0 ∧ ∀ p, H p = none → Q (.ref p) (upd H p (.tup []))))
section
variable {X : Cx}
theorem op_rep1 : OpR X (binaryOp .Mult) (rRep1 X.K) := by
  intro pins s σ H x y v u Q I rx ry h
  obtain ⟨l, k, xs, rfl, rfl, hT, hne, q⟩ := h
  cases rx
  obtain ⟨t, rfl⟩ := ry
  obtain ⟨its, r, ⟨⟨cls, dd, data, sl⟩, ho, hc, n, hd⟩, hs⟩ := I.tuple hT
  simp only at hc hd
  subst hc hd
  have hle : its.length = xs.length := r.length.symm
  have hn : its ≠ [] := fun e => hne (by
    rw [e] at hle
    exact List.eq_nil_of_length_eq_zero hle.symm)
  have hi : its.toArray.isEmpty = false := by
    cases its with
    | nil => exact absurd rfl hn
    | cons a b => rfl
  rcases q with ⟨rfl, q⟩ | ⟨rfl, q⟩
  · refine wpAny_binaryOp_repeat_ref (T := "tuple") (U := "int") (by decide) ⟨_, ho, rfl⟩ (fun s' => typeIs_int s' 1 t) noFill_tuple_mul F.fills_int_mul F.slot_int_rmul repeat_tuple F.slot_int_index.lookup
      (call_meets F.slot_int_rmul (typeIs_int s 1 t) F.entry_int_rmul (F.args_int_rmul_2 _ _) (int_rmul_tuple 1 t l its.toArray n dd sl)
        ⟨ho, rfl, ⟨_, ho, rfl⟩, call_meets F.slot_tuple_mul ⟨_, ho, rfl⟩ F.entry_tuple_mul (F.args_tuple_mul_2 _ _) (tuple_mul1 l its.toArray n dd sl t) ⟨ho, ?_⟩⟩)
    exact ⟨.ref l, H, I, rfl, q⟩
  · refine wpAny_binaryOp_repeat_ref (T := "tuple") (U := "int") (by decide) ⟨_, ho, rfl⟩ (fun s' => typeIs_int s' 0 t) noFill_tuple_mul F.fills_int_mul F.slot_int_rmul repeat_tuple F.slot_int_index.lookup
      (call_meets F.slot_int_rmul (typeIs_int s 0 t) F.entry_int_rmul (F.args_int_rmul_2 _ _) (int_rmul_tuple 0 t l its.toArray n dd sl)
        ⟨ho, rfl, ⟨_, ho, rfl⟩, call_meets F.slot_tuple_mul ⟨_, ho, rfl⟩ F.entry_tuple_mul (F.args_tuple_mul_2 _ _) (tuple_mul0 l its.toArray n dd sl t (by rw [hi]; rfl)) ⟨ho, ?_⟩⟩)
    refine ⟨.ref s.heap.objs.size, _, I.laid (t' := s.toks) (o := .tup []) (fun b ob q => Heap.get?_push_of_some _ q) (Nat.le_refl _) ?_, rfl, q _ (I.hok.fresh (Nat.le_refl _))⟩
    exact ⟨by show 0 ≤ sizeLine; exact Nat.zero_le _, [], .nil, IsTup.new _ _⟩
end
end Gd

-- part Gd7
set_option Elab.async false
set_option linter.all false
set_option maxRecDepth 100000
set_option maxHeartbeats 2000000
/-! ### walks and comprehensions over the frozen world -/
namespace Gd
open PySem L2
section
variable {K : PySem.W.Frag} {b : Bool} {σ : L2.St} {G G' H : Hp} {t ta tb te : TE} {R R' : SR} {α β γ : Type} {e : α → SR} {f : β → SR}
/-- a walk over what stands for xs, while Z holds of the heap -/
structure WalkR (b : Bool) (J : It) (e : α → SR) (xs : List α) (G : Hp) (Z : Hp → Prop) : Prop where
  len : xs.length ≤ sizeLine
  goes : ∀ i G3 H3, i < xs.length → Same G G3 → Rel b G3 H3 → Z H3 → J.go i H3
  stops : ∀ G3 H3, Same G G3 → Rel b G3 H3 → Z H3 → J.stop xs.length H3
  yields : ∀ i a G3 H3 x H', xs[i]? = some a → Same G G3 → Rel b G3 H3 → Z H3 → J.yld i H3 x H' → ∃ G4, Go G3 H3 G4 H' ∧ (e a).p x G4
def EvI (b : Bool) (wi : TI) (σ : L2.St) (G : Hp) (e : α → SR) (xs : List α) : Prop := ∀ G1 H1, Same G G1 → Rel b G1 H1 → ∀ Rr : It → Hp → Prop, (∀ J G2 H2, Go G1 H1 G2 H2 → WalkR b J e xs G2 (fun _ => True) → Rr J H2) → wi σ H1 Rr
/-- the target takes the value -/
def GTo (b : Bool) (g : TG) (x : V) (σ : L2.St) (G : Hp) (σ' : L2.St) : Prop := ∀ H, Rel b G H → ∀ Q : L2.St → Hp → Prop, Q σ' H → g x σ H Q
theorem gto_name {i : Nat} {x : V} : GTo b (gName i) x σ G (σ.set i (some x)) := fun _ _ _ q => q
theorem gto_tup2 {a : Addr} {v w : V} {i j : Nat} (h : SqT K G a [v, w]) : GTo b (gTup K 2 (gCons (gName i) (gCons (gName j) gNil))) (.ref a) σ G ((σ.set i (some v)).set j (some w)) :=
  fun H r Q q => ⟨a, _, rfl, r.seqT h, rfl, v, [w], rfl, w, [], rfl, rfl, q⟩
theorem gto_tup3 {a : Addr} {v w z : V} {i j k : Nat} (h : SqT K G a [v, w, z]) : GTo b (gTup K 3 (gCons (gName i) (gCons (gName j) (gCons (gName k) gNil)))) (.ref a) σ G (((σ.set i (some v)).set j (some w)).set k (some z)) :=
  fun H r Q q => ⟨a, _, rfl, r.seqT h, rfl, v, [w, z], rfl, w, [z], rfl, z, [], rfl, rfl, q⟩
theorem gto_or1 {g1 g2 : TG} {x : V} {σ' : L2.St} (h : GTo b g1 x σ G σ') : GTo b (fun v σ H Q => g1 v σ H Q ∨ g2 v σ H Q) x σ G σ' := fun H r Q q => .inl (h H r Q q)
theorem gto_or2 {g1 g2 : TG} {x : V} {σ' : L2.St} (h : GTo b g2 x σ G σ') : GTo b (fun v σ H Q => g1 v σ H Q ∨ g2 v σ H Q) x σ G σ' := fun H r Q q => .inr (h H r Q q)
theorem gto_unl3 {a : Addr} {v w z : V} {i j k : Nat} (h : G a = some (.lst [v, w, z])) : GTo b (gUnl K 3 (gCons (gName i) (gCons (gName j) (gCons (gName k) gNil)))) (.ref a) σ G (((σ.set i (some v)).set j (some w)).set k (some z)) :=
  fun H r Q q => ⟨a, _, rfl, r.seqL (SqL.of h), rfl, v, [w, z], rfl, w, [z], rfl, z, [], rfl, rfl, q⟩

theorem walkR_list {a : Addr} {xs : List α} {vs : List V} (h : G a = some (.lst vs)) (hl : vs.length ≤ sizeLine) (al : Al e xs vs G) : WalkR b (Itl K a) e xs G (fun _ => True) where
  len := by rw [← al.len]; exact hl
  goes := fun i G3 H3 hi s r _ => by
    have hi' : i < vs.length := by rw [al.len]; exact hi
    exact ⟨vs, vs[i], r.seqL (SqL.of (s _ _ h)), by simp [hi']⟩
  stops := fun G3 H3 s r _ => ⟨vs, r.seqL (SqL.of (s _ _ h)), by rw [al.len]; exact Nat.le_refl _⟩
  yields := fun i a' G3 H3 x H' ha s r _ y => by
    obtain ⟨e1, y⟩ := y
    subst e1
    obtain ⟨v, hv, hp⟩ := al.get' ha
    have := y vs (r.seqL (SqL.of (s _ _ h)))
    rw [hv] at this
    cases this
    exact ⟨G3, Go.refl _ _, (e a').st s hp⟩
theorem walkR_tup {a : Addr} {xs : List α} {vs : List V} (h : SqT K G a vs) (hl : vs.length ≤ sizeLine) (al : Al e xs vs G) : WalkR b (Itt K a) e xs G (fun _ => True) where
  len := by rw [← al.len]; exact hl
  goes := fun i G3 H3 hi s r _ => by
    have hi' : i < vs.length := by rw [al.len]; exact hi
    exact ⟨vs, vs[i], r.seqT ((Rel.of (b := true) (fun x o q => .inl (s x o q))).seqT h), by simp [hi']⟩
  stops := fun G3 H3 s r _ => ⟨vs, r.seqT ((Rel.of (b := true) (fun x o q => .inl (s x o q))).seqT h), by rw [al.len]; exact Nat.le_refl _⟩
  yields := fun i a' G3 H3 x H' ha s r _ y => by
    obtain ⟨e1, y⟩ := y
    subst e1
    obtain ⟨v, hv, hp⟩ := al.get' ha
    have := y vs (r.seqT ((Rel.of (b := true) (fun x o q => .inl (s x o q))).seqT h))
    rw [hv] at this
    cases this
    exact ⟨G3, Go.refl _ _, (e a').st s hp⟩
theorem ei_list {xs : List α} (h : Ev b te σ G (Lst e xs)) : EvI b (iList K te) σ G e xs := fun G1 H1 a r Rr k => h G1 H1 a r _ fun u G2 H2 g p => by
  obtain ⟨ad, vs, rfl, h1, h2, h3⟩ := p
  exact ⟨ad, rfl, ⟨vs, (g.r _ r).seqL (SqL.of h1)⟩, k _ G2 H2 g (walkR_list h1 h2 h3)⟩
theorem ei_tup {xs : List α} (h : Ev b te σ G (Tpl K e xs)) : EvI b (iTup K te) σ G e xs := fun G1 H1 a r Rr k => h G1 H1 a r _ fun u G2 H2 g p => by
  obtain ⟨ad, vs, rfl, h1, h2, h3⟩ := p
  exact ⟨ad, rfl, ⟨vs, (g.r _ r).seqT h1⟩, k _ G2 H2 g (walkR_tup h1 h2 h3)⟩
/-- a list or a tuple -/
def iSeq (K : PySem.W.Frag) (tl : TE) : TI := fun σ H R => tl σ H fun x H1 => ∃ a, x = .ref a ∧ (((∃ xs, SqL K H1 a xs) ∧ R (Itl K a) H1) ∨ ((∃ xs, SqT K H1 a xs) ∧ R (Itt K a) H1))
theorem ei_sq {xs : List α} (h : Ev b te σ G (Sq K e xs)) : EvI b (iSeq K te) σ G e xs := fun G1 H1 a r Rr k => h G1 H1 a r _ fun u G2 H2 g p => by
  rcases p with ⟨ad, vs, rfl, h1, h2, h3⟩ | ⟨ad, vs, rfl, h1, h2, h3⟩
  · exact ⟨ad, rfl, .inl ⟨⟨vs, (g.r _ r).seqL (SqL.of h1)⟩, k _ G2 H2 g (walkR_list h1 h2 h3)⟩⟩
  · exact ⟨ad, rfl, .inr ⟨⟨vs, (g.r _ r).seqT h1⟩, k _ G2 H2 g (walkR_tup h1 h2 h3)⟩⟩
/-- a range from lo -/
theorem walkR_range {lo : Int} {n : Nat} (hn : n ≤ sizeLine) : WalkR b (Itr lo n) (fun i : Nat => I (lo + (i : Nat))) (List.range n) G (fun _ => True) where
  len := by rw [List.length_range]; exact hn
  goes := fun i G3 H3 hi _ _ _ => by rw [List.length_range] at hi; exact hi
  stops := fun G3 H3 _ _ _ => by rw [List.length_range]; exact Nat.le_refl n
  yields := fun i a' G3 H3 x H' ha s r _ y => by
    obtain ⟨e1, e2⟩ := y
    subst e1 e2
    have hi := (List.getElem?_eq_some_iff.mp ha)
    obtain ⟨h1, h2⟩ := hi
    rw [List.getElem_range] at h2
    subst h2
    exact ⟨G3, Go.refl _ _, rfl⟩
theorem ei_range1 {n : Int} (h : Ev b te σ G (I n)) (h0 : 0 ≤ n) (h1 : n ≤ 100000) : EvI b (iRng1 (tCons te tNil)) σ G (fun i : Nat => I (0 + (i : Nat))) (List.range n.toNat) := fun G1 H1 a r Rr k =>
  h G1 H1 a r _ fun u G2 H2 g p => ⟨n, by rw [p], by omega, by omega, k _ G2 H2 g (walkR_range (by have : sizeLine = 16777216 := sizeLine_eq; omega))⟩
/-! the core of a comprehension: the new list at D -/
def KeepL (f : α → β) (p : α → Bool) (xs : List α) : List β := (xs.filter p).map f
theorem take_succ {xs : List α} {i : Nat} {a : α} (h : xs[i]? = some a) : xs.take (i + 1) = xs.take i ++ [a] := by
  rw [List.take_succ, h]; rfl
theorem lc_go {J : It} {xs : List α} {Z : Hp → Prop} {H1 : Hp} (W : WalkR b J e xs G Z) (rel : Rel b G H1) (z0 : Z H1) (hZ : ∀ H H', Same H H' → Z H → Z H') {g : TG} {tt : TT} {vs : List Nat} {er : β → SR} {fn : α → β} {p : α → Bool}
    (hb : ∀ a, a ∈ xs → ∀ x G', Same G G' → (e a).p x G' → ∃ σ', GTo b g x (wipe σ vs) G' σ' ∧ wipe σ' vs = wipe σ vs ∧ EvT b tt σ' G' (p a) ∧ (p a = true → Ev b te σ' G' (er (fn a))))
    {D : Addr} (hD : H1 D = none) {Qd : Hp → Prop} (hd : ∀ G2 H2 acc, Go G H1 G2 H2 → G2 D = none → H2 D = some (.lst acc) → acc.length ≤ sizeLine → Al er ((xs.filter p).map fn) acc G2 → Z H2 → Qd H2) :
    ∃ W : Nat → Nat → Hp → Prop, (∃ m, W 0 m (upd H1 D (.lst []))) ∧ ∀ i m H, W i m H →
      (J.stop i H ∧ Qd H) ∨ (J.go i H ∧ ∃ Nx : Hp → Prop, (∀ H', Nx H' → ∃ m', m' < m ∧ W (i + 1) m' H') ∧ ∀ x H', J.yld i H x H' → g x (wipe σ vs) H' fun σ2 H2 => wipe σ2 vs = wipe σ vs ∧ tt σ2 H2 fun b H3 =>
        if b = true then te σ2 H3 fun y H4 => ∃ acc, H4 D = some (.lst acc) ∧ acc.length < sizeLine ∧ Nx (upd H4 D (.lst (acc ++ [y]))) else Nx H3) := by
  have WW : Walk J xs.length (fun H => ∃ G', Same G G' ∧ Rel b G' H ∧ Z H) (fun i H x H' => ∀ a, xs[i]? = some a → ∀ G3, Same G G3 → Rel b G3 H → Z H → ∃ G4, Go G3 H G4 H' ∧ (e a).p x G4) :=
    ⟨fun i H hi ⟨G', s, r, z⟩ => W.goes i G' H hi s r z, fun H ⟨G', s, r, z⟩ => W.stops G' H s r z, fun i H x H' hi ⟨G', s, r, z⟩ y a ha G3 s3 r3 z3 => W.yields i a G3 H x H' ha s3 r3 z3 y⟩
  refine lc_it WW (fun i H => i ≤ xs.length ∧ ∃ G' acc, Go G H1 G' H ∧ G' D = none ∧ H D = some (.lst acc) ∧ acc.length ≤ i ∧ Al er (((xs.take i).filter p).map fn) acc G' ∧ Z H)
    ⟨Nat.zero_le _, G, [], Go.own rel hD, rel.free hD, upd_same, Nat.zero_le _, by simp; exact .nil, hZ _ _ (Same.new hD) z0⟩
    (fun i H hi ⟨_, G', acc, g, _, _, _, _, z⟩ => ⟨G', g.g, g.r _ rel, z⟩) ?_ ?_
  · rintro i x H H' hi ⟨_, G', acc, g, nD, hacc, hl, al, z⟩ y
    have hlt : i < xs.length := hi
    have hxi : xs[i]? = some xs[i] := List.getElem?_eq_getElem hlt
    obtain ⟨G4, g4, pa⟩ := y xs[i] hxi G' g.g (g.r _ rel) z
    have gA := g.trans g4
    obtain ⟨σ', h1, h2, h3, h4⟩ := hb xs[i] (List.getElem_mem hlt) x G4 gA.g pa
    refine h1 H' (gA.r _ rel) _ ⟨h2, ?_⟩
    refine h3.run (gA.r _ rel) fun G5 H5 g5 => ?_
    have D5 : H5 D = some (.lst acc) := g5.h _ _ (g4.h _ _ hacc)
    have n5 : G5 D = none := g5.owned (g4.h _ _ hacc) (g4.owned hacc nD)
    have gB := gA.trans g5
    have et : ((xs.take (i + 1)).filter p).map fn = ((xs.take i).filter p).map fn ++ (if p xs[i] = true then [fn xs[i]] else []) := by
      rw [take_succ hxi, List.filter_append, List.map_append]
      by_cases q : p xs[i] = true
      · simp [q]
      · simp [q]
    by_cases q : p xs[i] = true
    · rw [if_pos q]
      refine ((h4 q).mono g5.g).run (gB.r _ rel) fun y G6 H6 g6 py => ?_
      refine ⟨acc, g6.h _ _ D5, Nat.lt_of_le_of_lt hl (Nat.lt_of_lt_of_le hlt W.len), hlt, G6, acc ++ [y], (gB.trans g6).wr hD (g6.owned D5 n5), g6.owned D5 n5, upd_same, by rw [List.length_append, List.length_singleton]; omega, ?_, ?_⟩
      · rw [et, if_pos q]
        exact (al.st ((g4.g.trans g5.g).trans g6.g)).snoc py
      · refine hZ H1 _ (Same.own (gB.trans g6).h hD) z0
    · rw [if_neg q]
      refine ⟨hlt, G5, acc, gB, n5, D5, by omega, ?_, hZ _ _ g5.h (hZ _ _ g4.h z)⟩
      rw [et, if_neg q, List.append_nil]
      exact al.st (g4.g.trans g5.g)
  · rintro H ⟨_, G', acc, g, nD, hacc, hl, al, z⟩
    rw [List.take_length] at al
    exact hd G' H acc g nD hacc (Nat.le_trans hl W.len) al z
/-- [f(a) for a in xs if p(a)] -/
theorem en_lc {wi : TI} {xs : List α} {g : TG} {tt : TT} {vs : List Nat} {er : β → SR} {fn : α → β} {p : α → Bool} (hi : EvI b wi σ G e xs)
    (hb : ∀ a, a ∈ xs → ∀ x G', Same G G' → (e a).p x G' → ∃ σ', GTo b g x (wipe σ vs) G' σ' ∧ wipe σ' vs = wipe σ vs ∧ EvT b tt σ' G' (p a) ∧ (p a = true → Ev b te σ' G' (er (fn a)))) :
    EvN b (tLc wi g tt te vs) σ G er ((xs.filter p).map fn) := fun G1 H1 a r Q k =>
  hi G1 H1 a r _ fun J G2 H2 g2 W D hD => lc_go W (g2.r _ r) trivial (fun _ _ _ _ => trivial) (fun a' ha x G' s pa => hb a' ha x G' ((a.trans g2.g).trans s) pa) hD fun G3 H3 acc g3 n3 h3 l3 al _ =>
    k D acc G3 H3 (g2.trans g3) (g2.free hD) n3 h3 l3 al
theorem filter_true (xs : List α) : xs.filter (fun _ => true) = xs := by
  induction xs with
  | nil => rfl
  | cons a t ih => simp
/-- [f(a) for a in xs] -/
theorem en_map {wi : TI} {xs : List α} {g : TG} {vs : List Nat} {er : β → SR} {fn : α → β} (hi : EvI b wi σ G e xs)
    (hb : ∀ a, a ∈ xs → ∀ x G', Same G G' → (e a).p x G' → ∃ σ', GTo b g x (wipe σ vs) G' σ' ∧ wipe σ' vs = wipe σ vs ∧ Ev b te σ' G' (er (fn a))) :
    EvN b (tLc wi g tYes te vs) σ G er (xs.map fn) := by
  have := en_lc (tt := tYes) (p := fun _ => true) hi (fun a ha x G' s pa => by
    obtain ⟨σ', h1, h2, h3⟩ := hb a ha x G' s pa
    exact ⟨σ', h1, h2, et_yes, fun _ => h3⟩)
  rw [filter_true] at this
  exact this
theorem walkR_keys {d : Addr} {o : Obj} {kvs : List (Key × V)} {ks : List Str} (hl : kvs.length ≤ sizeLine) (ho : ∀ k ∈ ks, okS k = true) (hk : kvs.map (·.1) = ks.map Sum.inr) : WalkR b (Itk d o kvs) S ks G (fun H => H d = some (.frz o (.dK kvs))) where
  len := by
    have := congrArg List.length hk
    rw [List.length_map, List.length_map] at this
    omega
  goes := fun i G3 H3 hi s r z => by
    have := congrArg List.length hk
    rw [List.length_map, List.length_map] at this
    exact ⟨z, by omega⟩
  stops := fun G3 H3 s r z => by
    have := congrArg List.length hk
    rw [List.length_map, List.length_map] at this
    exact ⟨z, by omega⟩
  yields := fun i a' G3 H3 x H' ha s r z y => by
    obtain ⟨e1, k, v, h1, h2⟩ := y
    subst e1 h2
    have h3 : (kvs.map (·.1))[i]? = some k := by rw [List.getElem?_map, h1]; rfl
    rw [hk, List.getElem?_map, ha] at h3
    have h4 : Sum.inr a' = k := Option.some.inj h3
    subst h4
    exact ⟨G3, Go.refl _ _, rfl, ho _ (List.mem_of_getElem? ha)⟩
/-- [f(a) for a in d if p(a)], d a name that holds a dict of texts -/
theorem en_lcK {i : Nat} {d : Addr} {kvs : List (Key × V)} {xs : List Str} {g : TG} {tt : TT} {vs : List Nat} {er : β → SR} {fn : Str → β} {p : Str → Bool} (hv : σ[i]? = some (some (.ref d))) (hd : G d = some (.dK kvs)) (hl : kvs.length ≤ sizeLine) (ho : ∀ k ∈ xs, okS k = true) (hk : kvs.map (·.1) = xs.map Sum.inr)
    (hb : ∀ a, a ∈ xs → ∀ x G', Same G G' → (S a).p x G' → ∃ σ', GTo false g x (wipe σ vs) G' σ' ∧ wipe σ' vs = wipe σ vs ∧ EvT false tt σ' G' (p a) ∧ (p a = true → Ev false te σ' G' (er (fn a)))) :
    EvN true (tLockE (tLc (iKeys (tVar i)) g tt te vs)) σ G er ((xs.filter p).map fn) := fun G1 H1 a r Q k => by
  have hG := a _ _ hd
  have hH := r.ex hG
  refine ⟨d, .dK kvs, hH, trivial, fun od => ⟨.ref d, hv, d, od, rfl, .inl ⟨kvs, upd_same, fun D hD => ?_⟩⟩⟩
  have hDd : D ≠ d := fun z => by rw [z, upd_same] at hD; cases hD
  have hD1 : H1 D = none := by rw [upd_ne hDd] at hD; exact hD
  refine lc_go (walkR_keys hl ho hk) (r.lock hG rfl) upd_same (fun _ _ s z => s _ _ z) (fun a' ha x G' s pa => hb a' ha x G' (a.trans s) pa) hD fun G3 H3 acc g3 n3 h3 l3 al z => ⟨z, ?_⟩
  exact k D acc G3 (upd H3 d (.dK kvs)) (g3.unlock hG hH) hD1 n3 (by rw [upd_ne hDd]; exact h3) l3 al
end
end Gd

-- part Gd8
set_option Elab.async false
set_option linter.all false
set_option maxRecDepth 100000
set_option maxHeartbeats 2000000
/-! ### operators over the frozen world -/
namespace Gd
open PySem PySem.Spec PyProof.Rows L2
open PySem.W (EachIs AllAlike dataLe alike)
section
variable {K : PySem.W.Frag} {b : Bool} {σ : L2.St} {G G' H : Hp} {t ta tb te tc : TE} {R R' : SR} {α β γ : Type} {e : α → SR} {f : β → SR}
theorem Rel.sq {G G' : Hp} (s : Same G G') : Rel true G G' := fun a o q => .inl (s a o q)
/-! items of a list or a tuple -/
theorem Sq.seq {xs : List α} {u : V} (r : Rel b G H) (h : (Sq K e xs).p u G) : ∃ a vs, u = .ref a ∧ (SqL K H a vs ∨ SqT K H a vs) ∧ vs.length ≤ sizeLine ∧ Al e xs vs G := by
  rcases h with ⟨a, vs, h1, h2, h3, h4⟩ | ⟨a, vs, h1, h2, h3, h4⟩
  · exact ⟨a, vs, h1, .inl (r.seqL (SqL.of h2)), h3, h4⟩
  · exact ⟨a, vs, h1, .inr (r.seqT h2), h3, h4⟩
theorem Lst.sq {xs : List α} {u : V} (h : (Lst e xs).p u G) : (Sq K e xs).p u G := .inl h
theorem Tpl.sq {xs : List α} {u : V} (h : (Tpl K e xs).p u G) : (Sq K e xs).p u G := .inr h
/-! ### in -/
theorem inV_S {xs : List Str} : ∀ {vs : List V}, Al S xs vs G → ∀ s : Str, inV (.str s) vs = decide (s ∈ xs) ∧ vs.all flatV = true := by
  intro vs h
  induction h with
  | nil => intro s; exact ⟨rfl, rfl⟩
  | @cons G a as v vs hv ht ih =>
    intro s
    obtain ⟨e1, _⟩ := hv
    subst e1
    obtain ⟨i1, i2⟩ := ih s
    refine ⟨?_, ?_⟩
    · show (eqV (.str a) (.str s) || inV (.str s) vs) = _
      rw [i1]
      show ((a == s) || _) = _
      by_cases q : s = a
      · subst q; simp
      · have : ¬ a = s := fun z => q z.symm
        simp [q, this]
    · show (flatV (.str a) && vs.all flatV) = true
      rw [i2]; rfl
theorem ev_in {s : Str} {xs : List Str} (ha : Ev b ta σ G (S s)) (hb : Ev b tb σ G (Sq K S xs)) : Ev b (tOp (rIn K false) ta tb) σ G (B (decide (s ∈ xs))) :=
  ev_opP ha hb fun x y G1 H1 a r p q => by
    obtain ⟨ad, vs, rfl, h1, h2, h3⟩ := Sq.seq r q
    obtain ⟨rfl, _⟩ := p
    obtain ⟨i1, i2⟩ := inV_S h3 s
    exact ⟨_, congrArg V.bl i1, fun Q hQ => ⟨ad, vs, rfl, h1, rfl, i2, hQ⟩⟩
theorem ev_notin {s : Str} {xs : List Str} (ha : Ev b ta σ G (S s)) (hb : Ev b tb σ G (Sq K S xs)) : Ev b (tOp (rIn K true) ta tb) σ G (B (!decide (s ∈ xs))) :=
  ev_opP ha hb fun x y G1 H1 a r p q => by
    obtain ⟨ad, vs, rfl, h1, h2, h3⟩ := Sq.seq r q
    obtain ⟨rfl, _⟩ := p
    obtain ⟨i1, i2⟩ := inV_S h3 s
    exact ⟨_, congrArg (fun c => V.bl (!c)) i1, fun Q hQ => ⟨ad, vs, rfl, h1, rfl, i2, hQ⟩⟩
/-- k in d -/
theorem valV_keys {kvs : List (Key × V)} {ks : List Str} (h : kvs.map (·.1) = ks.map Sum.inr) (s : Str) : (valV kvs (Sum.inr s : Key)).isSome = decide (s ∈ ks) := by
  rw [← valV_any]
  have e : (kvs.any fun kv => decide (kv.1 = Sum.inr s)) = (kvs.map (·.1)).any fun k => decide (k = Sum.inr s) := by
    rw [List.any_map]; rfl
  rw [e, h, List.any_map, Bool.eq_iff_iff, List.any_eq_true, decide_eq_true_eq]
  constructor
  · rintro ⟨x, hx, hp⟩
    have z : (Sum.inr x : Key) = Sum.inr s := of_decide_eq_true hp
    exact (Sum.inr.inj z) ▸ hx
  · intro hx
    exact ⟨s, hx, decide_eq_true rfl⟩
theorem ev_inK {s : Str} {ks : List Str} (ha : Ev b ta σ G (S s)) (hb : Ev b tb σ G (Ks ks)) : Ev b (tDIn ta tb) σ G (B (decide (s ∈ ks))) := fun G1 H1 a r Q k =>
  ha G1 H1 a r _ fun x G2 H2 g p => hb G2 H2 (a.trans g.g) (g.r _ r) _ fun y G3 H3 g' q => by
    obtain ⟨ad, kvs, rfl, h1, h2, h3⟩ := q
    obtain ⟨rfl, _⟩ := p
    exact ⟨ad, _, rfl, .inl ⟨kvs, Sum.inr s, (g'.r _ (g.r _ r)).rd h1, rfl, rfl⟩, k _ G3 H3 (g.trans g') (congrArg V.bl (valV_keys h3 s))⟩
theorem ev_notinK {s : Str} {ks : List Str} (ha : Ev b ta σ G (S s)) (hb : Ev b tb σ G (Ks ks)) : Ev b (tDNotIn ta tb) σ G (B (!decide (s ∈ ks))) := fun G1 H1 a r Q k =>
  ha G1 H1 a r _ fun x G2 H2 g p => hb G2 H2 (a.trans g.g) (g.r _ r) _ fun y G3 H3 g' q => by
    obtain ⟨ad, kvs, rfl, h1, h2, h3⟩ := q
    obtain ⟨rfl, _⟩ := p
    exact ⟨ad, _, rfl, .inl ⟨kvs, Sum.inr s, (g'.r _ (g.r _ r)).rd h1, rfl, rfl⟩, k _ G3 H3 (g.trans g') (congrArg (fun c => V.bl (!c)) (valV_keys h3 s))⟩
theorem AlD.keys {as : List (Str × α)} : ∀ {vs : List (Key × V)}, AlD e as vs G → vs.map (·.1) = (as.map (·.1)).map Sum.inr := by
  intro vs h
  induction h with
  | nil => rfl
  | cons _ _ ih => simp [ih]
theorem AlD.val {as : List (Str × α)} {k : Str} {a : α} : ∀ {vs : List (Key × V)}, AlD e as vs G → as.lookup k = some a → ∃ v, valV vs (Sum.inr k : Key) = some v ∧ (e a).p v G := by
  intro vs h
  induction h with
  | nil => intro q; cases q
  | @cons G k' a' as v vs hv _ ih =>
    intro q
    by_cases z : k = k'
    · subst z
      have : (k == k) = true := by simp
      simp only [List.lookup, this] at q
      cases q
      exact ⟨v, valV_pos rfl, hv⟩
    · have z2 : (k == k') = false := by simpa using z
      simp only [List.lookup, z2] at q
      obtain ⟨w, h1, h2⟩ := ih q
      exact ⟨w, by rw [valV_neg (fun y => z (Sum.inr.inj y).symm)]; exact h1, h2⟩
theorem Dct.ks {kvs : List (Str × α)} (h : Ev b te σ G (Dct e kvs)) : Ev b te σ G (Ks (kvs.map (·.1))) := h.is fun u G2 _ ⟨a, vs, h1, h2, h3, h4⟩ => ⟨a, vs, h1, h2, h3, h4.keys⟩
/-- d[k] -/
theorem ev_dget {kvs : List (Str × α)} {k : Str} {a : α} (ha : Ev b ta σ G (Dct e kvs)) (hb : Ev b tb σ G (S k)) (hk : kvs.lookup k = some a) : Ev b (tDGet ta tb) σ G (e a) := fun G1 H1 s r Q kk =>
  ha G1 H1 s r _ fun x G2 H2 g p => hb G2 H2 (s.trans g.g) (g.r _ r) _ fun y G3 H3 g' q => by
    obtain ⟨ad, vs, rfl, h1, h2, h3⟩ := p
    obtain ⟨rfl, _⟩ := q
    obtain ⟨v, hv, pv⟩ := h3.val hk
    exact ⟨ad, v, rfl, .inl ⟨vs, Sum.inr k, (g'.r _ (g.r _ r)).rd (g'.g _ _ h1), rfl, hv.symm⟩, kk v G3 H3 (g.trans g') ((e a).st g'.g pv)⟩
/-! ### len -/
def rLen (K : PySem.W.Frag) : List V → Hp → VK → Prop := fun xs H Q => ∃ p ys, xs = [.ref p] ∧ (SqL K H p ys ∨ SqT K H p ys) ∧ Q (.int ys.length) H
theorem ev_len {xs : List α} (ha : Ev b te σ G (Sq K e xs)) : Ev b (tCB (rLen K) (tCons te tNil)) σ G (I (xs.length : Nat)) :=
  ev_cb (ea_cons ha ea_nil) fun vs G1 H1 a r al Q k => by
    obtain ⟨v, rfl, p⟩ := alr1 al
    obtain ⟨ad, ws, rfl, h1, h2, h3⟩ := Sq.seq r p
    exact ⟨ad, ws, rfl, h1, k _ G1 H1 (Go.refl _ _) (by show V.int _ = V.int _; rw [h3.len])⟩
def rLenS : List V → Hp → VK → Prop := fun xs H Q => ∃ z, xs = [.str z] ∧ z.length ≤ sizeLine ∧ Q (.int z.length) H
theorem okS_len {s : Str} (h : okS s = true) : s.length ≤ 100000 := by
  unfold okS at h
  rw [Bool.and_eq_true] at h
  exact of_decide_eq_true h.2
theorem okS_lay {s : Str} (h : okS s = true) : PyData.strOk s = true := by
  unfold okS at h
  rw [Bool.and_eq_true] at h
  exact h.1
theorem ev_lenS {s : Str} (ha : Ev b te σ G (S s)) : Ev b (tCB rLenS (tCons te tNil)) σ G (I (s.length : Nat)) :=
  ev_cb (ea_cons ha ea_nil) fun vs G1 H1 a r al Q k => by
    obtain ⟨v, rfl, rfl, p⟩ := alr1 al
    exact ⟨s, rfl, Nat.le_trans (okS_len p) (by decide), k _ G1 H1 (Go.refl _ _) rfl⟩
def rLenD : List V → Hp → VK → Prop := fun xs H Q => ∃ a kvs, xs = [V.ref a] ∧ H a = some (.dK kvs) ∧ Q (.int kvs.length) H
theorem ev_lenD {ks : List Str} (ha : Ev true te σ G (Ks ks)) : Ev true (tCB rLenD (tCons te tNil)) σ G (I (ks.length : Nat)) :=
  ev_cb (ea_cons ha ea_nil) fun vs G1 H1 a r al Q k => by
    obtain ⟨v, rfl, p⟩ := alr1 al
    obtain ⟨ad, kvs, rfl, h1, h2, h3⟩ := p
    have hl : kvs.length = ks.length := by
      have := congrArg List.length h3
      rwa [List.length_map, List.length_map] at this
    exact ⟨ad, kvs, rfl, r.ex h1, k _ G1 H1 (Go.refl _ _) (by show V.int _ = V.int _; rw [hl])⟩
/-! ### ==, != of scalars -/
theorem ev_eqS {x y : Str} (ha : Ev b ta σ G (S x)) (hb : Ev b tb σ G (S y)) : Ev b (tOp rEq ta tb) σ G (B (decide (x = y))) :=
  ev_opP ha hb fun u v G1 H1 a r p q => by
    obtain ⟨rfl, _⟩ := p
    obtain ⟨rfl, _⟩ := q
    refine ⟨_, ?_, fun Q hQ => ⟨rfl, hQ⟩⟩
    show V.bl _ = V.bl _
    rw [dec_str, Bool.beq_eq_decide_eq]
theorem ev_neS {x y : Str} (ha : Ev b ta σ G (S x)) (hb : Ev b tb σ G (S y)) : Ev b (tOp rNe ta tb) σ G (B (!decide (x = y))) :=
  ev_opP ha hb fun u v G1 H1 a r p q => by
    obtain ⟨rfl, _⟩ := p
    obtain ⟨rfl, _⟩ := q
    refine ⟨_, ?_, fun Q hQ => ⟨rfl, hQ⟩⟩
    show V.bl _ = V.bl _
    rw [dec_str, Bool.beq_eq_decide_eq]
theorem ev_eqI {x y : Int} (ha : Ev b ta σ G (I x)) (hb : Ev b tb σ G (I y)) : Ev b (tOp rEq ta tb) σ G (B (decide (x = y))) :=
  ev_opP ha hb fun u v G1 H1 a r p q => by
    obtain rfl : u = _ := p
    obtain rfl : v = _ := q
    refine ⟨_, ?_, fun Q hQ => ⟨rfl, hQ⟩⟩
    show V.bl _ = V.bl _
    rw [dec_int, Bool.beq_eq_decide_eq]
theorem ev_neI {x y : Int} (ha : Ev b ta σ G (I x)) (hb : Ev b tb σ G (I y)) : Ev b (tOp rNe ta tb) σ G (B (!decide (x = y))) :=
  ev_opP ha hb fun u v G1 H1 a r p q => by
    obtain rfl : u = _ := p
    obtain rfl : v = _ := q
    refine ⟨_, ?_, fun Q hQ => ⟨rfl, hQ⟩⟩
    show V.bl _ = V.bl _
    rw [dec_int, Bool.beq_eq_decide_eq]
theorem ev_neB {x y : Bool} (ha : Ev b ta σ G (B x)) (hb : Ev b tb σ G (B y)) : Ev b (tOp rNe ta tb) σ G (B (!decide (x = y))) :=
  ev_opP ha hb fun u v G1 H1 a r p q => by
    obtain rfl : u = _ := p
    obtain rfl : v = _ := q
    refine ⟨_, ?_, fun Q hQ => ⟨rfl, hQ⟩⟩
    show V.bl _ = V.bl _
    rw [dec_bl, Bool.beq_eq_decide_eq]
/-! ### ints -/
theorem ev_I0 {g : Int → Int → V} {x y : Int} (ha : Ev b ta σ G (I x)) (hb : Ev b tb σ G (I y)) : Ev b (tOp (rI0 g) ta tb) σ G (cst (g x y)) :=
  ev_opP ha hb fun u v G1 H1 a r p q => by
    obtain rfl : u = _ := p
    obtain rfl : v = _ := q
    exact ⟨_, rfl, fun Q hQ => ⟨x, y, rfl, rfl, hQ⟩⟩
theorem ev_I1 {C : Int → Int → Prop} {g : Int → Int → V} {x y : Int} (ha : Ev b ta σ G (I x)) (hb : Ev b tb σ G (I y)) (hc : C x y) : Ev b (tOp (rI C g) ta tb) σ G (cst (g x y)) :=
  ev_opP ha hb fun u v G1 H1 a r p q => by
    obtain rfl : u = _ := p
    obtain rfl : v = _ := q
    exact ⟨_, rfl, fun Q hQ => ⟨x, y, rfl, rfl, hc, hQ⟩⟩
/-! ### items -/
theorem ev_ixL {xs : List α} {i : Int} {j : Nat} {a : α} (ha : Ev b ta σ G (Lst e xs)) (hb : Ev b tb σ G (I i)) (hi : i = (j : Int)) (hx : xs[j]? = some a) : Ev b (tOp (rIx K) ta tb) σ G (e a) :=
  ev_opP ha hb fun u v G1 H1 _ r p q => by
    obtain ⟨ad, vs, rfl, h1, h2, h3⟩ := p
    obtain rfl : v = _ := q
    obtain ⟨w, hw, pw⟩ := h3.get' hx
    subst hi
    exact ⟨w, pw, fun Q hQ => .inl ⟨ad, vs, _, w, rfl, rfl, r.seqL (SqL.of h1), atI_nat hw, hQ⟩⟩
theorem ev_ixT {xs : List α} {i : Int} {j : Nat} {a : α} (ha : Ev b ta σ G (Tpl K e xs)) (hb : Ev b tb σ G (I i)) (hi : i = (j : Int)) (hx : xs[j]? = some a) : Ev b (tOp (rIx K) ta tb) σ G (e a) :=
  ev_opP ha hb fun u v G1 H1 _ r p q => by
    obtain ⟨ad, vs, rfl, h1, h2, h3⟩ := p
    obtain rfl : v = _ := q
    obtain ⟨w, hw, pw⟩ := h3.get' hx
    subst hi
    exact ⟨w, pw, fun Q hQ => .inr (.inl ⟨ad, vs, _, w, rfl, rfl, r.seqT h1, atI_nat hw, hQ⟩)⟩
theorem ev_ixP1 {x : α} {y : β} (ha : Ev b ta σ G (Pr K e f (x, y))) : Ev b (tOp (rIx K) ta (tC (.int 0))) σ G (e x) :=
  ev_opP ha ev_int fun u v G1 H1 _ r p q => by
    obtain ⟨ad, v1, v2, rfl, h1, h2, h3⟩ := p
    obtain rfl : v = _ := q
    exact ⟨v1, h2, fun Q hQ => .inr (.inl ⟨ad, _, _, v1, rfl, rfl, r.seqT h1, rfl, hQ⟩)⟩
theorem ev_ixP2 {x : α} {y : β} (ha : Ev b ta σ G (Pr K e f (x, y))) : Ev b (tOp (rIx K) ta (tC (.int 1))) σ G (f y) :=
  ev_opP ha ev_int fun u v G1 H1 _ r p q => by
    obtain ⟨ad, v1, v2, rfl, h1, h2, h3⟩ := p
    obtain rfl : v = _ := q
    exact ⟨v2, h3, fun Q hQ => .inr (.inl ⟨ad, _, _, v2, rfl, rfl, r.seqT h1, rfl, hQ⟩)⟩
/-! ### any, all -/
theorem Al.bls {bs : List Bool} : ∀ {vs : List V}, Al B bs vs G → vs = bs.map V.bl := by
  intro vs h
  induction h with
  | nil => rfl
  | cons h _ ih =>
    obtain rfl : _ = _ := h
    rw [ih]; rfl
theorem ev_all {bs : List Bool} (ha : Ev b te σ G (Lst B bs)) : Ev b (tCB (rAll K) (tCons te tNil)) σ G (B (bs.all id)) :=
  ev_cb (ea_cons ha ea_nil) fun vs G1 H1 a r al Q k => by
    obtain ⟨v, rfl, ad, ws, rfl, h1, h2, h3⟩ := alr1 al
    rw [h3.bls] at h1
    exact ⟨ad, bs, rfl, r.seqL (SqL.of h1), k _ G1 H1 (Go.refl _ _) rfl⟩
theorem ev_any {bs : List Bool} (ha : Ev b te σ G (Lst B bs)) : Ev b (tCB (rAny K) (tCons te tNil)) σ G (B (bs.any id)) :=
  ev_cb (ea_cons ha ea_nil) fun vs G1 H1 a r al Q k => by
    obtain ⟨v, rfl, ad, ws, rfl, h1, h2, h3⟩ := alr1 al
    rw [h3.bls] at h1
    exact ⟨ad, bs, rfl, r.seqL (SqL.of h1), k _ G1 H1 (Go.refl _ _) rfl⟩
/-- all([p(a) for a in xs]), any(..) -/
theorem ev_allL {xs : List α} {p : α → Bool} (ha : EvN b te σ G B (xs.map p)) : Ev b (tCB (rAll K) (tCons te tNil)) σ G (B (xs.all p)) := (ev_all ha.ev).eq (by rw [List.all_map]; rfl)
theorem ev_anyL {xs : List α} {p : α → Bool} (ha : EvN b te σ G B (xs.map p)) : Ev b (tCB (rAny K) (tCons te tNil)) σ G (B (xs.any p)) := (ev_any ha.ev).eq (by rw [List.any_map]; rfl)
/-! ### list(..), tuple(..), + -/
def rListOf (K : PySem.W.Frag) : List V → Hp → VK → Prop := fun xs H Q => ∃ p ys, xs = [.ref p] ∧ (SqL K H p ys ∨ SqT K H p ys) ∧ ∀ l, H l = none → Q (.ref l) (upd H l (.lst ys))
theorem en_list {xs : List α} (ha : Ev b te σ G (Sq K e xs)) : EvN b (tCB (rListOf K) (tCons te tNil)) σ G e xs :=
  en_cb (ea_cons ha ea_nil) fun vs G1 H1 a r al Q k => by
    obtain ⟨v, rfl, p⟩ := alr1 al
    obtain ⟨ad, ws, rfl, h1, h2, h3⟩ := Sq.seq r p
    exact ⟨ad, ws, rfl, h1, fun l hl => k l ws G1 _ (Go.own r hl) hl (r.free hl) upd_same h2 h3⟩
def rTupOf (K : PySem.W.Frag) : List V → Hp → VK → Prop := fun xs H Q => ∃ p ys, xs = [.ref p] ∧ ((SqL K H p ys ∧ ∀ l, H l = none → Q (.ref l) (upd H l (.tup ys))) ∨ (SqT K H p ys ∧ Q (.ref p) H))
theorem ev_tupleL {xs : List α} (ha : Ev b te σ G (Lst e xs)) : Ev b (tCB (rTupOf K) (tCons te tNil)) σ G (Tpl K e xs) :=
  ev_cb (ea_cons ha ea_nil) fun vs G1 H1 a r al Q k => by
    obtain ⟨v, rfl, ad, ws, rfl, h1, h2, h3⟩ := alr1 al
    exact ⟨ad, ws, rfl, .inl ⟨r.seqL (SqL.of h1), fun l hl => k _ _ _ (Go.new r hl) ⟨l, ws, rfl, SqT.of upd_same, h2, h3.st (Same.new (r.free hl))⟩⟩⟩
theorem en_cat {xs ys : List α} (ha : Ev b ta σ G (Lst e xs)) (hb : Ev b tb σ G (Lst e ys)) (hz : xs.length + ys.length ≤ 100000) : EvN b (tOp rCat ta tb) σ G e (xs ++ ys) :=
  en_op ha hb fun x y G1 H1 a r p q Q k => by
    obtain ⟨ad, vs, rfl, h1, h2, h3⟩ := p
    obtain ⟨ad2, ws, rfl, k1, k2, k3⟩ := q
    have hl : vs.length + ws.length ≤ sizeLine := by rw [h3.len, k3.len]; exact Nat.le_trans hz (by decide)
    exact ⟨ad, ad2, vs, ws, rfl, rfl, r.at h1 rfl, r.at k1 rfl, hl, fun p' hp => k p' (vs ++ ws) G1 _ (Go.own r hp) hp (r.free hp) upd_same (by rw [List.length_append]; exact hl) (h3.app k3)⟩
theorem Al.nil_iff {xs : List α} {vs : List V} (h : Al e xs vs G) : vs = [] ↔ xs = [] := by
  cases h with
  | nil => simp
  | cons _ _ => simp
theorem ev_catT {xs ys : List α} (ha : Ev b ta σ G (Tpl K e xs)) (hb : Ev b tb σ G (Tpl K e ys)) (hz : xs.length + ys.length ≤ 100000) : Ev b (tOp (rCatA K) ta tb) σ G (Tpl K e (xs ++ ys)) :=
  ev_op ha hb fun x y G1 H1 a r p q Q k => by
    obtain ⟨ad, vs, rfl, h1, h2, h3⟩ := p
    obtain ⟨ad2, ws, rfl, k1, k2, k3⟩ := q
    have hl : vs.length + ws.length ≤ sizeLine := by rw [h3.len, k3.len]; exact Nat.le_trans hz (by decide)
    refine ⟨ad, ad2, vs, ws, rfl, rfl, r.seqT h1, r.seqT k1, hl, fun z => ?_, fun _ z => ?_, fun _ _ p' hp => ?_⟩
    · refine k _ G1 H1 (Go.refl _ _) ?_
      rw [h3.nil_iff.mp z]
      exact ⟨ad2, ws, rfl, k1, k2, k3⟩
    · refine k _ G1 H1 (Go.refl _ _) ?_
      rw [k3.nil_iff.mp z, List.append_nil]
      exact ⟨ad, vs, rfl, h1, h2, h3⟩
    · exact k _ _ _ (Go.new r hp) ⟨p', vs ++ ws, rfl, SqT.of upd_same, by rw [List.length_append]; exact hl, (h3.app k3).st (Same.new (r.free hp))⟩
/-- (x,) * k, k 0 or 1 -/
theorem ev_rep1 {x : α} {k : Int} (ha : Ev b ta σ G (Tpl K e [x])) (hb : Ev b tb σ G (I k)) (hk : k = 0 ∨ k = 1) : Ev b (tOp (rRep1 K) ta tb) σ G (Tpl K e (if k = 0 then [] else [x])) :=
  ev_op ha hb fun u v G1 H1 a r p q Q kk => by
    obtain ⟨ad, vs, rfl, h1, h2, h3⟩ := p
    obtain rfl : v = _ := q
    refine ⟨ad, k, vs, rfl, rfl, r.seqT h1, fun z => (by have := h3.nil_iff.mp z; cases this), ?_⟩
    rcases hk with rfl | rfl
    · exact .inr ⟨rfl, fun p' hp => kk _ _ _ (Go.new r hp) ⟨p', [], rfl, SqT.of upd_same, Nat.zero_le _, .nil⟩⟩
    · exact .inl ⟨rfl, kk _ G1 H1 (Go.refl _ _) ⟨ad, vs, rfl, h1, h2, h3⟩⟩
/-- (*t, x) -/
theorem ev_starT {xs : List α} {x : α} (ha : Ev b ta σ G (Sq K e xs)) (hb : Ev b tb σ G (e x)) (hz : xs.length < 100000) : Ev b (tTup (StX.tStar K ta (tCons tb tNil))) σ G (Tpl K e (xs ++ [x])) := fun G1 H1 a r Q k =>
  ha G1 H1 a r _ fun u G2 H2 g p => by
    obtain ⟨ad, vs, rfl, h1, h2, h3⟩ := Sq.seq (g.r _ r) p
    refine ⟨ad, vs, rfl, h1.symm, hb G2 H2 (a.trans g.g) (g.r _ r) _ fun y G3 H3 g' q => ⟨?_, fun p' hp => ?_⟩⟩
    · rw [List.length_append, List.length_singleton, h3.len]
      exact Nat.le_trans (show xs.length + 1 ≤ 100000 by omega) (by decide)
    · have r3 := (g'.r _ (g.r _ r))
      have hl : (vs ++ [y]).length ≤ sizeLine := by
        rw [List.length_append, List.length_singleton, h3.len]
        exact Nat.le_trans (show xs.length + 1 ≤ 100000 by omega) (by decide)
      exact k _ _ _ ((g.trans g').trans (Go.new r3 hp)) ⟨p', vs ++ [y], rfl, SqT.of upd_same, hl, ((h3.st g'.g).snoc q).st (Same.new (r3.free hp))⟩
/-! ### slices -/
theorem eo_none : EvO b tNoPart σ G none := fun G1 H1 _ _ _ k => k G1 H1 (Go.refl _ _)
theorem eo_some {i : Int} (h : Ev b te σ G (I i)) : EvO b (tPart te) σ G (some i) := fun G1 H1 a r Q k => h G1 H1 a r _ fun u G2 H2 g p => ⟨i, p, k G2 H2 g⟩
theorem cut_to {α : Type} (xs : List α) (vs : List V) (n : Nat) : cutV vs none (some (n : Int)) = vs.take n := by
  unfold cutV
  rw [HT.sIx_none, HT.sIx_nat, List.drop_zero, Nat.sub_zero]
  by_cases h : n ≤ vs.length
  · rw [Nat.min_eq_left h]
  · rw [Nat.min_eq_right (by omega), List.take_of_length_le (Nat.le_refl _), List.take_of_length_le (by omega)]
/-- xs[:n], a list -/
theorem en_takeL {th : TO} {xs : List α} {n : Nat} (ha : Ev b te σ G (Lst e xs)) (hh : EvO b th σ G (some (n : Int))) : EvN b (tSl (rSlL K) te tNoPart th) σ G e (xs.take n) := fun G1 H1 a r Q k =>
  ha G1 H1 a r _ fun u G2 H2 g p => hh G2 H2 (a.trans g.g) (g.r _ r) _ fun G3 H3 g' => by
    obtain ⟨ad, vs, rfl, h1, h2, h3⟩ := p
    have r3 := (g'.r _ (g.r _ r))
    refine ⟨ad, vs, rfl, r3.seqL (SqL.of (g'.g _ _ h1)), fun p' hp => ?_⟩
    rw [cut_to xs]
    exact k p' (vs.take n) G3 _ ((g.trans g').trans (Go.own r3 hp)) (g.free (g'.free hp)) (r3.free hp) upd_same (by rw [List.length_take]; omega) ((h3.st g'.g).take n)
def rSlA2 (K : PySem.W.Frag) : V → Option Int → Option Int → Hp → VK → Prop := fun x lo hi H Q => rSlL K x lo hi H Q ∨ rSlA K x lo hi H Q
/-- xs[:n], a list or a tuple, by what stands in it -/
theorem ev_takeQ {th : TO} {xs : List α} {n : Nat} (ha : Ev b te σ G (Sq K e xs)) (hh : EvO b th σ G (some (n : Int))) : Ev b (tSl (rSlA2 K) te tNoPart th) σ G (Sq K e (xs.take n)) := fun G1 H1 a r Q k =>
  ha G1 H1 a r _ fun u G2 H2 g p => hh G2 H2 (a.trans g.g) (g.r _ r) _ fun G3 H3 g' => by
    have r3 := (g'.r _ (g.r _ r))
    rcases p with ⟨ad, vs, rfl, h1, h2, h3⟩ | ⟨ad, vs, rfl, h1, h2, h3⟩
    · refine .inl ⟨ad, vs, rfl, r3.seqL (SqL.of (g'.g _ _ h1)), fun p' hp => ?_⟩
      rw [cut_to xs]
      have g3 := (g.trans g').trans (Go.own r3 hp (o := .lst (vs.take n)))
      exact k _ _ _ (g3.give (g.free (g'.free hp)) (r3.free hp) upd_same) (.inl ⟨p', vs.take n, rfl, upd_same, by rw [List.length_take]; omega, ((h3.st g'.g).take n).st (Same.new (r3.free hp))⟩)
    · refine .inr ⟨ad, vs, rfl, r3.seqT ((Rel.sq g'.g).seqT h1), fun z => ?_, fun z p' hp => ?_⟩
      · have e2 : vs.length ≤ n := by
          have := z.2
          rw [HT.sIx_nat] at this
          omega
        refine k _ G3 H3 (g.trans g') ?_
        rw [List.take_of_length_le (by rw [← h3.len]; exact e2)]
        exact .inr ⟨ad, vs, rfl, (Rel.sq g'.g).seqT h1, h2, h3.st g'.g⟩
      · rw [cut_to xs]
        exact k _ _ _ ((g.trans g').trans (Go.new r3 hp)) (.inr ⟨p', vs.take n, rfl, SqT.of upd_same, by rw [List.length_take]; omega, ((h3.st g'.g).take n).st (Same.new (r3.free hp))⟩)
end
end Gd

-- part Gd9
set_option Elab.async false
set_option linter.all false
set_option maxRecDepth 100000
set_option maxHeartbeats 2000000
/-! ### data as a whole: ==, sorted; contracts; fields -/
namespace Gd
open PySem PySem.Spec PyProof.Rows L2
open PySem.W (EachIs AllAlike dataLe alike alikeAll)
section
variable {K : PySem.W.Frag} {b : Bool} {σ : L2.St} {G G' H : Hp} {t ta tb te tc : TE} {R R' : SR} {α β γ : Type} {e : α → SR} {f : β → SR} {g : γ → SR} {c : α → PyData} {c' : β → PyData} {c'' : γ → PyData} {n m k : Nat}
/-- what e says of a value as data c, of depth n at most -/
structure Enc (K : PySem.W.Frag) (e : α → SR) (c : α → PyData) (n : Nat) : Prop where
  h : ∀ {x : α} {v : V} {G : Hp}, (e x).p v G → Dp K G v (c x)
  lay : ∀ {x : α} {v : V} {G : Hp}, (e x).p v G → (c x).canLay0 = true
  dep : ∀ x : α, (c x).depth ≤ n
theorem enc_S : Enc K S PyData.str 0 := ⟨fun h => by obtain ⟨rfl, _⟩ := h; exact .str _, fun h => by obtain ⟨_, h⟩ := h; exact okS_lay h, fun _ => Nat.le_refl _⟩
theorem enc_I : Enc K I PyData.int 0 := ⟨fun h => by obtain rfl : _ = _ := h; exact .int _, fun _ => rfl, fun _ => Nat.le_refl _⟩
theorem enc_B : Enc K B PyData.bool 0 := ⟨fun h => by obtain rfl : _ = _ := h; exact .bl _, fun _ => rfl, fun _ => Nat.le_refl _⟩
theorem Al.dp (E : Enc K e c n) : ∀ {xs : List α} {vs : List V}, Al e xs vs G → DpAll K G vs (xs.map c)
  | _, _, .nil => .nil
  | _, _, .cons h t => .cons (E.h h) (Al.dp E t)
theorem Al.lay (E : Enc K e c n) : ∀ {xs : List α} {vs : List V}, Al e xs vs G → PyData.canLayAll0 (xs.map c) = true
  | _, _, .nil => by simp [PyData.canLayAll0]
  | _, _, .cons h t => by simp [PyData.canLayAll0, E.lay h, Al.lay E t]
theorem depthAll_map (E : ∀ x : α, (c x).depth ≤ n) : ∀ xs : List α, PyData.depthAll (xs.map c) ≤ n
  | [] => by simp [PyData.depthAll]
  | x :: xs => by
    simp only [List.map_cons, PyData.depthAll]
    exact Nat.max_le.mpr ⟨E x, depthAll_map E xs⟩
theorem enc_lst (E : Enc K e c n) : Enc K (Lst e) (fun xs => .list (xs.map c)) (n + 1) :=
  ⟨fun ⟨a, vs, h1, h2, h3, h4⟩ => by subst h1; exact .lst (SqL.of h2) (h4.dp E), fun ⟨a, vs, h1, h2, h3, h4⟩ => by simpa [PyData.canLay0] using h4.lay E, fun xs => by
    simp only [PyData.depth]; exact Nat.succ_le_succ (depthAll_map E.dep xs)⟩
theorem enc_tpl (E : Enc K e c n) : Enc K (Tpl K e) (fun xs => .tuple (xs.map c)) (n + 1) :=
  ⟨fun ⟨a, vs, h1, h2, h3, h4⟩ => by subst h1; exact .tup h2 (h4.dp E), fun ⟨a, vs, h1, h2, h3, h4⟩ => by simpa [PyData.canLay0] using h4.lay E, fun xs => by
    simp only [PyData.depth]; exact Nat.succ_le_succ (depthAll_map E.dep xs)⟩
theorem enc_pr (E : Enc K e c n) (E' : Enc K f c' m) : Enc K (Pr K e f) (fun p => .tuple [c p.1, c' p.2]) (max n m + 1) :=
  ⟨fun ⟨a, v, w, h1, h2, h3, h4⟩ => by subst h1; exact .tup h2 (.cons (E.h h3) (.cons (E'.h h4) .nil)), fun ⟨a, v, w, h1, h2, h3, h4⟩ => by simp [PyData.canLay0, PyData.canLayAll0, E.lay h3, E'.lay h4], fun p => by
    have a1 := E.dep p.1
    have a2 := E'.dep p.2
    simp only [PyData.depth, PyData.depthAll]
    omega⟩
theorem enc_tr (E : Enc K e c n) (E' : Enc K f c' m) (E'' : Enc K g c'' k) : Enc K (Tr K e f g) (fun p => .tuple [c p.1, c' p.2.1, c'' p.2.2]) (max n (max m k) + 1) :=
  ⟨fun ⟨a, v, w, z, h1, h2, h3, h4, h5⟩ => by subst h1; exact .tup h2 (.cons (E.h h3) (.cons (E'.h h4) (.cons (E''.h h5) .nil))), fun ⟨a, v, w, z, h1, h2, h3, h4, h5⟩ => by simp [PyData.canLay0, PyData.canLayAll0, E.lay h3, E'.lay h4, E''.lay h5], fun p => by
    have a1 := E.dep p.1
    have a2 := E'.dep p.2.1
    have a3 := E''.dep p.2.2
    simp only [PyData.depth, PyData.depthAll]
    omega⟩
/-- == of such data -/
structure EqE [DecidableEq α] (c : α → PyData) : Prop where
  eq : ∀ x y : α, PyData.eqv (c x) (c y) = decide (x = y)
theorem eqE_S : EqE PyData.str := ⟨fun x y => by simp only [PyData.eqv]; exact Bool.beq_eq_decide_eq x y⟩
theorem eqE_I : EqE PyData.int := ⟨fun x y => by simp only [PyData.eqv]; exact Bool.beq_eq_decide_eq x y⟩
theorem eqE_B : EqE PyData.bool := ⟨fun x y => by simp only [PyData.eqv]; exact Bool.beq_eq_decide_eq x y⟩
theorem eqvAll_map [DecidableEq α] (E : EqE c) : ∀ xs ys : List α, PyData.eqvAll (xs.map c) (ys.map c) = decide (xs = ys)
  | [], [] => by simp [PyData.eqvAll]
  | [], y :: ys => by simp [PyData.eqvAll]
  | x :: xs, [] => by simp [PyData.eqvAll]
  | x :: xs, y :: ys => by
    simp only [List.map_cons, PyData.eqvAll, E.eq, eqvAll_map E xs ys]
    by_cases q : x = y <;> by_cases z : xs = ys <;> simp [q, z]
theorem eqE_lst [DecidableEq α] (E : EqE c) : EqE (fun xs : List α => .list (xs.map c)) := ⟨fun xs ys => by simp only [PyData.eqv]; exact eqvAll_map E xs ys⟩
theorem eqE_tpl [DecidableEq α] (E : EqE c) : EqE (fun xs : List α => .tuple (xs.map c)) := ⟨fun xs ys => by simp only [PyData.eqv]; exact eqvAll_map E xs ys⟩
theorem eqE_pr [DecidableEq α] [DecidableEq β] (E : EqE c) (E' : EqE c') : EqE (fun p : α × β => .tuple [c p.1, c' p.2]) := ⟨fun x y => by
  obtain ⟨x1, x2⟩ := x
  obtain ⟨y1, y2⟩ := y
  simp only [PyData.eqv, PyData.eqvAll, E.eq, E'.eq]
  by_cases q : x1 = y1 <;> by_cases z : x2 = y2 <;> simp [q, z]⟩
theorem eqE_tr [DecidableEq α] [DecidableEq β] [DecidableEq γ] (E : EqE c) (E' : EqE c') (E'' : EqE c'') : EqE (fun p : α × β × γ => .tuple [c p.1, c' p.2.1, c'' p.2.2]) := ⟨fun x y => by
  obtain ⟨x1, x2, x3⟩ := x
  obtain ⟨y1, y2, y3⟩ := y
  simp only [PyData.eqv, PyData.eqvAll, E.eq, E'.eq, E''.eq]
  by_cases q : x1 = y1 <;> by_cases z : x2 = y2 <;> by_cases u : x3 = y3 <;> simp [q, z, u]⟩
mutual
theorem Rel.dp (r : Rel b G H) : ∀ (d : PyData) (v : V), Dp K G v d → Dp K H v d
  | .none, _, .non => .non
  | .bool _, _, .bl _ => .bl _
  | .int _, _, .int _ => .int _
  | .str _, _, .str _ => .str _
  | .list ds, _, .lst h al => .lst (r.seqL h) (Rel.dps r ds _ al)
  | .tuple ds, _, .tup h al => .tup (r.seqT h) (Rel.dps r ds _ al)
theorem Rel.dps (r : Rel b G H) : ∀ (ds : List PyData) (vs : List V), DpAll K G vs ds → DpAll K H vs ds
  | [], _, .nil => .nil
  | d :: ds, _, .cons h t => .cons (Rel.dp r d _ h) (Rel.dps r ds _ t)
end
theorem shaped_of {d : PyData} (h : d.canLay0 = true) (hd : d.depth ≤ 64) : SeqAt.shaped d = true := by
  unfold SeqAt.shaped
  rw [h, decide_eq_true hd]
  rfl
theorem ev_eqD [DecidableEq α] {x y : α} (ha : Ev b ta σ G (e x)) (hb : Ev b tb σ G (e y)) (E : Enc K e c n) (Q : EqE c) (hn : n ≤ 64 := by decide) : Ev b (tOp (rEqD K) ta tb) σ G (B (decide (x = y))) :=
  ev_opP ha hb fun u v G1 H1 a r p q => ⟨_, rfl, fun Q' hQ => ⟨c x, c y, r.dp _ _ (E.h p), r.dp _ _ (E.h q), shaped_of (E.lay p) (Nat.le_trans (E.dep x) hn), shaped_of (E.lay q) (Nat.le_trans (E.dep y) hn), by rw [Q.eq]; exact hQ⟩⟩
theorem ev_neD [DecidableEq α] {x y : α} (ha : Ev b ta σ G (e x)) (hb : Ev b tb σ G (e y)) (E : Enc K e c n) (Q : EqE c) (hn : n ≤ 64 := by decide) : Ev b (tOp (rNeD K) ta tb) σ G (B (!decide (x = y))) :=
  ev_opP ha hb fun u v G1 H1 a r p q => ⟨_, rfl, fun Q' hQ => ⟨c x, c y, r.dp _ _ (E.h p), r.dp _ _ (E.h q), shaped_of (E.lay p) (Nat.le_trans (E.dep x) hn), shaped_of (E.lay q) (Nat.le_trans (E.dep y) hn), by rw [Q.eq]; exact hQ⟩⟩
theorem anyEq [DecidableEq α] (Q : EqE c) (x : α) : ∀ xs : List α, ((xs.map c).any fun z => PyData.eqv z (c x)) = decide (x ∈ xs)
  | [] => by simp
  | y :: ys => by
    simp only [List.map_cons, List.any_cons, Q.eq, anyEq Q x ys]
    by_cases q : y = x
    · subst q; simp
    · have : ¬ x = y := fun z => q z.symm
      simp [q, this]
/-- x in a list of data -/
theorem ev_inD [DecidableEq α] {x : α} {xs : List α} (ha : Ev b ta σ G (e x)) (hb : Ev b tb σ G (Lst e xs)) (E : Enc K e c n) (Q : EqE c) (hn : n ≤ 63 := by decide) : Ev b (tOp (rInD K) ta tb) σ G (B (decide (x ∈ xs))) :=
  ev_opP ha hb fun u v G1 H1 a r p q => ⟨_, rfl, fun Q' hQ => ⟨c x, xs.map c, r.dp _ _ (E.h p), r.dp _ _ ((enc_lst E).h q), shaped_of (E.lay p) (Nat.le_trans (E.dep x) (by omega)), shaped_of ((enc_lst E).lay q) (Nat.le_trans ((enc_lst E).dep xs) (by omega)), by rw [anyEq Q]; exact hQ⟩⟩
/-! ### sorted -/
structure Alk (c : α → PyData) : Prop where
  ak : ∀ x y : α, alike (c x) (c y) = true
theorem alk_S : Alk PyData.str := ⟨fun _ _ => by simp [alike]⟩
theorem alk_I : Alk PyData.int := ⟨fun _ _ => by simp [alike]⟩
theorem alkAll (A : Alk c) : ∀ xs ys : List α, alikeAll (xs.map c) (ys.map c) = true
  | [], _ => by simp [alikeAll]
  | x :: xs, [] => by simp [alikeAll]
  | x :: xs, y :: ys => by simp [alikeAll, A.ak x y, alkAll A xs ys]
theorem alk_lst (A : Alk c) : Alk (fun xs : List α => .list (xs.map c)) := ⟨fun x y => by simp only [alike]; exact alkAll A x y⟩
theorem alk_tpl (A : Alk c) : Alk (fun xs : List α => .tuple (xs.map c)) := ⟨fun x y => by simp only [alike]; exact alkAll A x y⟩
theorem alk_pr (A : Alk c) (A' : Alk c') : Alk (fun p : α × β => .tuple [c p.1, c' p.2]) := ⟨fun x y => by simp only [alike, alikeAll, A.ak, A'.ak]; rfl⟩
theorem al_each {P : V → α → Prop} (hp : ∀ v x, (e x).p v G → P v x) : ∀ {xs : List α} {vs : List V}, Al e xs vs G → EachIs P vs xs
  | _, _, .nil => .nil
  | _, _, .cons h t => .cons (hp _ _ h) (al_each hp t)
theorem each_al : ∀ {xs : List α} {vs : List V}, EachIs (fun v x => (e x).p v G) vs xs → Al e xs vs G
  | _, _, .nil => .nil
  | _, _, .cons h t => .cons h (each_al t)
theorem en_sorted {xs : List α} (ha : Ev b te σ G (Sq K e xs)) (E : Enc K e c n) (A : Alk c) (hk : Sortable2 (xs.map c)) (hn : n ≤ 60 := by decide) : EvN b (tCB (rSrt K) (tCons te tNil)) σ G e (xs.mergeSort (dataLe false c)) :=
  en_cb (ea_cons ha ea_nil) fun vs G1 H1 a r al Q k => by
    obtain ⟨v, rfl, p⟩ := alr1 al
    obtain ⟨ad, ws, rfl, h1, h2, h3⟩ := Sq.seq r p
    refine ⟨ad, ws, α, xs, c, fun v x => (e x).p v G1, rfl, h1, al_each (e := e) (fun _ _ h => h) h3, al_each (e := e) (fun v x h => r.dp (c x) v (E.h h)) h3, ?_, hk, fun x _ => Nat.le_trans (E.dep x) hn, fun zs p hp hz => ?_⟩
    · intro d hd d' hd'
      obtain ⟨x, _, rfl⟩ := List.mem_map.mp hd
      obtain ⟨y, _, rfl⟩ := List.mem_map.mp hd'
      exact A.ak x y
    · have al2 := each_al hz
      refine k p zs G1 _ (Go.own r hp) hp (r.free hp) upd_same ?_ al2
      rw [al2.len, List.length_mergeSort, ← h3.len]
      exact h2
/-! ### contracts -/
theorem alr_len {G : Hp} {rs : List SR} {vs : List V} (al : AlR rs vs G) : vs.length = rs.length := by
  induction al with
  | nil => rfl
  | cons _ _ ih => simp [ih]
/-- a def that hands back something frozen: i its arguments as data -/
def spF {ι : Type} (b : Bool) (pre : ι → List SR) (ok : ι → Prop) (post : ι → SR) : Sp := fun vs H Q _ => ∃ i G, Rel b G H ∧ ok i ∧ AlR (pre i) vs G ∧ ∀ u G2 H2, Go G H G2 H2 → (post i).p u G2 → Q u H2
/-- .. a new list -/
def spN {ι : Type} (b : Bool) (pre : ι → List SR) (ok : ι → Prop) (e : α → SR) (post : ι → List α) : Sp := fun vs H Q _ => ∃ i G, Rel b G H ∧ ok i ∧ AlR (pre i) vs G ∧
  ∀ p vs G2 H2, Go G H G2 H2 → H p = none → G2 p = none → H2 p = some (.lst vs) → vs.length ≤ sizeLine → Al e (post i) vs G2 → Q (.ref p) H2
theorem Rel.le {b b' : Bool} (r : Rel b G H) (h : b' = b ∨ b' = false) : Rel b' G H := by
  rcases h with rfl | rfl
  · exact r
  · exact r.low
theorem ev_call {ι : Type} {b' : Bool} {pre : ι → List SR} {ok : ι → Prop} {post : ι → SR} {E : XK} {ta : TA} (i : ι) (ha : EvA b ta σ G (pre i)) (hok : ok i) (hb : b' = b ∨ b' = false := by first | exact .inl rfl | exact .inr rfl) : Ev b (tCall (spF b' pre ok post) [] E ta) σ G (post i) := fun G1 H1 a r Q k =>
  ha G1 H1 a r _ fun vs G2 H2 g al => ⟨i, G2, (g.r _ r).le hb, hok, by rw [List.append_nil]; exact al, fun u G3 H3 g' p => k u G3 H3 (g.trans g') p⟩
theorem en_call {ι : Type} {b' : Bool} {pre : ι → List SR} {ok : ι → Prop} {post : ι → List α} {E : XK} {ta : TA} (i : ι) (ha : EvA b ta σ G (pre i)) (hok : ok i) (hb : b' = b ∨ b' = false := by first | exact .inl rfl | exact .inr rfl) : EvN b (tCall (spN b' pre ok e post) [] E ta) σ G e (post i) := fun G1 H1 a r Q k =>
  ha G1 H1 a r _ fun vs G2 H2 g al => ⟨i, G2, (g.r _ r).le hb, hok, by rw [List.append_nil]; exact al, fun p vs G3 H3 g' n1 n2 h3 l3 al3 => k p vs G3 H3 (g.trans g') (g.free n1) n2 h3 l3 al3⟩
theorem ev_callK {ι : Type} {b' : Bool} {pre : ι → List SR} {ok : ι → Prop} {post : ι → SR} {E : XK} {ta tk : TA} {gV : List V → List V → List V} {Rs Ks' : List SR} (i : ι) (ha : EvA b ta σ G Rs) (hk : EvA b tk σ G Ks') (hp : ∀ vs zs G', AlR Rs vs G' → AlR Ks' zs G' → AlR (pre i) (gV vs zs) G') (hok : ok i) (hb : b' = b ∨ b' = false := by first | exact .inl rfl | exact .inr rfl) : Ev b (tCallK (spF b' pre ok post) gV E ta tk) σ G (post i) := fun G1 H1 a r Q k =>
  ha G1 H1 a r _ fun vs G2 H2 g al => hk G2 H2 (a.trans g.g) (g.r _ r) _ fun zs G3 H3 g' al' => ⟨i, G3, ((g.trans g').r _ r).le hb, hok, hp vs zs G3 (al.st g'.g) al', fun u G4 H4 g'' p => k u G4 H4 ((g.trans g').trans g'') p⟩
theorem en_callK {ι : Type} {b' : Bool} {pre : ι → List SR} {ok : ι → Prop} {post : ι → List α} {E : XK} {ta tk : TA} {gV : List V → List V → List V} {Rs Ks' : List SR} (i : ι) (ha : EvA b ta σ G Rs) (hk : EvA b tk σ G Ks') (hp : ∀ vs zs G', AlR Rs vs G' → AlR Ks' zs G' → AlR (pre i) (gV vs zs) G') (hok : ok i) (hb : b' = b ∨ b' = false := by first | exact .inl rfl | exact .inr rfl) : EvN b (tCallK (spN b' pre ok e post) gV E ta tk) σ G e (post i) := fun G1 H1 a r Q k =>
  ha G1 H1 a r _ fun vs G2 H2 g al => hk G2 H2 (a.trans g.g) (g.r _ r) _ fun zs G3 H3 g' al' => ⟨i, G3, ((g.trans g').r _ r).le hb, hok, hp vs zs G3 (al.st g'.g) al', fun p vs G4 H4 g'' n1 n2 h3 l3 al3 => k p vs G4 H4 ((g.trans g').trans g'') (g.free (g'.free n1)) n2 h3 l3 al3⟩
theorem spF_len {ι : Type} {b : Bool} {pre : ι → List SR} {ok : ι → Prop} {post : ι → SR} {vs : List V} {H : Hp} {Q : VK} {E : XK} {n : Nat} (h : spF b pre ok post vs H Q E) (hn : ∀ i, (pre i).length = n) : vs.length = n := by
  obtain ⟨i, G, _, _, al, _⟩ := h
  rw [alr_len al, hn]
theorem spN_len {ι : Type} {b : Bool} {pre : ι → List SR} {ok : ι → Prop} {post : ι → List α} {vs : List V} {H : Hp} {Q : VK} {E : XK} {n : Nat} (h : spN b pre ok e post vs H Q E) (hn : ∀ i, (pre i).length = n) : vs.length = n := by
  obtain ⟨i, G, _, _, al, _⟩ := h
  rw [alr_len al, hn]
/-! ### fields of an instance -/
theorem ev_fld {C : Addr} {fl : Str} (ha : Ev b ta σ G R) (cl : Cls K C) (na : NoAttr K C fl) (h : ∀ u G', R.p u G' → ∃ a dx fs v, u = .ref a ∧ G' a = some (.ins C dx fs) ∧ fs.lookup fl = some v ∧ R'.p v G') : Ev b (tFld K ta fl) σ G R' := fun G1 H1 a r Q k =>
  ha G1 H1 a r _ fun u G2 H2 g p => by
    obtain ⟨ad, dx, fs, v, rfl, h1, h2, h3⟩ := h u G2 p
    exact ⟨ad, C, dx, fs, v, rfl, (g.r _ r).at h1 rfl, cl, na, h2, k v G2 H2 g h3⟩
/-! ### dict(zip(..)), list(d.values()) -/
theorem strs_of {xs : List Str} : ∀ {vs : List V}, Al S xs vs G → vs = xs.map V.str := by
  intro vs h
  induction h with
  | nil => rfl
  | cons h _ ih =>
    obtain ⟨rfl, _⟩ := h
    rw [ih]; rfl
theorem ald_zip : ∀ {ks : List Str} {ys : List α} {vs : List V}, Al e ys vs G → AlD e (ks.zip ys) ((ks.map (Sum.inr : Str → Key)).zip vs) G
  | [], _, _, _ => by simp; exact .nil
  | _ :: _, _, _, .nil => by simp; exact .nil
  | k :: ks, _, _, .cons h t => by
    simp only [List.map_cons, List.zip_cons_cons]
    exact .cons h (ald_zip t)
theorem valV_none {kvs : List (Key × V)} {k : Key} (h : k ∉ kvs.map (·.1)) : valV kvs k = none := by
  have := valV_any k kvs
  cases q : valV kvs k with
  | none => rfl
  | some v =>
    rw [q] at this
    simp only [Option.isSome_some, List.any_eq_true, decide_eq_true_eq] at this
    obtain ⟨x, hx, he⟩ := this
    exact absurd (List.mem_map.mpr ⟨x, hx, he⟩) h
theorem merge_nodup : ∀ (more kvs : List (Key × V)), ((kvs ++ more).map (·.1)).Nodup → mergeK kvs more = kvs ++ more
  | [], kvs, _ => by simp [mergeK]
  | p :: more, kvs, h => by
    have hp : p.1 ∉ kvs.map (·.1) := by
      rw [List.map_append, List.map_cons] at h
      have := (List.nodup_append.mp h).2.2
      intro q
      exact this _ q _ (List.mem_cons_self ..) rfl
    have e1 : mergeK kvs (p :: more) = mergeK (putK kvs p.1 p.2) more := rfl
    rw [e1, putK_new _ (valV_none hp)]
    have := merge_nodup more (kvs ++ [(p.1, p.2)]) (by rw [List.append_assoc]; exact h)
    rw [this, List.append_assoc]
    rfl
theorem ev_dictZip {ks : List Str} {ys : List α} (ha : Ev b ta σ G (Lst S ks)) (hb : Ev b tb σ G (Tpl K e ys)) (hl : ks.length = ys.length) (hd : ks.Nodup) : Ev b (tDictZip K (tCons ta (tCons tb tNil))) σ G (Dct e (ks.zip ys)) := fun G1 H1 a r Q k =>
  (ea_cons ha (ea_cons hb ea_nil)) G1 H1 a r _ fun vs G2 H2 g al => by
    obtain ⟨v, w, rfl, ⟨ad, us, rfl, h1, h2, h3⟩, ⟨ad2, ws, rfl, k1, k2, k3⟩⟩ := alr2 al
    have e1 := strs_of h3
    subst e1
    have r2 := g.r _ r
    refine ⟨ad, ad2, ks, ws, rfl, r2.seqL (SqL.of h1), r2.seqT k1, by rw [hl, k3.len], fun p hp => ?_⟩
    have nd : (([] ++ (ks.map (Sum.inr : Str → Key)).zip ws : List (Key × V)).map (·.1)).Nodup := by
      rw [List.nil_append]
      have : ((ks.map (Sum.inr : Str → Key)).zip ws).map Prod.fst = ks.map (Sum.inr : Str → Key) := by
        rw [List.map_fst_zip]
        rw [List.length_map, hl, k3.len]
        exact Nat.le_refl _
      have e2 : (((ks.map (Sum.inr : Str → Key)).zip ws).map fun p => p.1) = ks.map (Sum.inr : Str → Key) := this
      rw [e2]
      exact List.Pairwise.map (R := fun a b : Str => a ≠ b) _ (fun x y h z => h (Sum.inr.inj z)) hd
    rw [merge_nodup _ _ nd, List.nil_append]
    refine k _ _ _ (g.trans (Go.new r2 hp)) ⟨p, _, rfl, upd_same, ?_, (ald_zip k3).st (Same.new (r2.free hp))⟩
    rw [List.length_zip, List.length_map]
    rw [List.length_map] at h2
    omega
theorem AlD.vals : ∀ {kvs : List (Str × α)} {vs : List (Key × V)}, AlD e kvs vs G → Al e (kvs.map (·.2)) (vs.map (·.2)) G
  | _, _, .nil => .nil
  | _, _, .cons h t => .cons h t.vals
theorem en_listVals {kvs : List (Str × α)} (ha : Ev b ta σ G (Dct e kvs)) : EvN b (tListVals ta) σ G e (kvs.map (·.2)) := fun G1 H1 a r Q k =>
  ha G1 H1 a r _ fun u G2 H2 g p => by
    obtain ⟨ad, vs, rfl, h1, h2, h3⟩ := p
    have r2 := g.r _ r
    exact ⟨ad, vs, rfl, r2.rd h1, fun p hp => k p _ G2 _ (g.trans (Go.own r2 hp)) (g.free hp) (r2.free hp) upd_same (by rw [List.length_map]; exact h2) h3.vals⟩
end
end Gd

-- part Gd10
set_option Elab.async false
set_option linter.all false
set_option maxRecDepth 100000
set_option maxHeartbeats 2000000
/-! ### further walks, comprehensions, isinstance, loops -/
namespace Gd
open PySem PySem.Spec PyProof.Rows L2
section
variable {K : PySem.W.Frag} {b : Bool} {σ : L2.St} {G G' H : Hp} {t ta tb te tc : TE} {R R' : SR} {α β γ : Type} {e : α → SR} {f : β → SR}
theorem EvI.run {wi : TI} {xs : List α} (h : EvI b wi σ G e xs) (r : Rel b G H) {Rr : It → Hp → Prop} (k : ∀ J G2 H2, Go G H G2 H2 → WalkR b J e xs G2 (fun _ => True) → Rr J H2) : wi σ H Rr := h G H (Same.refl G) r Rr k
/-! zip -/
theorem walkR_zip {a a2 : Addr} {xs : List α} {ys : List β} {vs ws : List V} (h : G a = some (.lst vs)) (hl : vs.length ≤ sizeLine) (al : Al e xs vs G) (h2 : G a2 = some (.lst ws)) (hl2 : ws.length ≤ sizeLine) (al2 : Al f ys ws G) : WalkR b (Itz K a a2) (Pr K e f) (xs.zip ys) G (fun _ => True) where
  len := by rw [List.length_zip, ← al.len]; omega
  goes := fun i G3 H3 hi s r _ => by
    rw [List.length_zip, ← al.len, ← al2.len] at hi
    have hi1 : i < vs.length := by omega
    have hi2 : i < ws.length := by omega
    exact ⟨vs, ws, vs[i], ws[i], r.seqL (SqL.of (s _ _ h)), r.seqL (SqL.of (s _ _ h2)), by simp [hi1], by simp [hi2]⟩
  stops := fun G3 H3 s r _ => ⟨vs, ws, r.seqL (SqL.of (s _ _ h)), r.seqL (SqL.of (s _ _ h2)), by rw [List.length_zip, ← al.len, ← al2.len]; omega⟩
  yields := fun i p G3 H3 x H' ha s r _ y => by
    obtain ⟨T, x1, x2, rfl, hT, rfl, q1, q2⟩ := y
    obtain ⟨y1, y2⟩ := p
    have hz := List.getElem?_zip_eq_some.mp ha
    obtain ⟨v, hv, pv⟩ := al.get' hz.1
    obtain ⟨w, hw, pw⟩ := al2.get' hz.2
    have e1 := q1 vs (r.seqL (SqL.of (s _ _ h)))
    have e2 := q2 ws (r.seqL (SqL.of (s _ _ h2)))
    rw [hv] at e1
    rw [hw] at e2
    obtain rfl := Option.some.inj e1
    obtain rfl := Option.some.inj e2
    have sn := Same.new (o := .tup [v, w]) (r.free hT)
    exact ⟨_, Go.new r hT, T, v, w, rfl, SqT.of upd_same, (e y1).st (s.trans sn) pv, (f y2).st (s.trans sn) pw⟩
theorem walkR_zipT {a a2 : Addr} {xs : List α} {ys : List β} {vs ws : List V} (h : SqT K G a vs) (hl : vs.length ≤ sizeLine) (al : Al e xs vs G) (h2 : SqT K G a2 ws) (hl2 : ws.length ≤ sizeLine) (al2 : Al f ys ws G) : WalkR b (RZ.ItzT K a a2) (Pr K e f) (xs.zip ys) G (fun _ => True) where
  len := by rw [List.length_zip, ← al.len]; omega
  goes := fun i G3 H3 hi s r _ => by
    rw [List.length_zip, ← al.len, ← al2.len] at hi
    have hi1 : i < vs.length := by omega
    have hi2 : i < ws.length := by omega
    exact ⟨vs, ws, vs[i], ws[i], r.seqT ((Rel.sq s).seqT h), r.seqT ((Rel.sq s).seqT h2), by simp [hi1], by simp [hi2]⟩
  stops := fun G3 H3 s r _ => ⟨vs, ws, r.seqT ((Rel.sq s).seqT h), r.seqT ((Rel.sq s).seqT h2), by rw [List.length_zip, ← al.len, ← al2.len]; omega⟩
  yields := fun i p G3 H3 x H' ha s r _ y => by
    obtain ⟨T, x1, x2, rfl, hT, rfl, q1, q2⟩ := y
    obtain ⟨y1, y2⟩ := p
    have hz := List.getElem?_zip_eq_some.mp ha
    obtain ⟨v, hv, pv⟩ := al.get' hz.1
    obtain ⟨w, hw, pw⟩ := al2.get' hz.2
    have e1 := q1 vs (r.seqT ((Rel.sq s).seqT h))
    have e2 := q2 ws (r.seqT ((Rel.sq s).seqT h2))
    rw [hv] at e1
    rw [hw] at e2
    obtain rfl := Option.some.inj e1
    obtain rfl := Option.some.inj e2
    have sn := Same.new (o := .tup [v, w]) (r.free hT)
    exact ⟨_, Go.new r hT, T, v, w, rfl, SqT.of upd_same, (e y1).st (s.trans sn) pv, (f y2).st (s.trans sn) pw⟩
theorem ei_zipL {xs : List α} {ys : List β} (ha : Ev b ta σ G (Lst e xs)) (hb : Ev b tb σ G (Lst f ys)) : EvI b (RZ.iZipA K (tCons ta (tCons tb tNil))) σ G (Pr K e f) (xs.zip ys) := fun G1 H1 a r Rr k =>
  (ea_cons ha (ea_cons hb ea_nil)) G1 H1 a r _ fun vs G2 H2 g al => by
    obtain ⟨v, w, rfl, ⟨ad, us, rfl, h1, h2, h3⟩, ⟨ad2, ws, rfl, k1, k2, k3⟩⟩ := alr2 al
    have r2 := g.r _ r
    exact ⟨ad, ad2, us, ws, rfl, .inl ⟨r2.seqL (SqL.of h1), r2.seqL (SqL.of k1), k _ G2 H2 g (walkR_zip h1 h2 h3 k1 k2 k3)⟩⟩
theorem ei_zipT {xs : List α} {ys : List β} (ha : Ev b ta σ G (Tpl K e xs)) (hb : Ev b tb σ G (Tpl K f ys)) : EvI b (RZ.iZipA K (tCons ta (tCons tb tNil))) σ G (Pr K e f) (xs.zip ys) := fun G1 H1 a r Rr k =>
  (ea_cons ha (ea_cons hb ea_nil)) G1 H1 a r _ fun vs G2 H2 g al => by
    obtain ⟨v, w, rfl, ⟨ad, us, rfl, h1, h2, h3⟩, ⟨ad2, ws, rfl, k1, k2, k3⟩⟩ := alr2 al
    have r2 := g.r _ r
    exact ⟨ad, ad2, us, ws, rfl, .inr ⟨r2.seqT h1, r2.seqT k1, k _ G2 H2 g (walkR_zipT h1 h2 h3 k1 k2 k3)⟩⟩
/-! enumerate -/
def enumI (xs : List α) : List (Int × α) := xs.zipIdx.map fun p => ((p.2 : Int), p.1)
theorem enumI_len (xs : List α) : (enumI xs).length = xs.length := by simp [enumI]
theorem enumI_get {xs : List α} {i : Nat} {p : Int × α} (h : (enumI xs)[i]? = some p) : p.1 = (i : Int) ∧ xs[i]? = some p.2 := by
  unfold enumI at h
  rw [List.getElem?_map] at h
  cases q : xs.zipIdx[i]? with
  | none => rw [q] at h; cases h
  | some z =>
    rw [q] at h
    cases h
    rw [List.getElem?_zipIdx] at q
    cases q2 : xs[i]? with
    | none => rw [q2] at q; cases q
    | some y =>
      rw [q2] at q
      cases q
      exact ⟨by simp, rfl⟩
def iEnumA (K : PySem.W.Frag) (ta : TA) : TI := fun σ H R => ta σ H fun vs H1 => ∃ a xs, vs = [.ref a] ∧ ((SqL K H1 a xs ∧ R (Ite K a) H1) ∨ (SqT K H1 a xs ∧ R (IteT K a) H1))
theorem walkR_enum {a : Addr} {xs : List α} {vs : List V} (h : G a = some (.lst vs)) (hl : vs.length ≤ sizeLine) (al : Al e xs vs G) : WalkR b (Ite K a) (Pr K I e) (enumI xs) G (fun _ => True) where
  len := by rw [enumI_len, ← al.len]; exact hl
  goes := fun i G3 H3 hi s r _ => by
    rw [enumI_len, ← al.len] at hi
    exact ⟨vs, vs[i], r.seqL (SqL.of (s _ _ h)), by simp [hi]⟩
  stops := fun G3 H3 s r _ => ⟨vs, r.seqL (SqL.of (s _ _ h)), by rw [enumI_len, ← al.len]; exact Nat.le_refl _⟩
  yields := fun i p G3 H3 x H' ha s r _ y => by
    obtain ⟨T, x1, rfl, hT, rfl, q1⟩ := y
    obtain ⟨z1, z2⟩ := enumI_get ha
    obtain ⟨v, hv, pv⟩ := al.get' z2
    have e1 := q1 vs (r.seqL (SqL.of (s _ _ h)))
    rw [hv] at e1
    obtain rfl := Option.some.inj e1
    have sn := Same.new (o := .tup [.int (i : Nat), v]) (r.free hT)
    refine ⟨_, Go.new r hT, T, .int (i : Nat), v, rfl, SqT.of upd_same, ?_, (e p.2).st (s.trans sn) pv⟩
    show V.int _ = V.int _
    rw [z1]
theorem walkR_enumT {a : Addr} {xs : List α} {vs : List V} (h : SqT K G a vs) (hl : vs.length ≤ sizeLine) (al : Al e xs vs G) : WalkR b (IteT K a) (Pr K I e) (enumI xs) G (fun _ => True) where
  len := by rw [enumI_len, ← al.len]; exact hl
  goes := fun i G3 H3 hi s r _ => by
    rw [enumI_len, ← al.len] at hi
    exact ⟨vs, vs[i], r.seqT ((Rel.sq s).seqT h), by simp [hi]⟩
  stops := fun G3 H3 s r _ => ⟨vs, r.seqT ((Rel.sq s).seqT h), by rw [enumI_len, ← al.len]; exact Nat.le_refl _⟩
  yields := fun i p G3 H3 x H' ha s r _ y => by
    obtain ⟨T, x1, rfl, hT, rfl, q1⟩ := y
    obtain ⟨z1, z2⟩ := enumI_get ha
    obtain ⟨v, hv, pv⟩ := al.get' z2
    have e1 := q1 vs (r.seqT ((Rel.sq s).seqT h))
    rw [hv] at e1
    obtain rfl := Option.some.inj e1
    have sn := Same.new (o := .tup [.int (i : Nat), v]) (r.free hT)
    refine ⟨_, Go.new r hT, T, .int (i : Nat), v, rfl, SqT.of upd_same, ?_, (e p.2).st (s.trans sn) pv⟩
    show V.int _ = V.int _
    rw [z1]
theorem ei_enum {xs : List α} (ha : Ev b ta σ G (Sq K e xs)) : EvI b (iEnumA K (tCons ta tNil)) σ G (Pr K I e) (enumI xs) := fun G1 H1 a r Rr k =>
  (ea_cons ha ea_nil) G1 H1 a r _ fun vs G2 H2 g al => by
    obtain ⟨v, rfl, p⟩ := alr1 al
    have r2 := g.r _ r
    rcases p with ⟨ad, us, rfl, h1, h2, h3⟩ | ⟨ad, us, rfl, h1, h2, h3⟩
    · exact ⟨ad, us, rfl, .inl ⟨r2.seqL (SqL.of h1), k _ G2 H2 g (walkR_enum h1 h2 h3)⟩⟩
    · exact ⟨ad, us, rfl, .inr ⟨r2.seqT h1, k _ G2 H2 g (walkR_enumT h1 h2 h3)⟩⟩
/-! signs of a text -/
def Sg (c : Nat) : SR := cst (.str ⟨#[c]⟩)
theorem ei_str {s : Str} (ha : Ev b te σ G (S s)) : EvI b (iStr te) σ G Sg s.cps.toList := fun G1 H1 a r Rr k => ha G1 H1 a r _ fun u G2 H2 g p => by
  obtain ⟨rfl, ok⟩ := p
  have hl := okS_len ok
  have hl' : s.cps.size ≤ 100000 := hl
  exact ⟨s, rfl, k _ G2 H2 g
    { len := by rw [Array.length_toList]; exact Nat.le_trans hl' (by decide)
      goes := fun i G3 H3 hi _ _ _ => by rw [Array.length_toList] at hi; exact hi
      stops := fun G3 H3 _ _ _ => by rw [Array.length_toList]; exact Nat.le_refl s.cps.size
      yields := fun i c G3 H3 x H' hc _ _ _ y => by
        obtain ⟨rfl, c', h1, rfl⟩ := y
        rw [Array.getElem?_toList] at hc
        rw [hc] at h1
        cases h1
        exact ⟨G3, Go.refl _ _, rfl⟩ }⟩
def rInSign (neg : Bool) : R2 := fun x y H Q => ∃ (c : Nat) (z : Str), x = .str ⟨#[c]⟩ ∧ y = .str z ∧ Q (.bl (if neg then !decide (c ∈ z.cps.toList) else decide (c ∈ z.cps.toList))) H
theorem ev_inSign {c : Nat} {z : Str} (ha : Ev b ta σ G (Sg c)) (hb : Ev b tb σ G (S z)) : Ev b (tOp (rInSign false) ta tb) σ G (B (decide (c ∈ z.cps.toList))) :=
  ev_opP ha hb fun u v G1 H1 a r p q => by
    obtain rfl : u = _ := p
    obtain ⟨rfl, _⟩ := q
    exact ⟨_, rfl, fun Q hQ => ⟨c, z, rfl, rfl, hQ⟩⟩
theorem ev_notinSign {c : Nat} {z : Str} (ha : Ev b ta σ G (Sg c)) (hb : Ev b tb σ G (S z)) : Ev b (tOp (rInSign true) ta tb) σ G (B (!decide (c ∈ z.cps.toList))) :=
  ev_opP ha hb fun u v G1 H1 a r p q => by
    obtain rfl : u = _ := p
    obtain ⟨rfl, _⟩ := q
    exact ⟨_, rfl, fun Q hQ => ⟨c, z, rfl, rfl, hQ⟩⟩
theorem ev_ixS {s : Str} {i : Int} {j c : Nat} (ha : Ev b ta σ G (S s)) (hb : Ev b tb σ G (I i)) (hi : i = (j : Int)) (hc : s.cps.toList[j]? = some c) : Ev b (tOp (rIx K) ta tb) σ G (Sg c) :=
  ev_opP ha hb fun u v G1 H1 _ r p q => by
    obtain ⟨rfl, ok⟩ := p
    obtain rfl : v = _ := q
    subst hi
    exact ⟨_, rfl, fun Q hQ => .inr (.inr ⟨s, _, c, rfl, rfl, Nat.le_trans (okS_len ok) (by decide), atI_nat hc, hQ⟩)⟩
theorem ev_catS {x y : Str} (ha : Ev b ta σ G (S x)) (hb : Ev b tb σ G (S y)) (ho : okS (x ++ y) = true) (hl : x.length + y.length ≤ 100000) : Ev b (tOp (fun x y H Q => ∃ i j, x = V.str i ∧ y = V.str j ∧ i.length + j.length ≤ sizeLine ∧ Q (.str (i ++ j)) H) ta tb) σ G (S (x ++ y)) :=
  ev_opP ha hb fun u v G1 H1 a r p q => by
    obtain ⟨rfl, _⟩ := p
    obtain ⟨rfl, _⟩ := q
    exact ⟨_, ⟨rfl, ho⟩, fun Q hQ => ⟨x, y, rfl, rfl, Nat.le_trans hl (by decide), hQ⟩⟩
/-- a < b <= c of ints -/
theorem ev_chain {g1 g2 : Int → Int → Bool} {x y z : Int} (ha : Ev b ta σ G (I x)) (hb : Ev b tb σ G (I y)) (hc : Ev b tc σ G (I z)) : Ev b (tChain (rI0 fun i j => .bl (g1 i j)) (rI0 fun i j => .bl (g2 i j)) ta tb tc) σ G (B (g1 x y && g2 y z)) := fun G1 H1 a r Q k =>
  ha G1 H1 a r _ fun u G2 H2 g p => hb G2 H2 (a.trans g.g) (g.r _ r) _ fun v G3 H3 g' q => by
    refine ⟨x, y, p, q, g1 x y, rfl, ?_⟩
    cases hg : g1 x y with
    | false => exact k _ G3 H3 (g.trans g') (by rw [hg]; rfl)
    | true => exact hc G3 H3 ((a.trans g.g).trans g'.g) (g'.r _ (g.r _ r)) _ fun w G4 H4 g'' p'' => ⟨y, z, q, p'', k _ G4 H4 ((g.trans g').trans g'') (by rw [hg]; rfl)⟩
/-! ### isinstance -/
def HasTy (K : PySem.W.Frag) (R : SR) (T : String) : Prop := ∀ v b G H, Rel b G H → R.p v G → TyX K H v (.type T)
theorem hty_S {s : Str} : HasTy K (S s) "str" := fun v b G H _ h => by obtain ⟨rfl, _⟩ := h; exact .base (.str _)
theorem hty_I {i : Int} : HasTy K (I i) "int" := fun v b G H _ h => by obtain rfl : v = _ := h; exact .base (.int _)
theorem hty_B {i : Bool} : HasTy K (B i) "bool" := fun v b G H _ h => by obtain rfl : v = _ := h; exact .base (.bl _)
theorem hty_N : HasTy K N "NoneType" := fun v b G H _ h => by obtain rfl : v = _ := h; exact .base .non
theorem hty_lst {xs : List α} : HasTy K (Lst e xs) "list" := fun v b G H r ⟨a, vs, h1, h2, _⟩ => by subst h1; exact .base (.lst (r.at h2 rfl))
theorem ty_seqT {a : Addr} {vs : List V} (r : Rel b G H) (h : SqT K G a vs) : TyX K H (.ref a) (.type "tuple") := by
  rcases r.seqT h with (h | ⟨o, h⟩) | ⟨o, its, n, h1, h2, _⟩
  · exact .base (.tup h)
  · exact .fTuple h
  · exact .kTuple h1 h2
theorem ty_seqL {a : Addr} {vs : List V} (r : Rel b G H) (h : SqL K G a vs) : TyX K H (.ref a) (.type "list") := by
  rcases r.seqL h with (h | ⟨o, h⟩) | ⟨o, its, n, h1, h2, _⟩
  · exact .base (.lst h)
  · exact .base (.frz h)
  · exact .kList h1 h2
theorem hty_tpl {xs : List α} : HasTy K (Tpl K e xs) "tuple" := fun v b G H r ⟨a, vs, h1, h2, _⟩ => by subst h1; exact ty_seqT r h2
theorem hty_pr {x : α × β} : HasTy K (Pr K e f x) "tuple" := fun v b G H r ⟨a, v1, v2, h1, h2, _⟩ => by subst h1; exact ty_seqT r h2
theorem ev_isi {T n : String} {r : Bool} (ha : Ev b ta σ G R) (ht : HasTy K R T) (hk : kitB T n = some r := by decide +kernel) : Ev b (tCB (rIsi K) (tCons ta (tCons (tC (.ty n)) tNil))) σ G (B r) :=
  ev_cb (ea_cons ha (ea_cons (ev_c (v := .ty n)) ea_nil)) fun vs G1 H1 a rr al Q k => by
    obtain ⟨v, w, rfl, p, q⟩ := alr2 al
    obtain rfl : w = _ := q
    exact ⟨v, .ty n, .type T, .type n, r, rfl, .ty n, ht v b G1 H1 rr p, kit_ty hk, k _ G1 H1 (Go.refl _ _) rfl⟩
/-- isinstance(x, (list, tuple)) -/
def LT2 : List Value := [.type "list", .type "tuple"]
theorem ev_isiLT {r : Bool} (ha : Ev b ta σ G R) (ht : ∀ v b G H, Rel b G H → R.p v G → ∃ T, TyX K H v (.type T) ∧ PySem.W.kitAny K (.type T) LT2 = some r) : Ev b (tCB (rIsiT K) (tCons ta (tCons (tTup (tCons (tC (.ty "list")) (tCons (tC (.ty "tuple")) tNil))) tNil))) σ G (B r) := fun G1 H1 a rr Q k =>
  ha G1 H1 a rr _ fun u G2 H2 g p => by
    refine ⟨(by show 2 ≤ sizeLine; decide), fun p' hp => ?_⟩
    have r2 := g.r _ rr
    have gn := Go.new r2 (o := .tup [.ty "list", .ty "tuple"]) hp
    obtain ⟨T, h1, h2⟩ := ht u b _ _ (gn.r _ r2) (R.st gn.g p)
    exact ⟨u, p', _, .type T, LT2, r, rfl, upd_same, .cons (.ty _) (.cons (.ty _) .nil), h1, h2, k _ _ _ (g.trans gn) rfl⟩
theorem lt2_list : PySem.W.kitAny K (.type "list") LT2 = some true := kitAny_cons (kit_ty (b := "list") (r := true) (by decide +kernel)) (fun h => by cases h) (fun _ => rfl)
theorem lt2_tuple : PySem.W.kitAny K (.type "tuple") LT2 = some true := kitAny_cons (kit_ty (b := "list") (r := false) (by decide +kernel)) (fun _ => kitAny_cons (kit_ty (b := "tuple") (r := true) (by decide +kernel)) (fun h => by cases h) (fun _ => rfl)) (fun h => by cases h)
theorem lt2_no {T : String} (h1 : kitB T "list" = some false := by decide +kernel) (h2 : kitB T "tuple" = some false := by decide +kernel) : PySem.W.kitAny K (.type T) LT2 = some false := kitAny_cons (kit_ty h1) (fun _ => kitAny_cons (kit_ty h2) (fun _ => kitAny_nil) (fun h => by cases h)) (fun h => by cases h)
theorem ev_isiSq {xs : List α} (ha : Ev b ta σ G (Sq K e xs)) : Ev b (tCB (rIsiT K) (tCons ta (tCons (tTup (tCons (tC (.ty "list")) (tCons (tC (.ty "tuple")) tNil))) tNil))) σ G (B true) := ev_isiLT ha fun v b G H r h => by
  rcases h with h | h
  · exact ⟨"list", hty_lst v b G H r h, lt2_list⟩
  · exact ⟨"tuple", hty_tpl v b G H r h, lt2_tuple⟩
/-! ### {k: v for ..} of unlike keys -/
theorem AlD.snoc {as : List (Str × α)} {vs : List (Key × V)} {k : Str} {x : α} {v : V} (h : AlD e as vs G) (q : (e x).p v G) : AlD e (as ++ [(k, x)]) (vs ++ [(Sum.inr k, v)]) G := by
  induction h with
  | nil => exact .cons q .nil
  | cons h _ ih => exact .cons h (ih q)
theorem ev_dc {wi : TI} {xs : List α} {g : TG} {tk tv : TE} {vs : List Nat} {er : β → SR} {ky : α → Str} {fn : α → β} (hi : EvI b wi σ G e xs) (nd : (xs.map ky).Nodup)
    (hb : ∀ a, a ∈ xs → ∀ x G', Same G G' → (e a).p x G' → ∃ σ', GTo b g x (wipe σ vs) G' σ' ∧ wipe σ' vs = wipe σ vs ∧ Ev b tk σ' G' (S (ky a)) ∧ Ev b tv σ' G' (er (fn a))) :
    Ev b (tDc wi g tYes tk tv vs) σ G (Dct er (xs.map fun a => (ky a, fn a))) := fun G1 H1 a r Q k => by
  refine hi G1 H1 a r _ fun J G2 H2 g2 W D hD => ?_
  have rel := g2.r _ r
  refine ⟨fun i m H => m = xs.length - i ∧ i ≤ xs.length ∧ ∃ G' kvs, Go G2 H2 G' H ∧ G' D = none ∧ H D = some (.dK kvs) ∧ AlD er ((xs.take i).map fun a => (ky a, fn a)) kvs G', ⟨xs.length, rfl, Nat.zero_le _, G2, [], Go.own rel hD, rel.free hD, upd_same, .nil⟩, ?_⟩
  rintro i m H ⟨rfl, hi2, G', kvs, g3, nD, hk, al⟩
  have hlen : kvs.length = i := by
    have := congrArg List.length al.keys
    simp only [List.length_map, List.length_take] at this
    omega
  by_cases hlt : i < xs.length
  · refine .inr ⟨W.goes i G' H hlt g3.g (g3.r _ rel) trivial, fun H' => ∃ G' kvs, Go G2 H2 G' H' ∧ G' D = none ∧ H' D = some (.dK kvs) ∧ AlD er ((xs.take (i + 1)).map fun a => (ky a, fn a)) kvs G', fun H' h' => ⟨xs.length - (i + 1), by omega, rfl, hlt, h'⟩, fun x H' y => ?_⟩
    have hxi : xs[i]? = some xs[i] := List.getElem?_eq_getElem hlt
    obtain ⟨G4, g4, pa⟩ := W.yields i xs[i] G' H x H' hxi g3.g (g3.r _ rel) trivial y
    have gA := g3.trans g4
    obtain ⟨σ', h1, h2, h3, h4⟩ := hb xs[i] (List.getElem_mem hlt) x G4 ((a.trans g2.g).trans gA.g) pa
    refine h1 H' (gA.r _ rel) _ ⟨h2, ?_⟩
    show tk σ' H' _
    refine h3.run (gA.r _ rel) fun u G5 H5 g5 pu => ?_
    obtain ⟨rfl, _⟩ := pu
    refine (h4.mono g5.g).run ((gA.trans g5).r _ rel) fun v G6 H6 g6 pv => ?_
    have D6 : H6 D = some (.dK kvs) := g6.h _ _ (g5.h _ _ (g4.h _ _ hk))
    have n6 : G6 D = none := g6.owned (g5.h _ _ (g4.h _ _ hk)) (g5.owned (g4.h _ _ hk) (g4.owned hk nD))
    have hz : kvs.length < sizeLine := by
      have := W.len
      omega
    have hnk : (Sum.inr (ky xs[i]) : Key) ∉ kvs.map (·.1) := by
      rw [al.keys, List.map_map]
      intro q
      obtain ⟨s, hs, e1⟩ := List.mem_map.mp q
      have e2 : s.1 = ky xs[i] := Sum.inr.inj e1
      obtain ⟨a0, ha0, rfl⟩ := List.mem_map.mp hs
      have hs' : ky xs[i] ∈ (xs.take i).map ky := List.mem_map.mpr ⟨a0, ha0, e2⟩
      have nd2 := nd
      rw [← List.take_append_drop i xs, List.map_append] at nd2
      have := (List.nodup_append.mp nd2).2.2 _ hs' (ky xs[i]) (List.mem_map.mpr ⟨xs[i], by
        rw [List.drop_eq_getElem_cons hlt]; exact List.mem_cons_self .., rfl⟩)
      exact this rfl
    refine ⟨kvs, Sum.inr (ky xs[i]), rfl, D6, hz, G6, kvs ++ [(Sum.inr (ky xs[i]), v)], ((gA.trans g5).trans g6).wr hD n6, n6, ?_, ?_⟩
    · rw [upd_same, putK_new _ (valV_none hnk)]
    · rw [take_succ hxi, List.map_append]
      exact (al.st ((g4.g.trans g5.g).trans g6.g)).snoc pv
  · have e : i = xs.length := by omega
    subst e
    rw [List.take_length] at al
    have st := W.stops G' H g3.g (g3.r _ rel) trivial
    refine .inl ⟨st, k _ _ H ((g2.trans g3).give (g2.free hD) nD hk) ⟨D, kvs, rfl, upd_same, by rw [hlen]; exact W.len, al.st (Same.new nD)⟩⟩
/-! ### loops -/
theorem for_go {J : It} {xs : List α} (W : WalkR b J e xs G (fun _ => True)) {g : TG} {tb : TS} {D : Ends} (Iv : Nat → L2.St → Hp → Hp → Prop) (h0 : ∃ G', Iv 0 σ G' H) (hI : ∀ i σ' G' H', Iv i σ' G' H' → Same G G' ∧ Rel b G' H')
    (hs : ∀ (i : Nat) (a : α) x σ' G' H' G2 H2, xs[i]? = some a → Iv i σ' G' H' → Go G' H' G2 H2 → (e a).p x G2 → g x σ' H2 fun σ2 H3 => tb { D with nx := fun σ H => ∃ G, Iv (i + 1) σ G H, ct := fun σ H => ∃ G, Iv (i + 1) σ G H, bk := D.nx } σ2 H3)
    (hd : ∀ σ' G' H', Iv xs.length σ' G' H' → D.nx σ' H') :
    ∃ W : Nat → Nat → L2.St → Hp → Prop, (∃ m, W 0 m σ H) ∧ ∀ i m σ H, W i m σ H →
      (J.stop i H ∧ D.nx σ H) ∨ (J.go i H ∧ ∃ N : L2.St → Hp → Prop, (∀ σ' H', N σ' H' → ∃ m', m' < m ∧ W (i + 1) m' σ' H') ∧ ∀ x H', J.yld i H x H' → g x σ H' fun σ2 H2 => tb { D with nx := N, ct := N, bk := D.nx } σ2 H2) := by
  refine ⟨fun i m σ H => m = xs.length - i ∧ i ≤ xs.length ∧ ∃ G', Iv i σ G' H, ⟨xs.length, rfl, Nat.zero_le _, h0⟩, ?_⟩
  rintro i m σ H ⟨rfl, hi, G', hv⟩
  obtain ⟨s1, r1⟩ := hI i σ G' H hv
  by_cases hlt : i < xs.length
  · refine .inr ⟨W.goes i G' H hlt s1 r1 trivial, fun σ H => ∃ G, Iv (i + 1) σ G H, fun σ' H' h' => ⟨xs.length - (i + 1), by omega, rfl, hlt, h'⟩, fun x H' y => ?_⟩
    have hxi : xs[i]? = some xs[i] := List.getElem?_eq_getElem hlt
    obtain ⟨G4, g4, pa⟩ := W.yields i xs[i] G' H x H' hxi s1 r1 trivial y
    exact hs i xs[i] x σ G' H G4 H' hxi hv g4 pa
  · have e : i = xs.length := by omega
    subst e
    exact .inl ⟨W.stops G' H s1 r1 trivial, hd σ G' H hv⟩
/-- for a in xs: if p(a): return v -/
theorem ts_search {wi : TI} {xs : List α} {g : TG} {tc : TT} {v : V} {D : Ends} {p : α → Bool} (P : L2.St → Prop) (hP : P σ) (hi : EvI b wi σ G e xs) (r : Rel b G H)
    (hb : ∀ (i : Nat) (a : α), xs[i]? = some a → ∀ x G' σ', Same G G' → (e a).p x G' → P σ' → ∃ σ'', GTo b g x σ' G' σ'' ∧ P σ'' ∧ EvT b tc σ'' G' (p a))
    (h1 : xs.any p = true → ∀ G2 H2, Go G H G2 H2 → D.rt v H2) (h2 : xs.any p = false → ∀ σ' G2 H2, Go G H G2 H2 → P σ' → D.nx σ' H2) :
    tFor wi g (tIfS tc (tRet (tC v)) tNext) D σ H := by
  refine hi.run r fun J G2 H2 g2 W => ?_
  refine for_go W (fun i σ' G' H' => Go G H G' H' ∧ Same G2 G' ∧ P σ' ∧ (xs.take i).any p = false) ⟨G2, g2, Same.refl _, hP, by simp⟩ (fun i σ' G' H' ⟨h1, h2, _⟩ => ⟨h2, h1.r _ r⟩) ?_ ?_
  · rintro i a x σ' G' H' G3 H3 hx ⟨q1, q2, q3, q4⟩ g3 pa
    obtain ⟨σ'', k1, k2, k3⟩ := hb i a hx x G3 σ' (q1.trans g3).g pa q3
    refine k1 H3 ((q1.trans g3).r _ r) _ ?_
    refine k3.run ((q1.trans g3).r _ r) fun G4 H4 g4 => ?_
    by_cases z : p a = true
    · rw [z]
      show D.rt v H4
      exact h1 (List.any_eq_true.mpr ⟨a, List.mem_of_getElem? hx, z⟩) G4 H4 ((q1.trans g3).trans g4)
    · have z' : p a = false := by simpa using z
      rw [z']
      exact ⟨G4, (q1.trans g3).trans g4, q2.trans (g3.trans g4).g, k2, by rw [take_succ hx, List.any_append, q4]; simp [z']⟩
  · rintro σ' G' H' ⟨q1, q2, q3, q4⟩
    rw [List.take_length] at q4
    exact h2 q4 σ' G' H' q1 q3
end
end Gd

-- part Gd11
set_option Elab.async false
set_option linter.all false
set_option maxRecDepth 100000
set_option maxHeartbeats 2000000
/-! ### rules of either kind, instances -/
namespace Gd
open PySem PySem.Spec PyProof.Rows L2
section
variable {X : Cx} {tg : Expr}
/-- for x in a list or a tuple -/
theorem pi_seq {l : Expr} {tl : TE} (hl : PE X l tl) : PI X tg l (iSeq X.K tl) := by
  refine ⟨fun pins s σ H R I h => ?_⟩
  refine thn (hl.run pins s σ H _ I h) fun v s1 ⟨x, H1, I1, r1, q1⟩ => ?_
  obtain ⟨a, e, q1⟩ := q1
  subst e
  cases r1
  rcases q1 with ⟨⟨xs, hq⟩, q⟩ | ⟨⟨xs, hq⟩, q⟩
  · obtain ⟨its, rv, p, hz⟩ := I1.list hq
    refine wpAny_pyIter_list p.isList ?_
    refine ⟨s1.heap.objs.size, [s1.heap.objs.size], _, _, H1, rfl, I1.kept (t' := s1.toks) fun b o e => Heap.get?_push_of_some _ e, turn_list a _, ⟨_, Heap.get?_push_size _ rfl, rfl, rfl⟩, fun b hb => ?_, q⟩
    have e : b = s1.heap.objs.size := by simpa using hb
    subst e
    exact I1.fpOk (Nat.le_refl _) (I1.hok.fresh (Nat.le_refl _))
  · obtain ⟨its, rv, p, hz⟩ := I1.tuple hq
    refine wpAny_pyIter_tuple (show s1.heap.IsTuple a its.toArray from p) ?_
    refine ⟨s1.heap.objs.size, [s1.heap.objs.size], _, _, H1, rfl, I1.kept (t' := s1.toks) fun b o e => Heap.get?_push_of_some _ e, turn_tuple a _, ⟨_, Heap.get?_push_size _ rfl, rfl, rfl⟩, fun b hb => ?_, q⟩
    have e : b = s1.heap.objs.size := by simpa using hb
    subst e
    exact I1.fpOk (Nat.le_refl _) (I1.hok.fresh (Nat.le_refl _))
/-- for i, x in enumerate(a list or a tuple) -/
theorem pi_enumA {e : Expr} {ta : TA} {p pos tpos : Pos} {elts : List Expr} {kk : Nat} (hg : Gl X "enumerate") (hm : X.mg "enumerate" = none) (ha : PA X [e] ta) (hs : starEach [e] X.env = [(false, eval e X.env)] := by rfl) :
    PI X (.Tuple elts kk tpos) (.Call (.Name "enumerate" p) [e] [] pos) (iEnumA X.K ta) := by
  refine ⟨fun pins s σ H R I h => ?_⟩
  refine Call_ (ld_blt I hg hm boot_enumerate (PyProof.Rows.callWith_type1 (thn (ha.run pos pins s σ H _ I h) fun us s1 ⟨vs, H1, I1, r1, q1⟩ => ?_) hs rfl))
  obtain ⟨a, xs, ex, q1⟩ := q1
  subst ex
  cases r1 with
  | cons r rr =>
    cases rr
    cases r
    rcases q1 with ⟨hq, q⟩ | ⟨hq, q⟩
    · obtain ⟨its, rv, p', hz⟩ := I1.list hq
      refine call_enumerate_list p'.isList fun h' he hit hsz hk => wpAny_pyIter_enum he ?_
      have I2 : Inv X pins σ H1 { s1 with heap := h' } := I1.kept (t' := s1.toks) hk
      refine ⟨s1.heap.objs.size + 1, [s1.heap.objs.size + 1, s1.heap.objs.size], _, _, H1, rfl, I2, turn_enum a (s1.heap.objs.size + 1) s1.heap.objs.size, ⟨⟨.none, he⟩, hit, Nat.succ_ne_self _⟩, fun b hb => ?_, q⟩
      have e' : b = s1.heap.objs.size + 1 ∨ b = s1.heap.objs.size := by simpa using hb
      have hle : s1.heap.objs.size ≤ b := by
        rcases e' with z | z
        · rw [z]; exact Nat.le_add_right _ _
        · rw [z]; exact Nat.le_refl _
      exact I1.fpOk hle (I1.hok.fresh hle)
    · obtain ⟨its, rv, p', hz⟩ := I1.tuple hq
      refine enum_begins1 (begins_tuple a its.toArray) (show s1.heap.IsTuple a its.toArray from p') fun h' he hit hsz hk => wpAny_pyIter_enum he ?_
      have I2 : Inv X pins σ H1 { s1 with heap := h' } := I1.kept (t' := s1.toks) hk
      have hlt : a < s1.heap.objs.size := p'.lt
      refine ⟨s1.heap.objs.size + 1, [s1.heap.objs.size + 1, s1.heap.objs.size], _, _, H1, rfl, I2, turn_enumT a (s1.heap.objs.size + 1) s1.heap.objs.size (Nat.ne_of_lt hlt), ⟨⟨.none, he⟩, ⟨_, hit, rfl, rfl⟩, Nat.succ_ne_self _⟩, fun b hb => ?_, q⟩
      have e' : b = s1.heap.objs.size + 1 ∨ b = s1.heap.objs.size := by simpa using hb
      have hle : s1.heap.objs.size ≤ b := by
        rcases e' with z | z
        · rw [z]; exact Nat.le_add_right _ _
        · rw [z]; exact Nat.le_refl _
      exact I1.fpOk hle (I1.hok.fresh hle)
/-- d[k] = v as a store -/
def rSetD : TSet := fun o i v H Q => ∃ a H', o = .ref a ∧ DPut H a i v H' ∧ Q H'
theorem set_dict (hu : X.A.units + 1 < cLine) : PSet X rSetD := by
  intro pins s σ H o i v ov iv u Q I ro ri rv h
  obtain ⟨a, H', rfl, g, q⟩ := h
  obtain rfl : ov = Value.ref a := ro
  exact d_setItem hu I g ri rv fun s4 I4 => ⟨H', I4, q⟩
theorem sl_qA : SlR X (rSlA2 X.K) := sl_list.or sl_tupA
theorem op_inSg : OpR X (compareOp .In) (rInSign false) := op_in_sign
theorem op_notInSg : OpR X (compareOp .NotIn) (rInSign true) := op_notIn_sign
theorem pg_seq {es : List Expr} {k : Nat} {pos : Pos} {t : TGs} {n : Nat} (hc : X.calm = true) (h : PGs X es t)
    (hn : (assignEach es X.env).length = n := by rfl) (hst : (assignEach es X.env).findIdx? (·.1) = none := by rfl) : PG X (.Tuple es k pos) (fun v σ H Q => gTup X.K n t v σ H Q ∨ gUnl X.K n t v σ H Q) :=
  PG.or (pg_tup hc h hn hst) (pg_unl hc h hn hst)
end
section
variable {K : PySem.W.Frag} {b : Bool} {σ : L2.St} {G G' H : Hp} {t ta tb te tc : TE} {R R' : SR} {α β γ : Type} {e : α → SR} {f : β → SR}
/-- what is owned may be read as if it were frozen, while a test is made -/
theorem unlend {G H G2 H2 : Hp} {D : Addr} {o : HO} (g : Go (upd G D o) H G2 H2) (nD : G D = none) (hD : H D = some o) : Go G H (fun a => if a = D then none else G2 a) H2 ∧ H2 D = some o := by
  refine ⟨⟨fun a u e => ?_, g.h, fun a u q e => ?_, fun a u e => ?_, fun a u q e => ?_⟩, g.h _ _ hD⟩
  · have n : a ≠ D := fun z => by rw [z, nD] at e; cases e
    show (if a = D then none else G2 a) = some u
    rw [if_neg n]
    exact g.g a u (by rw [upd_ne n]; exact e)
  · by_cases n : a = D
    · simp only [if_pos n] at e; cases e
    · simp only [if_neg n] at e
      exact g.r0 a u (by rw [upd_ne n]; exact q) e
  · show (if a = D then none else G2 a) = G a
    by_cases n : a = D
    · rw [if_pos n, n, nD]
    · rw [if_neg n, g.n a u e, upd_ne n]
  · by_cases n : a = D
    · simp only [if_pos n] at e; cases e
    · simp only [if_neg n] at e
      exact g.t a u (by rw [upd_ne n]; exact q) e
theorem EvT.lend {tt : TT} {c : Bool} {D : Addr} {o : HO} (h : EvT b tt σ (upd G D o) c) (r : Rel b G H) (nD : G D = none) (hD : H D = some o) {Q : Bool → Hp → Prop} (k : ∀ G2 H2, Go G H G2 H2 → G2 D = none → H2 D = some o → Q c H2) : tt σ H Q :=
  h.run (r.give hD) fun G2 H2 g => by
    obtain ⟨g2, hd⟩ := unlend g nD hD
    exact k _ H2 g2 (if_pos rfl) hd
theorem Ev.lend {c : V} {D : Addr} {o : HO} (h : Ev b te σ (upd G D o) (cst c)) (r : Rel b G H) (nD : G D = none) (hD : H D = some o) {Q : VK} (k : ∀ G2 H2, Go G H G2 H2 → G2 D = none → H2 D = some o → Q c H2) : te σ H Q :=
  h.run (r.give hD) fun u G2 H2 g p => by
    obtain ⟨g2, hd⟩ := unlend g nD hD
    obtain rfl : u = c := p
    exact k _ H2 g2 (if_pos rfl) hd
/-- a new instance -/
theorem Go.made {b : Bool} {G H : Hp} (r : Rel b G H) {x dx : Addr} {o u : HO} (nx : H x = none) (ndx : H dx = none) : Go G H G (upd (upd H dx u) x o) :=
  ⟨Same.refl G, (Same.own (Same.own (Same.refl H) ndx) nx), (fun a u q e => by rw [q] at e; cases e), fun _ _ _ => rfl, (fun a u q e => by rw [q] at e; cases e)⟩
end
end Gd

-- part Gd12
set_option Elab.async false
set_option linter.all false
set_option maxRecDepth 100000
set_option maxHeartbeats 2000000
/-! ### sorting as plain data; defs; lists that are filled -/
namespace Gd
open PySem PySem.Spec PyProof.Rows L2
open PySem.W (dataLe alike keyToks sortLe sortLe_total toks_eqv TotalLe)
section
variable {α β : Type} {c : α → PyData} [DecidableEq α]
/-- sorted -/
def srt (c : α → PyData) (xs : List α) : List α := xs.mergeSort (dataLe false c)
theorem dle_total (c : α → PyData) : TotalLe (dataLe false c) := sortLe_total _ _ _
theorem dle_antisymm (A : Alk c) (Q : EqE c) {x y : α} (h1 : dataLe false c x y = true) (h2 : dataLe false c y x = true) : x = y := by
  have h1' : (!PyProof.Rows.lexLt itemOrd (keyToks (c y)) (keyToks (c x))) = true := h1
  have h2' : (!PyProof.Rows.lexLt itemOrd (keyToks (c x)) (keyToks (c y))) = true := h2
  rw [Bool.not_eq_true'] at h1' h2'
  have e : keyToks (c x) = keyToks (c y) := (listOrd itemOrd).total _ _ h2' h1'
  have q := Q.eq x y
  cases z : PyData.eqv (c x) (c y) with
  | true => rw [z] at q; exact of_decide_eq_true q.symm
  | false =>
    have t := (toks_eqv (c x) (c y) (A.ak x y)).2 z
    have t1 := t [] [Sum.inl 0]
    rw [e, List.append_nil] at t1
    have i1 : PyProof.Rows.lexLt itemOrd (keyToks (c y)) (keyToks (c y)) = false := (listOrd itemOrd).irrefl _
    rw [i1] at t1
    have t2 := PySem.W.lex_pre (keyToks (c y)) [] [Sum.inl 0]
    rw [List.append_nil, t1] at t2
    exact absurd t2 (by decide)
def Sd (c : α → PyData) (xs : List α) : Prop := xs.Pairwise fun a b => dataLe false c a b = true
theorem srt_sd (c : α → PyData) (xs : List α) : Sd c (srt c xs) := List.pairwise_mergeSort (dle_total c).trans (fun a b => by
  rcases (dle_total c).total a b with h | h <;> simp [h]) xs
theorem srt_perm (c : α → PyData) (xs : List α) : (srt c xs).Perm xs := List.mergeSort_perm _ _
theorem srt_of_sd {xs : List α} (h : Sd c xs) : srt c xs = xs := List.mergeSort_of_pairwise h
theorem sd_unique (A : Alk c) (Q : EqE c) {xs ys : List α} (h1 : Sd c xs) (h2 : Sd c ys) (p : xs.Perm ys) : xs = ys := List.Perm.eq_of_pairwise (le := fun a b => dataLe false c a b = true) (fun _ _ _ _ h1 h2 => dle_antisymm A Q h1 h2) h1 h2 p
theorem srt_congr (A : Alk c) (Q : EqE c) {xs ys : List α} (p : xs.Perm ys) : srt c xs = srt c ys := sd_unique A Q (srt_sd c xs) (srt_sd c ys) (((srt_perm c xs).trans p).trans (srt_perm c ys).symm)
theorem srt_eq (A : Alk c) (Q : EqE c) {xs ys : List α} (p : xs.Perm ys) (h : Sd c ys) : srt c xs = ys := sd_unique A Q (srt_sd c xs) h ((srt_perm c xs).trans p)
theorem mem_srt {xs : List α} {x : α} : x ∈ srt c xs ↔ x ∈ xs := (srt_perm c xs).mem_iff
theorem srt_len (c : α → PyData) (xs : List α) : (srt c xs).length = xs.length := (srt_perm c xs).length_eq
theorem srt_nodup {xs : List α} : (srt c xs).Nodup ↔ xs.Nodup := (srt_perm c xs).nodup_iff
theorem Sd.sub {xs ys : List α} (h : Sd c ys) (s : List.Sublist xs ys) : Sd c xs := List.Pairwise.sublist s h
end
theorem sortable_S (xs : List Str) : Sortable2 (xs.map PyData.str) := .inr fun d hd => by
  obtain ⟨x, _, rfl⟩ := List.mem_map.mp hd
  exact ⟨fun h => (by cases h), fun _ h => by cases h⟩
theorem sortable_I (xs : List Int) : Sortable2 (xs.map PyData.int) := .inr fun d hd => by
  obtain ⟨x, _, rfl⟩ := List.mem_map.mp hd
  exact ⟨fun h => (by cases h), fun _ h => by cases h⟩
theorem sortable_tpl {α : Type} (c : α → PyData) (xs : List (List α)) : Sortable2 (xs.map fun ys => PyData.tuple (ys.map c)) := .inl fun d hd => by
  obtain ⟨x, _, rfl⟩ := List.mem_map.mp hd
  exact ⟨_, rfl⟩
theorem sortable_lst {α : Type} (c : α → PyData) (xs : List (List α)) : Sortable2 (xs.map fun ys => PyData.list (ys.map c)) := .inr fun d hd => by
  obtain ⟨x, _, rfl⟩ := List.mem_map.mp hd
  exact ⟨fun h => (by cases h), fun _ h => by cases h⟩
theorem sortable_pr {α β : Type} (c : α → PyData) (c' : β → PyData) (xs : List (α × β)) : Sortable2 (xs.map fun p => PyData.tuple [c p.1, c' p.2]) := .inl fun d hd => by
  obtain ⟨x, _, rfl⟩ := List.mem_map.mp hd
  exact ⟨_, rfl⟩
/-! ### defs -/
/-- a def of the module as it stands behind the top -/
def Fn (K : PySem.W.Frag) (mg : Str → Option Value) (x : Str) (st : Stmt) (ps : List Str) : Prop := ∃ (f : Addr) (fd : FuncData), L2.Fun K x x st f fd ∧ mg x = some (.ref f) ∧ Binds K fd ps []
section
variable {P : Program} {w : World} {K : PySem.W.Frag} {mg : Str → Option Value} {base : Heap}
theorem cal_of {x : Str} {st : Stmt} {N ps : List Str} {k : Nat} {sp : Sp} (F : Fn K mg x st ps) (S : FnScope N ps (defScope st)) (len : ∀ vs H Q E, sp vs H Q E → vs.length = ps.length)
    (hbody : ∀ (f : Addr) (cdv : Value) (A : Around) (outer : List Env) (s : Shared) (H : Hp) (vs : List V) (Q : VK) (E : XK), Room k (A.deeper (envOfC x (defScope st) s.heap.objs.size f cdv)) → sp vs H Q E →
      ∃ t, PSs (cxOf CX0 P w K mg base N x (defScope st) f cdv A outer s H E).nox (defBody st) t ∧ t { nx := fun _ H' => Q .non H', rt := Q } (start N vs) H) : C8.Cal P w K mg base (k + 1) x sp [] := by
  obtain ⟨f, fd, h1, h2, h3⟩ := F
  exact ⟨f, fd, ps, [], h1.ok S len (hbody f), h2, h1.kp, h3, .nil⟩
theorem hu64_of {A : Around} {k : Nat} (hr : Room k A) : A.units + 64 < cLine := by have := hr.un; omega
theorem hu65_of {A : Around} {k : Nat} (hr : Room k A) : A.units + 65 < cLine := by have := hr.un; omega
end
/-! ### lists that are filled -/
section
variable {K : PySem.W.Frag} {b : Bool} {σ : L2.St} {G G' H : Hp} {t ta tb te tc : TE} {R R' : SR} {α β γ : Type} {e : α → SR} {f : β → SR}
theorem ts_append {i : Nat} {p : Addr} {vs : List V} {D : Ends} (h : Ev b te σ G R) (hv : σ[i]? = some (some (.ref p))) (nG : G p = none) (hp : H p = some (.lst vs)) (hl : vs.length ≤ 100000) (r : Rel b G H)
    (k : ∀ v G2 H2, Go G H G2 H2 → G2 p = none → R.p v G2 → D.nx σ (upd H2 p (.lst (vs ++ [v])))) : tDrop (tBM K "list" rAppend (tVar i) (tCons te tNil)) D σ H := by
  refine ⟨_, hv, .inl ⟨rfl, vs, SqL.of hp⟩, ?_⟩
  show te σ H _
  refine h.run r fun v G2 H2 g pv => ?_
  exact ⟨p, vs, v, rfl, rfl, g.h _ _ hp, Nat.lt_of_le_of_lt hl (by decide), k v G2 H2 g (g.owned hp nG) pv⟩
theorem ts_extend {i : Nat} {p : Addr} {vs : List V} {D : Ends} {xs : List α} (h : EvN b te σ G e xs) (hv : σ[i]? = some (some (.ref p))) (nG : G p = none) (hp : H p = some (.lst vs)) (hl : vs.length + xs.length ≤ 100000) (r : Rel b G H)
    (k : ∀ ws G2 H2, Go G H G2 H2 → G2 p = none → Al e xs ws G2 → D.nx σ (upd H2 p (.lst (vs ++ ws)))) : tDrop (tBM K "list" rExtend (tVar i) (tCons te tNil)) D σ H := by
  refine ⟨_, hv, .inl ⟨rfl, vs, SqL.of hp⟩, ?_⟩
  show te σ H _
  refine h.run r fun q ws G2 H2 g n1 n2 hq lq al => ?_
  exact ⟨p, q, vs, ws, rfl, rfl, g.h _ _ hp, hq, Nat.le_trans (by rw [al.len]; exact hl) (by decide), k ws G2 H2 g (g.owned hp nG) al⟩
/-- the frame: the first names' values -/
theorem Go.upd_own {G0 H0 G2 H2 : Hp} (g : Go G0 H0 G2 H2) {p : Addr} {o : HO} (n0 : H0 p = none) (n : G2 p = none) : Go G0 H0 G2 (upd H2 p o) := g.wr n0 n
/-- a list of our own, filled with what stands for acc -/
structure OwnL (p : Addr) (e : α → SR) (acc : List α) (G H : Hp) (H0 : Hp) : Prop where
  n0 : H0 p = none
  nG : G p = none
  ex : ∃ vs, H p = some (.lst vs) ∧ Al e acc vs G
theorem OwnL.go {p : Addr} {acc : List α} {G H H0 G2 H2 : Hp} (o : OwnL p e acc G H H0) (g : Go G H G2 H2) : OwnL p e acc G2 H2 H0 := by
  obtain ⟨vs, h1, h2⟩ := o.ex
  exact ⟨o.n0, g.owned h1 o.nG, vs, g.h _ _ h1, h2.st g.g⟩
theorem OwnL.push {i : Nat} {p : Addr} {acc : List α} {D : Ends} {G0 H0 : Hp} {a : α} (o : OwnL p e acc G H H0) (h : Ev b te σ G (e a)) (hv : σ[i]? = some (some (.ref p))) (hl : acc.length ≤ 100000) (r : Rel b G H) (g0 : Go G0 H0 G H)
    (k : ∀ G2 H2, Go G0 H0 G2 H2 → Same G G2 → OwnL p e (acc ++ [a]) G2 H2 H0 → D.nx σ H2) : tDrop (tBM K "list" rAppend (tVar i) (tCons te tNil)) D σ H := by
  obtain ⟨vs, h1, h2⟩ := o.ex
  refine ts_append h hv o.nG h1 (by rw [h2.len]; exact hl) r fun v G2 H2 g n pv => ?_
  exact k G2 _ ((g0.trans g).wr o.n0 n) g.g ⟨o.n0, n, vs ++ [v], upd_same, (h2.st g.g).snoc pv⟩
theorem OwnL.ext {i : Nat} {p : Addr} {acc xs : List α} {D : Ends} {G0 H0 : Hp} (o : OwnL p e acc G H H0) (h : EvN b te σ G e xs) (hv : σ[i]? = some (some (.ref p))) (hl : acc.length + xs.length ≤ 100000) (r : Rel b G H) (g0 : Go G0 H0 G H)
    (k : ∀ G2 H2, Go G0 H0 G2 H2 → Same G G2 → OwnL p e (acc ++ xs) G2 H2 H0 → D.nx σ H2) : tDrop (tBM K "list" rExtend (tVar i) (tCons te tNil)) D σ H := by
  obtain ⟨vs, h1, h2⟩ := o.ex
  refine ts_extend h hv o.nG h1 (by rw [h2.len]; exact hl) r fun ws G2 H2 g n al => ?_
  exact k G2 _ ((g0.trans g).wr o.n0 n) g.g ⟨o.n0, n, vs ++ ws, upd_same, (h2.st g.g).app al⟩
/-- xs = [..]: a new list of our own -/
theorem EvN.own {xs : List α} (h : EvN b t σ G e xs) (r : Rel b G H) {Q : VK} (k : ∀ p G2 H2, Go G H G2 H2 → OwnL p e xs G2 H2 H → Q (.ref p) H2) : t σ H Q :=
  h.run r fun p vs G2 H2 g n1 n2 hp hl al => k p G2 H2 g ⟨n1, n2, vs, hp, al⟩
/-- .. at last frozen -/
theorem OwnL.freeze {p : Addr} {acc : List α} {G H G0 H0 : Hp} (o : OwnL p e acc G H H0) (g0 : Go G0 H0 G H) (hl : acc.length ≤ 100000) : ∃ G2, Go G0 H0 G2 H ∧ Same G G2 ∧ (Lst e acc).p (.ref p) G2 := by
  obtain ⟨vs, h1, h2⟩ := o.ex
  exact ⟨upd G p (.lst vs), g0.give o.n0 o.nG h1, Same.new o.nG, p, vs, rfl, upd_same, by rw [h2.len]; exact Nat.le_trans hl (by decide), h2.st (Same.new o.nG)⟩
/-- .. read as if it were frozen -/
theorem OwnL.evT {p : Addr} {acc : List α} {tt : TT} {H0 : Hp} {c : Bool} (o : OwnL p e acc G H H0) (hl : acc.length ≤ 100000) (r : Rel b G H) (h : ∀ G1, Same G G1 → (Lst e acc).p (.ref p) G1 → EvT b tt σ G1 c) {Q : Bool → Hp → Prop} (k : ∀ G2 H2, Go G H G2 H2 → Q c H2) : tt σ H Q := by
  obtain ⟨vs, h1, h2⟩ := o.ex
  exact (h _ (Same.new o.nG) ⟨p, vs, rfl, upd_same, by rw [h2.len]; exact Nat.le_trans hl (by decide), h2.st (Same.new o.nG)⟩).lend r o.nG h1 fun G2 H2 g _ _ => k G2 H2 g
/-- any list or tuple -/
def SqV (K : PySem.W.Frag) : SR := ⟨fun u G => ∃ a vs, u = .ref a ∧ (G a = some (.lst vs) ∨ SqT K G a vs), fun s ⟨a, vs, h1, h2⟩ => ⟨a, vs, h1, h2.elim (fun h => .inl (s _ _ h)) fun h => .inr ((Rel.sq s).seqT h)⟩⟩
theorem sqv_of {xs : List α} {u : V} (h : (Sq K e xs).p u G) : (SqV K).p u G := by
  rcases h with ⟨a, vs, h1, h2, _⟩ | ⟨a, vs, h1, h2, _⟩
  · exact ⟨a, vs, h1, .inl h2⟩
  · exact ⟨a, vs, h1, .inr h2⟩
theorem ev_isiV (ha : Ev b ta σ G (SqV K)) : Ev b (tCB (rIsiT K) (tCons ta (tCons (tTup (tCons (tC (.ty "list")) (tCons (tC (.ty "tuple")) tNil))) tNil))) σ G (B true) := ev_isiLT ha fun v b G H r h => by
  obtain ⟨a, vs, rfl, h | h⟩ := h
  · exact ⟨"list", .base (.lst (r.at h rfl)), lt2_list⟩
  · exact ⟨"tuple", ty_seqT r h, lt2_tuple⟩
end
end Gd

-- part Gd13
set_option Elab.async false
set_option linter.all false
set_option maxRecDepth 100000
set_option maxHeartbeats 2000000
/-! ### statements over the frozen world -/
namespace Gd
open PySem PySem.Spec PyProof.Rows L2
section
variable {K : PySem.W.Frag} {b : Bool} {σ : L2.St} {G G' H : Hp} {t ta tb te tc : TE} {R R' : SR} {α β γ : Type} {e : α → SR} {f : β → SR} {D : Ends}
theorem ts_ifF {c : TT} {t u : TS} (h : EvT b c σ G false) (r : Rel b G H) (k : ∀ G2 H2, Go G H G2 H2 → u D σ H2) : tIfS c t u D σ H := h.run r fun G2 H2 g => k G2 H2 g
theorem ts_ifT {c : TT} {t u : TS} (h : EvT b c σ G true) (r : Rel b G H) (k : ∀ G2 H2, Go G H G2 H2 → t D σ H2) : tIfS c t u D σ H := h.run r fun G2 H2 g => k G2 H2 g
theorem ts_if {c : TT} {v : Bool} {t u : TS} (h : EvT b c σ G v) (r : Rel b G H) (k1 : v = true → ∀ G2 H2, Go G H G2 H2 → t D σ H2) (k2 : v = false → ∀ G2 H2, Go G H G2 H2 → u D σ H2) : tIfS c t u D σ H := h.run r fun G2 H2 g => by
  cases v with
  | true => exact k1 rfl G2 H2 g
  | false => exact k2 rfl G2 H2 g
theorem ts_ret {nx bk ct : L2.St → Hp → Prop} {Q : VK} (h : Ev b te σ G R) (r : Rel b G H) (k : ∀ u G2 H2, Go G H G2 H2 → R.p u G2 → Q u H2) : tRet te ⟨nx, Q, bk, ct⟩ σ H := h.run r k
theorem ts_set {i : Nat} (h : Ev b te σ G R) (r : Rel b G H) (k : ∀ u G2 H2, Go G H G2 H2 → R.p u G2 → D.nx (σ.set i (some u)) H2) : tAsg te (gName i) D σ H := h.run r k
theorem ts_setN {i : Nat} {xs : List α} (h : EvN b te σ G e xs) (r : Rel b G H) (k : ∀ p G2 H2, Go G H G2 H2 → OwnL p e xs G2 H2 H → D.nx (σ.set i (some (.ref p))) H2) : tAsg te (gName i) D σ H := EvN.own h r k
theorem ts_retN {nx bk ct : L2.St → Hp → Prop} {Q : VK} {xs : List α} (h : EvN b te σ G e xs) (r : Rel b G H) (k : ∀ p vs G2 H2, Go G H G2 H2 → H p = none → G2 p = none → H2 p = some (.lst vs) → vs.length ≤ sizeLine → Al e xs vs G2 → Q (.ref p) H2) : tRet te ⟨nx, Q, bk, ct⟩ σ H := h.run r k
/-- i, j = x, y -/
theorem ts_par {i j : Nat} {R1 R2 : SR} {tx ty : TE} (h1 : Ev b tx σ G R1) (h2 : Ev b ty σ G R2) (r : Rel b G H) (k : ∀ u v G2 H2, Go G H G2 H2 → R1.p u G2 → R2.p v G2 → D.nx ((σ.set i (some u)).set j (some v)) H2) : tPar i j (tCons tx (tCons ty tNil)) D σ H :=
  (ea_cons h1 (ea_cons h2 ea_nil)).run r fun vs G2 H2 g al => by
    obtain ⟨v, w, rfl, p, q⟩ := alr2 al
    exact ⟨v, w, rfl, k v w G2 H2 g p q⟩
theorem sp1 {ι : Type} {pre : ι → List SR} {ok : ι → Prop} {post : ι → SR} {vs : List V} {Q : VK} {E : XK} {r1 : ι → SR} (h : spF b pre ok post vs H Q E) (hp : ∀ i, pre i = [r1 i]) : ∃ i G v, vs = [v] ∧ Rel b G H ∧ ok i ∧ (r1 i).p v G ∧ ∀ u G2 H2, Go G H G2 H2 → (post i).p u G2 → Q u H2 := by
  obtain ⟨i, G, r, ok, al, k⟩ := h
  rw [hp] at al
  obtain ⟨v, rfl, p⟩ := alr1 al
  exact ⟨i, G, v, rfl, r, ok, p, k⟩
theorem sp2 {ι : Type} {pre : ι → List SR} {ok : ι → Prop} {post : ι → SR} {vs : List V} {Q : VK} {E : XK} {r1 r2 : ι → SR} (h : spF b pre ok post vs H Q E) (hp : ∀ i, pre i = [r1 i, r2 i]) : ∃ i G v w, vs = [v, w] ∧ Rel b G H ∧ ok i ∧ (r1 i).p v G ∧ (r2 i).p w G ∧ ∀ u G2 H2, Go G H G2 H2 → (post i).p u G2 → Q u H2 := by
  obtain ⟨i, G, r, ok, al, k⟩ := h
  rw [hp] at al
  obtain ⟨v, w, rfl, p, q⟩ := alr2 al
  exact ⟨i, G, v, w, rfl, r, ok, p, q, k⟩
theorem sp3 {ι : Type} {pre : ι → List SR} {ok : ι → Prop} {post : ι → SR} {vs : List V} {Q : VK} {E : XK} {r1 r2 r3 : ι → SR} (h : spF b pre ok post vs H Q E) (hp : ∀ i, pre i = [r1 i, r2 i, r3 i]) : ∃ i G v w z, vs = [v, w, z] ∧ Rel b G H ∧ ok i ∧ (r1 i).p v G ∧ (r2 i).p w G ∧ (r3 i).p z G ∧ ∀ u G2 H2, Go G H G2 H2 → (post i).p u G2 → Q u H2 := by
  obtain ⟨i, G, r, ok, al, k⟩ := h
  rw [hp] at al
  obtain ⟨v, w, z, rfl, p, q, q'⟩ := alr3 al
  exact ⟨i, G, v, w, z, rfl, r, ok, p, q, q', k⟩
theorem spn1 {ι : Type} {pre : ι → List SR} {ok : ι → Prop} {post : ι → List α} {vs : List V} {Q : VK} {E : XK} {r1 : ι → SR} (h : spN b pre ok e post vs H Q E) (hp : ∀ i, pre i = [r1 i]) : ∃ i G v, vs = [v] ∧ Rel b G H ∧ ok i ∧ (r1 i).p v G ∧ ∀ p vs G2 H2, Go G H G2 H2 → H p = none → G2 p = none → H2 p = some (.lst vs) → vs.length ≤ sizeLine → Al e (post i) vs G2 → Q (.ref p) H2 := by
  obtain ⟨i, G, r, ok, al, k⟩ := h
  rw [hp] at al
  obtain ⟨v, rfl, p⟩ := alr1 al
  exact ⟨i, G, v, rfl, r, ok, p, k⟩
theorem spn2 {ι : Type} {pre : ι → List SR} {ok : ι → Prop} {post : ι → List α} {vs : List V} {Q : VK} {E : XK} {r1 r2 : ι → SR} (h : spN b pre ok e post vs H Q E) (hp : ∀ i, pre i = [r1 i, r2 i]) : ∃ i G v w, vs = [v, w] ∧ Rel b G H ∧ ok i ∧ (r1 i).p v G ∧ (r2 i).p w G ∧ ∀ p vs G2 H2, Go G H G2 H2 → H p = none → G2 p = none → H2 p = some (.lst vs) → vs.length ≤ sizeLine → Al e (post i) vs G2 → Q (.ref p) H2 := by
  obtain ⟨i, G, r, ok, al, k⟩ := h
  rw [hp] at al
  obtain ⟨v, w, rfl, p, q⟩ := alr2 al
  exact ⟨i, G, v, w, rfl, r, ok, p, q, k⟩
end
end Gd
namespace Gd
open PySem PySem.Spec PyProof.Rows L2
section
variable {K : PySem.W.Frag} {b : Bool} {σ : L2.St} {G G' H : Hp} {t ta tb te tc : TE} {R R' : SR} {α β γ : Type} {e : α → SR} {f : β → SR} {D : Ends}
/-- a loop that does nothing to the frozen world but what Go allows -/
theorem ts_each {wi : TI} {xs : List α} {g : TG} {tb : TS} (P : L2.St → Prop) (hP : P σ) (hi : EvI b wi σ G e xs) (r : Rel b G H)
    (hb : ∀ (i : Nat) (a : α), xs[i]? = some a → ∀ x G' H' σ' (D' : Ends), Same G G' → Rel b G' H' → (e a).p x G' → P σ' → D'.rt = D.rt → (∀ σ2 G2 H2, Go G' H' G2 H2 → P σ2 → D'.nx σ2 H2) → g x σ' H' fun σ2 H2 => tb D' σ2 H2)
    (hd : ∀ σ' G2 H2, Go G H G2 H2 → P σ' → D.nx σ' H2) : tFor wi g tb D σ H := by
  refine hi.run r fun J G2 H2 g2 W => ?_
  refine for_go W (fun i σ' G' H' => Go G H G' H' ∧ Same G2 G' ∧ P σ') ⟨G2, g2, Same.refl _, hP⟩ (fun i σ' G' H' ⟨h1, h2, _⟩ => ⟨h2, h1.r _ r⟩) ?_ ?_
  · rintro i a x σ' G' H' G3 H3 hx ⟨q1, q2, q3⟩ g3 pa
    exact hb i a hx x G3 H3 σ' _ (q1.trans g3).g ((q1.trans g3).r _ r) pa q3 rfl fun σ2 G4 H4 g4 p4 => ⟨G4, (q1.trans g3).trans g4, q2.trans (g3.trans g4).g, p4⟩
  · rintro σ' G' H' ⟨q1, q2, q3⟩
    exact hd σ' G' H' q1 q3
/-- .. that fills a list of our own -/
theorem ts_fill {wi : TI} {xs : List α} {g : TG} {tb : TS} {p : Addr} {er : γ → SR} {acc0 : List γ} {G0 H0 : Hp} (step : List γ → α → List γ) (P : L2.St → Prop) (hP : P σ) (o : OwnL p er acc0 G H H0) (g0 : Go G0 H0 G H) (hi : EvI b wi σ G e xs) (r0 : Rel b G0 H0)
    (hb : ∀ (i : Nat) (a : α), xs[i]? = some a → ∀ x G' H' σ' (D' : Ends), Same G G' → Rel b G' H' → (e a).p x G' → P σ' → Go G0 H0 G' H' → OwnL p er ((xs.take i).foldl step acc0) G' H' H0 → D'.rt = D.rt →
      (∀ σ2 G2 H2, Go G0 H0 G2 H2 → Same G' G2 → OwnL p er (step ((xs.take i).foldl step acc0) a) G2 H2 H0 → P σ2 → D'.nx σ2 H2) → g x σ' H' fun σ2 H2 => tb D' σ2 H2)
    (hd : ∀ σ' G2 H2, Go G0 H0 G2 H2 → Same G G2 → OwnL p er (xs.foldl step acc0) G2 H2 H0 → P σ' → D.nx σ' H2) : tFor wi g tb D σ H := by
  have r := g0.r _ r0
  refine hi.run r fun J G2 H2 g2 W => ?_
  refine for_go W (fun i σ' G' H' => Go G0 H0 G' H' ∧ Same G2 G' ∧ OwnL p er ((xs.take i).foldl step acc0) G' H' H0 ∧ P σ') ⟨G2, g0.trans g2, Same.refl _, o.go g2, hP⟩ (fun i σ' G' H' ⟨h1, h2, _⟩ => ⟨h2, h1.r _ r0⟩) ?_ ?_
  · rintro i a x σ' G' H' G3 H3 hx ⟨q1, q2, q4, q3⟩ g3 pa
    refine hb i a hx x G3 H3 σ' _ (g2.g.trans (q2.trans g3.g)) ((q1.trans g3).r _ r0) pa q3 (q1.trans g3) (q4.go g3) rfl fun σ2 G4 H4 g4 s4 o4 p4 => ⟨G4, g4, q2.trans (g3.g.trans s4), ?_, p4⟩
    rw [take_succ hx, List.foldl_append]
    exact o4
  · rintro σ' G' H' ⟨q1, q2, q4, q3⟩
    rw [List.take_length] at q4
    exact hd σ' G' H' q1 (g2.g.trans q2) q4 q3
end
end Gd

namespace Gd
open PySem PySem.Spec PyProof.Rows L2
/-! the same, with what follows -/
section
variable {K : PySem.W.Frag} {b : Bool} {σ : L2.St} {G G' H : Hp} {t ta tb te tc : TE} {R R' : SR} {α β γ : Type} {e : α → SR} {f : β → SR} {D : Ends} {u : TS}
theorem ts_ifFN {c : TT} {t : TS} (h : EvT b c σ G false) (r : Rel b G H) (k : ∀ G2 H2, Go G H G2 H2 → D.nx σ H2) : tIfS c t tNext D σ H := h.run r fun G2 H2 g => k G2 H2 g
theorem tq_ifF {c : TT} {t : TS} (h : EvT b c σ G false) (r : Rel b G H) (k : ∀ G2 H2, Go G H G2 H2 → u D σ H2) : tSeq (tIfS c t tNext) u D σ H := h.run r fun G2 H2 g => k G2 H2 g
theorem tq_if {c : TT} {v : Bool} {t t2 : TS} (h : EvT b c σ G v) (r : Rel b G H) (k1 : v = true → ∀ G2 H2, Go G H G2 H2 → t { D with nx := u D } σ H2) (k2 : v = false → ∀ G2 H2, Go G H G2 H2 → t2 { D with nx := u D } σ H2) : tSeq (tIfS c t t2) u D σ H := ts_if h r k1 k2
/-- if c: return e -/
theorem tq_ifRet {nx bk ct : L2.St → Hp → Prop} {Q : VK} {c : TT} {v : Bool} (h : EvT b c σ G v) (r : Rel b G H) (k1 : v = true → ∀ G2 H2, Go G H G2 H2 → te σ H2 Q) (k2 : v = false → ∀ G2 H2, Go G H G2 H2 → u ⟨nx, Q, bk, ct⟩ σ H2) : tSeq (tIfS c (tRet te) tNext) u ⟨nx, Q, bk, ct⟩ σ H := ts_if h r k1 k2
theorem tq_set {i : Nat} (h : Ev b te σ G R) (r : Rel b G H) (k : ∀ v G2 H2, Go G H G2 H2 → R.p v G2 → u D (σ.set i (some v)) H2) : tSeq (tAsg te (gName i)) u D σ H := h.run r k
theorem tq_setN {i : Nat} {xs : List α} (h : EvN b te σ G e xs) (r : Rel b G H) (k : ∀ p G2 H2, Go G H G2 H2 → OwnL p e xs G2 H2 H → u D (σ.set i (some (.ref p))) H2) : tSeq (tAsg te (gName i)) u D σ H := EvN.own h r k
theorem tq_par {i j : Nat} {R1 R2 : SR} {tx ty : TE} (h1 : Ev b tx σ G R1) (h2 : Ev b ty σ G R2) (r : Rel b G H) (k : ∀ v w G2 H2, Go G H G2 H2 → R1.p v G2 → R2.p w G2 → u D ((σ.set i (some v)).set j (some w)) H2) : tSeq (tPar i j (tCons tx (tCons ty tNil))) u D σ H := ts_par (D := { D with nx := u D }) h1 h2 r k
theorem tq_each {wi : TI} {xs : List α} {g : TG} {tb : TS} (P : L2.St → Prop) (hP : P σ) (hi : EvI b wi σ G e xs) (r : Rel b G H)
    (hb : ∀ (i : Nat) (a : α), xs[i]? = some a → ∀ x G' H' σ' (D' : Ends), Same G G' → Rel b G' H' → (e a).p x G' → P σ' → D'.rt = D.rt → (∀ σ2 G2 H2, Go G' H' G2 H2 → P σ2 → D'.nx σ2 H2) → g x σ' H' fun σ2 H2 => tb D' σ2 H2)
    (hd : ∀ σ' G2 H2, Go G H G2 H2 → P σ' → u D σ' H2) : tSeq (tFor wi g tb) u D σ H := ts_each (D := { D with nx := u D }) P hP hi r hb hd
theorem tq_fill {wi : TI} {xs : List α} {g : TG} {tb : TS} {p : Addr} {er : γ → SR} {acc0 : List γ} {G0 H0 : Hp} (step : List γ → α → List γ) (P : L2.St → Prop) (hP : P σ) (o : OwnL p er acc0 G H H0) (g0 : Go G0 H0 G H) (hi : EvI b wi σ G e xs) (r0 : Rel b G0 H0)
    (hb : ∀ (i : Nat) (a : α), xs[i]? = some a → ∀ x G' H' σ' (D' : Ends), Same G G' → Rel b G' H' → (e a).p x G' → P σ' → Go G0 H0 G' H' → OwnL p er ((xs.take i).foldl step acc0) G' H' H0 → D'.rt = D.rt →
      (∀ σ2 G2 H2, Go G0 H0 G2 H2 → Same G' G2 → OwnL p er (step ((xs.take i).foldl step acc0) a) G2 H2 H0 → P σ2 → D'.nx σ2 H2) → g x σ' H' fun σ2 H2 => tb D' σ2 H2)
    (hd : ∀ σ' G2 H2, Go G0 H0 G2 H2 → Same G G2 → OwnL p er (xs.foldl step acc0) G2 H2 H0 → P σ' → u D σ' H2) : tSeq (tFor wi g tb) u D σ H := ts_fill (D := { D with nx := u D }) step P hP o g0 hi r0 hb hd
theorem tq_push {i : Nat} {p : Addr} {acc : List α} {G0 H0 : Hp} {a : α} (o : OwnL p e acc G H H0) (h : Ev b te σ G (e a)) (hv : σ[i]? = some (some (.ref p))) (hl : acc.length ≤ 100000) (r : Rel b G H) (g0 : Go G0 H0 G H)
    (k : ∀ G2 H2, Go G0 H0 G2 H2 → Same G G2 → OwnL p e (acc ++ [a]) G2 H2 H0 → u D σ H2) : tSeq (tDrop (tBM K "list" rAppend (tVar i) (tCons te tNil))) u D σ H := OwnL.push (D := { D with nx := u D }) o h hv hl r g0 k
theorem tq_ext {i : Nat} {p : Addr} {acc xs : List α} {G0 H0 : Hp} (o : OwnL p e acc G H H0) (h : EvN b te σ G e xs) (hv : σ[i]? = some (some (.ref p))) (hl : acc.length + xs.length ≤ 100000) (r : Rel b G H) (g0 : Go G0 H0 G H)
    (k : ∀ G2 H2, Go G0 H0 G2 H2 → Same G G2 → OwnL p e (acc ++ xs) G2 H2 H0 → u D σ H2) : tSeq (tDrop (tBM K "list" rExtend (tVar i) (tCons te tNil))) u D σ H := OwnL.ext (D := { D with nx := u D }) o h hv hl r g0 k
/-- for a in xs: if p(a): return v -/
theorem tq_search {wi : TI} {xs : List α} {g : TG} {tc : TT} {v : V} {p : α → Bool} {nx bk ct : L2.St → Hp → Prop} {Q : VK} (P : L2.St → Prop) (hP : P σ) (hi : EvI b wi σ G e xs) (r : Rel b G H)
    (hb : ∀ (i : Nat) (a : α), xs[i]? = some a → ∀ x G' σ', Same G G' → (e a).p x G' → P σ' → ∃ σ'', GTo b g x σ' G' σ'' ∧ P σ'' ∧ EvT b tc σ'' G' (p a))
    (h1 : xs.any p = true → ∀ G2 H2, Go G H G2 H2 → Q v H2) (h2 : xs.any p = false → ∀ σ' G2 H2, Go G H G2 H2 → P σ' → u ⟨nx, Q, bk, ct⟩ σ' H2) :
    tSeq (tFor wi g (tIfS tc (tRet (tC v)) tNext)) u ⟨nx, Q, bk, ct⟩ σ H := ts_search (D := ⟨u ⟨nx, Q, bk, ct⟩, Q, bk, ct⟩) P hP hi r hb h1 h2
end
end Gd
namespace Gd
open PySem PySem.Spec PyProof.Rows L2
section
variable {K : PySem.W.Frag} {b : Bool} {σ : L2.St} {G G' H : Hp} {t ta tb te tc : TE} {R R' : SR} {α β γ : Type} {e : α → SR} {f : β → SR} {D : Ends} {u : TS}
/-- some a with P -/
def ExR (P : α → Prop) (e : α → SR) : SR := ⟨fun u G => ∃ a, P a ∧ (e a).p u G, fun s ⟨a, h1, h2⟩ => ⟨a, h1, (e a).st s h2⟩⟩
theorem ts_for {wi : TI} {xs : List α} {g : TG} {tb : TS} {G0 H0 : Hp} (r0 : Rel b G0 H0) (g0 : Go G0 H0 G H) (Iv : Nat → L2.St → Hp → Hp → Prop) (hi : EvI b wi σ G e xs) (h0 : ∀ G2 H2, Go G0 H0 G2 H2 → Go G H G2 H2 → Iv 0 σ G2 H2)
    (hb : ∀ (i : Nat) (a : α), xs[i]? = some a → ∀ x σ' G' H' G2 H2 (D' : Ends), Iv i σ' G' H' → Go G0 H0 G' H' → Same G G' → Go G' H' G2 H2 → (e a).p x G2 → D'.rt = D.rt → D'.ct = D'.nx →
      (∀ σ2 G3 H3, Go G0 H0 G3 H3 → Same G2 G3 → Iv (i + 1) σ2 G3 H3 → D'.nx σ2 H3) → g x σ' H2 fun σ2 H3 => tb D' σ2 H3)
    (hd : ∀ σ' G' H', Iv xs.length σ' G' H' → Go G0 H0 G' H' → Same G G' → D.nx σ' H') : tFor wi g tb D σ H := by
  refine hi.run (g0.r _ r0) fun J G2 H2 g2 W => ?_
  refine for_go W (fun i σ' G' H' => Go G0 H0 G' H' ∧ Same G2 G' ∧ Iv i σ' G' H') ⟨G2, g0.trans g2, Same.refl _, h0 G2 H2 (g0.trans g2) g2⟩ (fun i σ' G' H' ⟨h1, h2, _⟩ => ⟨h2, h1.r _ r0⟩) ?_ ?_
  · rintro i a x σ' G' H' G3 H3 hx ⟨q1, q2, q3⟩ g3 pa
    exact hb i a hx x σ' G' H' G3 H3 _ q3 q1 (g2.g.trans q2) g3 pa rfl rfl fun σ2 G4 H4 g4 s4 p4 => ⟨G4, g4, q2.trans (g3.g.trans s4), p4⟩
  · rintro σ' G' H' ⟨q1, q2, q3⟩
    exact hd σ' G' H' q3 q1 (g2.g.trans q2)
theorem tq_for {wi : TI} {xs : List α} {g : TG} {tb : TS} {G0 H0 : Hp} (r0 : Rel b G0 H0) (g0 : Go G0 H0 G H) (Iv : Nat → L2.St → Hp → Hp → Prop) (hi : EvI b wi σ G e xs) (h0 : ∀ G2 H2, Go G0 H0 G2 H2 → Go G H G2 H2 → Iv 0 σ G2 H2)
    (hb : ∀ (i : Nat) (a : α), xs[i]? = some a → ∀ x σ' G' H' G2 H2 (D' : Ends), Iv i σ' G' H' → Go G0 H0 G' H' → Same G G' → Go G' H' G2 H2 → (e a).p x G2 → D'.rt = D.rt → D'.ct = D'.nx →
      (∀ σ2 G3 H3, Go G0 H0 G3 H3 → Same G2 G3 → Iv (i + 1) σ2 G3 H3 → D'.nx σ2 H3) → g x σ' H2 fun σ2 H3 => tb D' σ2 H3)
    (hd : ∀ σ' G' H', Iv xs.length σ' G' H' → Go G0 H0 G' H' → Same G G' → u D σ' H') : tSeq (tFor wi g tb) u D σ H := ts_for (D := { D with nx := u D }) r0 g0 Iv hi h0 hb hd
/-- a dict of our own, from texts -/
structure OwnK (p : Addr) (ks : List Str) (G H H0 : Hp) : Prop where
  n0 : H0 p = none
  nG : G p = none
  ex : ∃ kvs, H p = some (.dK kvs) ∧ kvs.map (·.1) = ks.map Sum.inr
theorem OwnK.go {p : Addr} {ks : List Str} {G H H0 G2 H2 : Hp} (o : OwnK p ks G H H0) (g : Go G H G2 H2) : OwnK p ks G2 H2 H0 := by
  obtain ⟨vs, h1, h2⟩ := o.ex
  exact ⟨o.n0, g.owned h1 o.nG, vs, g.h _ _ h1, h2⟩
theorem OwnK.evT {p : Addr} {ks : List Str} {tt : TT} {H0 : Hp} {c : Bool} (o : OwnK p ks G H H0) (hl : ks.length ≤ 100000) (r : Rel b G H) (h : ∀ G1, Same G G1 → (Ks ks).p (.ref p) G1 → EvT b tt σ G1 c) {Q : Bool → Hp → Prop} (k : ∀ G2 H2, Go G H G2 H2 → Q c H2) : tt σ H Q := by
  obtain ⟨vs, h1, h2⟩ := o.ex
  have hl2 : vs.length = ks.length := by
    have := congrArg List.length h2
    simpa using this
  exact (h _ (Same.new o.nG) ⟨p, vs, rfl, upd_same, by rw [hl2]; exact Nat.le_trans hl (by decide), h2⟩).lend r o.nG h1 fun G2 H2 g _ _ => k G2 H2 g
theorem OwnK.freeze {p : Addr} {ks : List Str} {G H G0 H0 : Hp} (o : OwnK p ks G H H0) (g0 : Go G0 H0 G H) (hl : ks.length ≤ 100000) : ∃ G2, Go G0 H0 G2 H ∧ Same G G2 ∧ (Ks ks).p (.ref p) G2 := by
  obtain ⟨vs, h1, h2⟩ := o.ex
  have hl2 : vs.length = ks.length := by
    have := congrArg List.length h2
    simpa using this
  exact ⟨upd G p (.dK vs), g0.give o.n0 o.nG h1, Same.new o.nG, p, vs, rfl, upd_same, by rw [hl2]; exact Nat.le_trans hl (by decide), h2⟩
/-- d[k] = v, k new -/
theorem OwnK.put {p : Addr} {ks : List Str} {G H G0 H0 : Hp} {k : Str} {v : V} (o : OwnK p ks G H H0) (g0 : Go G0 H0 G H) (hl : ks.length ≤ 100000) (hk : k ∉ ks) : ∃ H2, DPut H p (.str k) v H2 ∧ Go G0 H0 G H2 ∧ OwnK p (ks ++ [k]) G H2 H0 := by
  obtain ⟨vs, h1, h2⟩ := o.ex
  have hl2 : vs.length = ks.length := by
    have := congrArg List.length h2
    simpa using this
  have hn : (Sum.inr k : Key) ∉ vs.map (·.1) := by
    rw [h2]
    intro q
    obtain ⟨x, hx, e⟩ := List.mem_map.mp q
    exact hk (Sum.inr.inj e ▸ hx)
  refine ⟨_, DPut.k (k := Sum.inr k) h1 (by rw [hl2]; exact Nat.lt_of_le_of_lt hl (by decide)), g0.wr o.n0 o.nG, o.n0, o.nG, _, upd_same, ?_⟩
  rw [putK_new _ (valV_none hn), List.map_append, h2, List.map_append]
  rfl
end
end Gd

-- part Gd14
set_option Elab.async false
set_option linter.all false
set_option maxRecDepth 100000
set_option maxHeartbeats 2000000
/-! ### the rules, with the written part named -/
namespace Gd
open PySem PySem.Spec PyProof.Rows L2
section
variable {X : Cx} {K : PySem.W.Frag}
theorem nodup_take {α : Type} {xs : List α} (nd : xs.Nodup) {i : Nat} {x : α} (h : xs[i]? = some x) : x ∉ xs.take i := by
  intro hm
  have nd2 := nd
  rw [← List.take_append_drop i xs] at nd2
  refine (List.nodup_append.mp nd2).2.2 _ hm x ?_ rfl
  obtain ⟨hi, e⟩ := List.getElem?_eq_some_iff.mp h
  rw [List.drop_eq_getElem_cons hi, e]
  exact List.mem_cons_self ..
theorem op_inK  (hK : X.K = K := by rfl) : OpR X (compareOp .In) (rIn K false) := by
  subst hK
  exact op_in_seq
theorem op_notInK  (hK : X.K = K := by rfl) : OpR X (compareOp .NotIn) (rIn K true) := by
  subst hK
  exact op_notIn_seq
theorem op_inDK (hu : X.A.units + 65 < cLine) (hK : X.K = K := by rfl) : OpR X (compareOp .In) (rInD K) := by
  subst hK
  exact op_inD hu
theorem op_notInDK (hu : X.A.units + 65 < cLine) (hK : X.K = K := by rfl) : OpR X (compareOp .NotIn) (rNotInD K) := by
  subst hK
  exact op_notInD hu
theorem op_eqDK (hu : X.A.units + 64 < cLine) (hK : X.K = K := by rfl) : OpR X (compareOp .Eq) (rEqD K) := by
  subst hK
  exact op_eqD hu
theorem op_neDK (hu : X.A.units + 64 < cLine) (hK : X.K = K := by rfl) : OpR X (compareOp .NotEq) (rNeD K) := by
  subst hK
  exact op_neD hu
theorem op_catK  (hK : X.K = K := by rfl) : OpR X (binaryOp .Add) (rCatA K) := by
  subst hK
  exact op_catA
theorem op_repK  (hK : X.K = K := by rfl) : OpR X (binaryOp .Mult) (rRep1 K) := by
  subst hK
  exact op_rep1
theorem sl_qK (hK : X.K = K := by rfl) : SlR X (rSlA2 K) := by
  subst hK
  exact sl_qA
theorem sl_lK (hK : X.K = K := by rfl) : SlR X (rSlL K) := by
  subst hK
  exact sl_list
theorem ix_K (hK : X.K = K := by rfl) : IxR X (rIx K) := by
  subst hK
  exact ix_seq
theorem call_isiKK  (hK : X.K = K := by rfl) : CallR X (.builtin "isinstance") (rIsi K) := by
  subst hK
  exact call_isi
theorem call_isiTK  (hK : X.K = K := by rfl) : CallR X (.builtin "isinstance") (rIsiT K) := by
  subst hK
  exact call_isiT
theorem call_lenK  (hK : X.K = K := by rfl) : CallR X (.builtin "len") (rLen K) := by
  subst hK
  exact call_len_seq
theorem call_allK (hc : X.calm = true) (hK : X.K = K := by rfl) : CallR X (.builtin "all") (rAll K) := by
  subst hK
  exact cr_all hc
theorem call_anyK (hc : X.calm = true) (hK : X.K = K := by rfl) : CallR X (.builtin "any") (rAny K) := by
  subst hK
  exact cr_any hc
theorem call_srtK (hu : X.A.units + 64 < cLine) (hK : X.K = K := by rfl) : CallR X (.builtin "sorted") (rSrt K) := by
  subst hK
  exact cr_srt hu
theorem call_listK  (hK : X.K = K := by rfl) : CallR X (.type "list") (rListOf K) := by
  subst hK
  exact call_list_of
theorem call_tupK  (hK : X.K = K := by rfl) : CallR X (.type "tuple") (rTupOf K) := by
  subst hK
  exact call_tuple_of
variable {tg l e e2 o value : Expr} {tl te ta tv : TE} {t : TA} {p pos tpos apos cpos pos' p2 pos2 : Pos} {elts es : List Expr} {kk n : Nat} {tg' : TGs} {f name : Str} {T id : String} {r : V → List V → Hp → VK → Prop}
theorem pi_seqK (hl : PE X l tl) (hK : X.K = K := by rfl) : PI X tg l (iSeq K tl) := by
  subst hK
  exact pi_seq hl
theorem pi_enumK (hg : Gl X "enumerate") (hm : X.mg "enumerate" = none) (ha : PA X [e] t) (hs : starEach [e] X.env = [(false, eval e X.env)] := by rfl) (hK : X.K = K := by rfl) : PI X (.Tuple elts kk tpos) (.Call (.Name "enumerate" p) [e] [] pos) (iEnumA K t) := by
  subst hK
  exact pi_enumA hg hm ha hs
theorem pi_zipK (hg : Gl X "zip") (hm : X.mg "zip" = none) (ha : PA X [e, e2] t) (hs : starEach [e, e2] X.env = (false, eval e X.env) :: starEach [e2] X.env := by rfl) (hpl : (backTo pos (starEach [e2] X.env)).any (·.1) = false := by rfl) (hK : X.K = K := by rfl) : PI X (.Tuple elts kk tpos) (.Call (.Name "zip" p) [e, e2] [] pos) (RZ.iZipA K t) := by
  subst hK
  exact RZ.pi_zipA hg hm ha hs hpl
theorem pg_tupK (hc : X.calm = true) (h : PGs X es tg') (hn : (assignEach es X.env).length = n := by rfl) (hst : (assignEach es X.env).findIdx? (·.1) = none := by rfl) (hK : X.K = K := by rfl) : PG X (.Tuple es kk pos) (gTup K n tg') := by
  subst hK
  exact pg_tup hc h hn hst
theorem pg_unlK (hc : X.calm = true) (h : PGs X es tg') (hn : (assignEach es X.env).length = n := by rfl) (hst : (assignEach es X.env).findIdx? (·.1) = none := by rfl) (hK : X.K = K := by rfl) : PG X (.Tuple es kk pos) (gUnl K n tg') := by
  subst hK
  exact pg_unl hc h hn hst
theorem pg_seqK (hc : X.calm = true) (h : PGs X es tg') (hn : (assignEach es X.env).length = n := by rfl) (hst : (assignEach es X.env).findIdx? (·.1) = none := by rfl) (hK : X.K = K := by rfl) : PG X (.Tuple es kk pos) (fun v σ H Q => gTup K n tg' v σ H Q ∨ gUnl K n tg' v σ H Q) := by
  subst hK
  exact pg_seq hc h hn hst
theorem pe_fldK (he : PE X e ta) (hb : attributeBase e f X.env (eval e X.env) = eval e X.env) (hK : X.K = K := by rfl) : PE X (.Attribute e f pos) (tFld K ta f) := by
  subst hK
  exact pe_fld he hb
theorem ps_fldK (ha : PE X o ta) (hv : PE X value tv) (hs : swapsWith value (some (.Attribute o f pos')) pos.line X.env = pure false) (hK : X.K = K := by rfl) : PS X (.Assign [.Attribute o f pos'] value pos) (sFld K ta tv f) := by
  subst hK
  exact ps_fld ha hv hs
theorem pe_bmK (pa : PlainAttrs T) (slot : Slot T name id) (hty : typeOf (.builtin id) = pure (.type "method_descriptor")) (hm : MtR X id r) (ho : PE X o ta) (ha : PA X (e :: es) t)
    (hbase : attributeBase o name X.env (eval o X.env) = eval o X.env := by rfl)
    (hfew : ((backTo cpos (starEach (e :: es) X.env)).all (fun x => !x.1) && (backToKw cpos (keywordEach [] X.env)).all (fun x => x.1.isSome)
      && decide ((e :: es).length + ([] : List Keyword).length + (if ([] : List Keyword).isEmpty then 0 else 1) < 30)) = true := by rfl)
    (hline : (apos.endLine == cpos.line) = true := by rfl) (hs : starEach (e :: es) X.env = (false, eval e X.env) :: starEach es X.env := by rfl) (hplain : (backTo cpos (starEach es X.env)).any (·.1) = false := by rfl) (hK : X.K = K := by rfl) : PE X (.Call (.Attribute o name apos) (e :: es) [] cpos) (tBM K T r ta t) := by
  subst hK
  exact pe_bm pa slot hty hm ho ha hbase hfew hline hs hplain
theorem pa_starK (he : PE X e te) (hr : PA X es t) (hs : starEach (.Starred e p :: es) X.env = (true, eval e X.env) :: starEach es X.env := by rfl) (hK : X.K = K := by rfl) : PA X (.Starred e p :: es) (StX.tStar K te t) := by
  subst hK
  exact StX.pa_star he hr hs
end
end Gd

-- part P1
set_option Elab.async false
set_option linter.all false
set_option maxRecDepth 100000
set_option maxHeartbeats 2000000
namespace Gd
open PySem PySem.Spec PyProof.Rows L2
def topS (i : Nat) : Stmt := PySem.Challenge.pw_objections_k02_whole_answers_and_least.main.body.getD i (.Pass ⟨0, 0, 0, 0⟩)
structure Txt (K : PySem.W.Frag) (mg : Str → Option Value) (aL : Addr) : Prop where
  len : mg "len" = none
  all : mg "all" = none
  any : mg "any" = none
  sorted : mg "sorted" = none
  isinstance : mg "isinstance" = none
  list : mg "list" = none
  tuple : mg "tuple" = none
  dict : mg "dict" = none
  int : mg "int" = none
  bool : mg "bool" = none
  str : mg "str" = none
  zip : mg "zip" = none
  range : mg "range" = none
  enumerate : mg "enumerate" = none
  SMALL : ∃ u, mg "SMALL" = some u ∧ RelV (.str "abcdefghijklmnopqrstuvwxyz") u
  FIGURES : ∃ u, mg "FIGURES" = some u ∧ RelV (.str "0123456789") u
abbrev s_is_list : Stmt := topS 9
theorem sc_is_list : FnScope ["thing"] ["thing"] (defScope s_is_list) := ⟨rfl, rfl, rfl, by decide +kernel, rfl, by decide +kernel, by decide +kernel⟩
abbrev s_is_name : Stmt := topS 10
theorem sc_is_name : FnScope ["thing", "sign"] ["thing"] (defScope s_is_name) := ⟨rfl, rfl, rfl, by decide +kernel, rfl, by decide +kernel, by decide +kernel⟩
def small : Str := "abcdefghijklmnopqrstuvwxyz"
def figs : Str := "0123456789"
def isName (s : Str) : Bool := decide (0 < s.length) && decide (s.length ≤ 12) && (match s.cps.toList[0]? with | some c => decide (c ∈ small.cps.toList) | none => false) && s.cps.toList.all fun c => decide (c ∈ (small ++ figs).cps.toList)
section
variable {P : Program} {w : World} {K : PySem.W.Frag} {mg : Str → Option Value} {base : Heap} {aL : Addr}
def sp_is_list (K : PySem.W.Frag) : Sp := spF false (fun _ : Unit => [SqV K]) (fun _ => True) (fun _ => B true)
theorem ok_is_list (F : Fn K mg "is_list" s_is_list ["thing"]) (T : Txt K mg aL) : C8.Cal P w K mg base 1 "is_list" (sp_is_list K) [] := by
  refine cal_of F sc_is_list (fun vs H Q E h => spF_len h fun _ => rfl) (fun f cdv A outer s H vs Q E hr h => ?_)
  obtain ⟨_, G, v, rfl, r, _, hv, k⟩ := sp1 h fun _ => rfl
  refine ⟨_, (pss_one (ps_ret (pe_callB (call_isiTK (K := K)) rfl T.isinstance boot_isinstance (pa_cons (pv 0) (pa_cons (pe_tup (pa_cons (pe_bltn (v := .ty "list") rfl T.list boot_list rfl) (pa_cons (pe_bltn (v := .ty "tuple") rfl T.tuple boot_tuple rfl) pa_nil))) pa_nil))))), ?_⟩
  exact ts_ret (ev_isiV (ev_var rfl hv)) r k
def sp_is_name : Sp := spF false (fun s : Str => [S s]) (fun s => isName s = true) (fun _ => B true)
theorem ok_is_name (F : Fn K mg "is_name" s_is_name ["thing"]) (T : Txt K mg aL) : C8.Cal P w K mg base 1 "is_name" sp_is_name [] := by
  refine cal_of F sc_is_name (fun vs H Q E h => spF_len h fun _ => rfl) (fun f cdv A outer s H vs Q E hr h => ?_)
  obtain ⟨x, G, v, rfl, r, hx, hv, k⟩ := sp1 h fun _ => rfl
  refine ⟨_, (pss_cons (ps_if (PW.pt (pw_or (pt_not (pt_val (pe_callB (call_isiKK (K := K)) rfl T.isinstance boot_isinstance (pa_cons (pv 0) (pa_cons (pe_bltn (v := .ty "str") rfl T.str boot_str rfl) pa_nil))))) (pw_or (pt_not (pt_chain op_lt op_le pe_int (pe_callB call_len_str rfl T.len PySem.boot_len (pa_cons (pv 0) pa_nil)) pe_int)) (pw_or1 (pt_cmpR op_notInSg (pe_ix (ix_K (K := K)) (pv 0) pe_int (fun _ _ => rfl)) (C8.pe_gc rfl T.SMALL) (by with_unfolding_all rfl)))))) (pss_one (ps_ret pe_bl)) pss_nil)
      (pss_one (ps_ret (pe_callB (call_allK (K := K) rfl) rfl T.all boot_all (pa_cons (pe_lc (own := [("sign", 1)]) rfl sc_is_name.nd (pi_str (pv 0)) (blkOk_by (by kernel_rfl)) (fun _ _ _ _ _ => (pg_name (i := 1) sc_is_name.nd rfl (by first | exact Or.inl rfl | exact Or.inr rfl))) (fun _ _ _ _ _ => pts_nil) (fun _ _ _ _ _ => (pe_cmpR op_inSg (pv 1) (pe_op op_add_str (C8.pe_gc rfl T.SMALL) (C8.pe_gc rfl T.FIGURES)) (by with_unfolding_all rfl)))) pa_nil))))), ?_⟩
  unfold isName at hx
  simp only [Bool.and_eq_true, decide_eq_true_eq] at hx
  obtain ⟨⟨⟨h1, h2⟩, h3⟩, h4⟩ := hx
  obtain ⟨c, hc, h3⟩ : ∃ c, x.cps.toList[0]? = some c ∧ c ∈ small.cps.toList := by
    cases q : x.cps.toList[0]? with
    | none => rw [q] at h3; cases h3
    | some c => rw [q] at h3; exact ⟨c, rfl, of_decide_eq_true h3⟩
  refine tq_ifF (EvT.eq (et_or (et_not (et_B (ev_isi (r := true) (ev_var rfl hv) hty_S))) fun _ => et_or (et_not (et_test (ev_chain ev_int (ev_lenS (ev_var rfl hv)) ev_int))) fun _ => et_test (ev_notinSign (ev_ixS (ev_var rfl hv) ev_int rfl hc) ev_str)) ?_) r fun G2 H2 g => ?_
  · have e1 : decide ((0 : Int) < ((x.length : Nat) : Int)) = true := by simpa using h1
    have e2 : decide (((x.length : Nat) : Int) ≤ (12 : Int)) = true := by
      rw [decide_eq_true_eq]; omega
    have e3 : decide (c ∈ (Str.ofString "abcdefghijklmnopqrstuvwxyz").cps.toList) = true := decide_eq_true h3
    rw [e1, e2, e3]
    rfl
  · refine ts_ret (Ev.eq (ev_allL (en_map (ei_str (ev_var rfl ((S x).st g.g hv))) fun c hc y G' _ hy => ⟨_, gto_name, rfl, ev_inSign (ev_var rfl hy) (ev_catS ev_str ev_str (by decide +kernel) (by decide +kernel))⟩)) ?_) (g.r _ r) fun u G3 H3 g3 p => k u G3 H3 (g.trans g3) p
    exact congrArg B h4
/-! rules as they are passed -/
def Ru (K : PySem.W.Frag) (p : Str × List Str × List Str) : SR := ⟨fun u G => ∃ a v w z, u = .ref a ∧ (G a = some (.lst [v, w, z]) ∨ SqT K G a [v, w, z]) ∧ (S p.1).p v G ∧ (Sq K S p.2.1).p w G ∧ (Sq K S p.2.2).p z G,
  fun s ⟨a, v, w, z, h1, h2, h3, h4, h5⟩ => ⟨a, v, w, z, h1, h2.elim (fun h => .inl (s _ _ h)) fun h => .inr ((Rel.sq s).seqT h), (S _).st s h3, (Sq K S _).st s h4, (Sq K S _).st s h5⟩⟩
abbrev RT (K : PySem.W.Frag) : Str × List Str × List Str → SR := Tr K S (Tpl K S) (Tpl K S)
theorem ru_of {p : Str × List Str × List Str} {u : V} {G : Hp} (h : (RT K p).p u G) : (Ru K p).p u G := by
  obtain ⟨a, v, w, z, h1, h2, h3, h4, h5⟩ := h
  exact ⟨a, v, w, z, h1, .inr h2, h3, .inr h4, .inr h5⟩
section
variable {b : Bool} {σ : L2.St} {G H : Hp} {te : TE} {p : Str × List Str × List Str}
theorem Ru.seq {u : V} (r : Rel b G H) (h : (Ru K p).p u G) : ∃ a v w z, u = .ref a ∧ (SqL K H a [v, w, z] ∨ SqT K H a [v, w, z]) ∧ (S p.1).p v G ∧ (Sq K S p.2.1).p w G ∧ (Sq K S p.2.2).p z G := by
  obtain ⟨a, v, w, z, h1, h2, h3⟩ := h
  exact ⟨a, v, w, z, h1, h2.elim (fun h => .inl (r.seqL (SqL.of h))) fun h => .inr (r.seqT h), h3⟩
theorem ev_ruLen (h : Ev b te σ G (Ru K p)) : Ev b (tCB (rLen K) (tCons te tNil)) σ G (I 3) := ev_cb (ea_cons h ea_nil) fun vs G1 H1 a r al Q k => by
  obtain ⟨u, rfl, hu⟩ := alr1 al
  obtain ⟨a, v, w, z, rfl, h1, _⟩ := Ru.seq r hu
  exact ⟨a, _, rfl, h1, k _ G1 H1 (Go.refl _ _) rfl⟩
theorem ev_ru0 (h : Ev b te σ G (Ru K p)) : Ev b (tOp (rIx K) te (tC (.int 0))) σ G (S p.1) := ev_opP h ev_int fun u v G1 H1 _ r hu q => by
  obtain rfl : v = _ := q
  obtain ⟨a, v, w, z, rfl, h1, h2, h3, h4⟩ := Ru.seq r hu
  exact ⟨v, h2, fun Q hQ => h1.elim (fun h => .inl ⟨a, _, _, v, rfl, rfl, h, rfl, hQ⟩) fun h => .inr (.inl ⟨a, _, _, v, rfl, rfl, h, rfl, hQ⟩)⟩
theorem ev_ru1 (h : Ev b te σ G (Ru K p)) : Ev b (tOp (rIx K) te (tC (.int 1))) σ G (Sq K S p.2.1) := ev_opP h ev_int fun u v G1 H1 _ r hu q => by
  obtain rfl : v = _ := q
  obtain ⟨a, v, w, z, rfl, h1, h2, h3, h4⟩ := Ru.seq r hu
  exact ⟨w, h3, fun Q hQ => h1.elim (fun h => .inl ⟨a, _, _, w, rfl, rfl, h, rfl, hQ⟩) fun h => .inr (.inl ⟨a, _, _, w, rfl, rfl, h, rfl, hQ⟩)⟩
theorem ev_ru2 (h : Ev b te σ G (Ru K p)) : Ev b (tOp (rIx K) te (tC (.int 2))) σ G (Sq K S p.2.2) := ev_opP h ev_int fun u v G1 H1 _ r hu q => by
  obtain rfl : v = _ := q
  obtain ⟨a, v, w, z, rfl, h1, h2, h3, h4⟩ := Ru.seq r hu
  exact ⟨z, h4, fun Q hQ => h1.elim (fun h => .inl ⟨a, _, _, z, rfl, rfl, h, rfl, hQ⟩) fun h => .inr (.inl ⟨a, _, _, z, rfl, rfl, h, rfl, hQ⟩)⟩
theorem gto_ru {u : V} {i j k : Nat} (h : (Ru K p).p u G) : ∃ v w z, (S p.1).p v G ∧ (Sq K S p.2.1).p w G ∧ (Sq K S p.2.2).p z G ∧
    GTo b (fun v σ H Q => gTup K 3 (gCons (gName i) (gCons (gName j) (gCons (gName k) gNil))) v σ H Q ∨ gUnl K 3 (gCons (gName i) (gCons (gName j) (gCons (gName k) gNil))) v σ H Q) u σ G (((σ.set i (some v)).set j (some w)).set k (some z)) := by
  obtain ⟨a, v, w, z, rfl, h1, h2, h3, h4⟩ := h
  exact ⟨v, w, z, h2, h3, h4, h1.elim (fun h => gto_or2 (gto_unl3 h)) fun h => gto_or1 (gto_tup3 h)⟩
end
theorem ruv_of {p : Str × List Str × List Str} {u : V} {G : Hp} (h : (Ru K p).p u G) : (SqV K).p u G := by
  obtain ⟨a, v, w, z, h1, h2, _⟩ := h
  exact ⟨a, _, h1, h2⟩
def sp_checked_claims (K : PySem.W.Frag) : Sp := spF false (fun xs : List Str => [Sq K S xs]) (fun xs => (∀ x ∈ xs, isName x = true) ∧ xs.Nodup) (fun xs => Lst S (srt PyData.str xs))
def sp_are_claims (K : PySem.W.Frag) : Sp := spF true (fun i : List Str × List Str => [Sq K S i.1, Sq K S i.2]) (fun i => i.1.Nodup ∧ ∀ x ∈ i.1, x ∈ i.2) (fun _ => B true)
def goodR (cs : List Str) (p : Str × List Str × List Str) : Prop := p.1 ∈ cs ∧ (p.2.1.Nodup ∧ ∀ x ∈ p.2.1, x ∈ cs) ∧ p.2.2.Nodup ∧ ∀ x ∈ p.2.2, x ∈ cs
def sp_is_rule (K : PySem.W.Frag) : Sp := spF true (fun i : (Str × List Str × List Str) × List Str => [Ru K i.1, Sq K S i.2]) (fun i => goodR i.2 i.1) (fun _ => B true)
def norm (p : Str × List Str × List Str) : Str × List Str × List Str := (p.1, srt PyData.str p.2.1, srt PyData.str p.2.2)
def sp_checked_rules (K : PySem.W.Frag) : Sp := spF true (fun i : List (Str × List Str × List Str) × List Str => [Sq K (Ru K) i.1, Sq K S i.2]) (fun i => ∀ p ∈ i.1, goodR i.2 p) (fun i => Lst (RT K) (i.1.map norm))
end
end Gd

-- part P2
set_option Elab.async false
set_option linter.all false
set_option maxRecDepth 100000
set_option maxHeartbeats 2000000
namespace Gd
open PySem PySem.Spec PyProof.Rows L2
section
variable {P : Program} {w : World} {K : PySem.W.Frag} {mg : Str → Option Value} {base : Heap} {aL : Addr}
/-- the class Rules -/
structure RCls (K : PySem.W.Frag) (C : Addr) : Prop where
  cl : Cls K C
  nC : NoAttr K C "own_claims"
  nT : NoAttr K C "own_triples"
abbrev Rule := Str × List Str × List Str
/-- an instance of it -/
def RU (K : PySem.W.Frag) (C : Addr) (i : List Str × List Rule) : SR := ⟨fun u G => ∃ a dx fs y z, u = .ref a ∧ G a = some (.ins C dx fs) ∧ fs.lookup ("own_claims" : Str) = some y ∧ (Lst S i.1).p y G ∧ fs.lookup ("own_triples" : Str) = some z ∧ (Lst (RT K) i.2).p z G,
  fun s ⟨a, dx, fs, y, z, h1, h2, h3, h4, h5, h6⟩ => ⟨a, dx, fs, y, z, h1, s _ _ h2, h3, (Lst S _).st s h4, h5, (Lst (RT K) _).st s h6⟩⟩
theorem lst_ru {rs : List Rule} {u : V} {G : Hp} (h : (Lst (RT K) rs).p u G) : (Sq K (Ru K) rs).p u G := by
  obtain ⟨a, vs, h1, h2, h3, h4⟩ := h
  refine .inl ⟨a, vs, h1, h2, h3, ?_⟩
  have := Al.conv (f := Ru K) (c := fun p => p) (fun a v h => ru_of h) h4
  rwa [List.map_id'] at this
section
variable {b : Bool} {σ : L2.St} {G H : Hp} {te : TE} {C : Addr} {i : List Str × List Rule}
theorem ev_ruC (T : RCls K C) (h : Ev b te σ G (RU K C i)) : Ev b (tFld K te "own_claims") σ G (Lst S i.1) := ev_fld h T.cl T.nC fun u G' ⟨a, dx, fs, y, z, h1, h2, h3, h4, h5, h6⟩ => ⟨a, dx, fs, y, h1, h2, h3, h4⟩
theorem ev_ruT (T : RCls K C) (h : Ev b te σ G (RU K C i)) : Ev b (tFld K te "own_triples") σ G (Lst (RT K) i.2) := ev_fld h T.cl T.nT fun u G' ⟨a, dx, fs, y, z, h1, h2, h3, h4, h5, h6⟩ => ⟨a, dx, fs, z, h1, h2, h5, h6⟩
end
def okU (i : List Str × List Rule) : Prop := ((∀ x ∈ i.1, isName x = true) ∧ i.1.Nodup) ∧ ∀ p ∈ i.2, goodR i.1 p
def mkU (i : List Str × List Rule) : List Str × List Rule := (srt PyData.str i.1, i.2.map norm)
def sp_init (K : PySem.W.Frag) (C : Addr) : Sp := fun vs H Q _ => ∃ (i : List Str × List Rule) (G H0 : Hp) (p dx : Addr) (v w : V), vs = [.ref p, v, w] ∧ Rel true G H0 ∧ Go G H0 G H ∧ H0 p = none ∧ G p = none ∧ H p = some (.ins C dx []) ∧ okU i ∧ (Sq K S i.1).p v G ∧ (Sq K (Ru K) i.2).p w G ∧
  ∀ G2 H2, Go G H0 G2 H2 → (RU K C (mkU i)).p (.ref p) G2 → Q .non H2
theorem kc : ¬ (("own_claims" : Str) = "own_triples") := by decide +kernel
theorem goodR_srt {cs : List Str} {p : Rule} (h : goodR cs p) : goodR (srt PyData.str cs) p := ⟨mem_srt.mpr h.1, ⟨h.2.1.1, fun x hx => mem_srt.mpr (h.2.1.2 x hx)⟩, h.2.2.1, fun x hx => mem_srt.mpr (h.2.2.2 x hx)⟩
theorem ev_mkU {C : Addr} {b : Bool} {σ : L2.St} {G : Hp} {ta : TA} {E : XK} {i : List Str × List Rule} (ha : EvA true ta σ G [Sq K S i.1, Sq K (Ru K) i.2]) (hi : okU i) : Ev true (tMake C (sp_init K C) [] E ta) σ G (RU K C (mkU i)) := fun G1 H1 a r Q k =>
  ha G1 H1 a r _ fun vs G2 H2 g al => by
    obtain ⟨v, w, rfl, hv, hw⟩ := alr2 al
    intro x dx nx ndx hne
    have r2 := g.r _ r
    refine ⟨i, G2, H2, x, dx, v, w, rfl, r2, Go.made r2 nx ndx, nx, r2.free nx, upd_same, hi, hv, hw, fun G3 H3 g3 hu => ⟨rfl, ?_⟩⟩
    exact k _ G3 H3 (g.trans g3) hu
def sp_with_rules (K : PySem.W.Frag) (C : Addr) : Sp := spF true (fun i : (List Str × List Rule) × List Rule => [RU K C i.1, Sq K (Ru K) i.2]) (fun i => okU i.1 ∧ (∀ p ∈ i.2, goodR i.1.1 p) ∧ i.1.2.length + i.2.length ≤ 100000) (fun i => RU K C (mkU (i.1.1, i.1.2 ++ i.2.map norm)))
theorem goodR_norm {cs : List Str} {p : Rule} (h : goodR cs p) : goodR cs (norm p) := ⟨h.1, ⟨srt_nodup.mpr h.2.1.1, fun x hx => h.2.1.2 x (mem_srt.mp hx)⟩, srt_nodup.mpr h.2.2.1, fun x hx => h.2.2.2 x (mem_srt.mp hx)⟩
def viol (h t : List Str) (p : Rule) : Bool := !decide (p.1 ∈ h) && (p.2.1.all (fun x => decide (x ∈ h)) && !(p.2.2.any fun x => decide (x ∈ t)))
def sp_keeps (K : PySem.W.Frag) : Sp := spF false (fun i : List Rule × List Str × List Str => [Lst (RT K) i.1, Sq K S i.2.1, Sq K S i.2.2]) (fun _ => True) (fun i => B (!i.1.any (viol i.2.1 i.2.2)))
/-! all lots -/
def lots (cs : List Str) : List (List Str) := cs.foldl (fun acc c => acc ++ acc.map fun l => l ++ [c]) [[]]
theorem lots_len (cs : List Str) : (lots cs).length = 2 ^ cs.length := by
  unfold lots
  suffices h : ∀ acc : List (List Str), (cs.foldl (fun acc c => acc ++ acc.map fun l => l ++ [c]) acc).length = acc.length * 2 ^ cs.length by
    simpa using h [[]]
  induction cs with
  | nil => intro acc; simp
  | cons c cs ih =>
    intro acc
    rw [List.foldl_cons, ih, List.length_append, List.length_map, List.length_cons, Nat.pow_succ, ← Nat.mul_two, Nat.mul_assoc, Nat.mul_comm 2]
theorem lots_snoc (cs : List Str) (c : Str) : lots (cs ++ [c]) = lots cs ++ (lots cs).map fun l => l ++ [c] := by
  unfold lots
  rw [List.foldl_append]
  rfl
theorem snoc_ind {α : Type} {p : List α → Prop} (h0 : p []) (hs : ∀ xs x, p xs → p (xs ++ [x])) (xs : List α) : p xs := by
  have : ∀ ys : List α, p ys.reverse := by
    intro ys
    induction ys with
    | nil => exact h0
    | cons y ys ih => rw [List.reverse_cons]; exact hs _ _ ih
  simpa using this xs.reverse
theorem sublist_snoc {α : Type} {l xs : List α} {x : α} : l.Sublist (xs ++ [x]) ↔ l.Sublist xs ∨ ∃ m, m.Sublist xs ∧ l = m ++ [x] := by
  constructor
  · intro h
    obtain ⟨a, b, rfl, h1, h2⟩ := List.sublist_append_iff.mp h
    cases h2 with
    | cons _ h2 => cases h2; left; simpa using h1
    | cons_cons _ h2 => cases h2; exact .inr ⟨a, h1, rfl⟩
  · rintro (h | ⟨m, h, rfl⟩)
    · exact h.trans (List.sublist_append_left xs [x])
    · exact List.Sublist.append h (List.Sublist.refl _)
theorem mem_lots {cs l : List Str} : l ∈ lots cs ↔ l.Sublist cs := by
  revert l
  induction cs using snoc_ind with
  | h0 => intro l; simp [lots]
  | hs xs x ih =>
    intro l
    rw [lots_snoc, List.mem_append, sublist_snoc, ih, List.mem_map]
    exact or_congr Iff.rfl ⟨fun ⟨m, h1, h2⟩ => ⟨m, ih.mp h1, h2.symm⟩, fun ⟨m, h1, h2⟩ => ⟨m, ih.mpr h1, h2.symm⟩⟩
abbrev cT : List Str → PyData := fun xs => .tuple (xs.map PyData.str)
theorem pow_le {n : Nat} (h : n ≤ 12) : 2 ^ n ≤ 4096 := Nat.le_trans (Nat.pow_le_pow_right (by decide) h) (by decide)
def sp_lots (K : PySem.W.Frag) : Sp := spF false (fun cs : List Str => [Sq K S cs]) (fun cs => cs.length ≤ 12) (fun cs => Lst (Tpl K S) (srt cT (lots cs)))
end
end Gd

-- part Gd15
set_option Elab.async false
set_option linter.all false
set_option maxRecDepth 100000
set_option maxHeartbeats 2000000
/-! ### [f(a, c) for a in xs for c in ys] -/
namespace Gd
open PySem PySem.Spec PyProof.Rows L2
section
variable {K : PySem.W.Frag} {b : Bool} {σ : L2.St} {G G' H : Hp} {t ta tb te tc : TE} {R R' : SR} {α β γ : Type} {e : α → SR} {f : β → SR}
theorem flat_len {α β : Type} (f : α → List β) {xs : List α} {i : Nat} {a : α} (h : xs[i]? = some a) : ((xs.take i).flatMap f).length + (f a).length ≤ (xs.flatMap f).length := by
  obtain ⟨hi, e⟩ := List.getElem?_eq_some_iff.mp h
  have : xs = xs.take i ++ a :: xs.drop (i + 1) := by
    rw [← e, ← List.drop_eq_getElem_cons hi, List.take_append_drop]
  have e2 : (xs.flatMap f).length = ((xs.take i).flatMap f).length + ((f a).length + ((xs.drop (i + 1)).flatMap f).length) := by
    conv => lhs; rw [this]
    rw [List.flatMap_append, List.flatMap_cons, List.length_append, List.length_append]
  omega
theorem en_lc2 {wi wi1 : TI} {xs : List α} {ys : α → List β} {g g1 : TG} {vs vs1 : List Nat} {er : γ → SR} {fn : α → β → γ} (hi : EvI b wi σ G e xs)
    (hz : (xs.flatMap fun a => (ys a).map (fn a)).length ≤ 100000)
    (hb : ∀ a, a ∈ xs → ∀ x G', Same G G' → (e a).p x G' → ∃ σ', GTo b g x (wipe σ vs) G' σ' ∧ wipe σ' vs = wipe σ vs ∧ EvI b wi1 σ' G' f (ys a) ∧
      ∀ c, c ∈ ys a → ∀ y G2, Same G' G2 → (f c).p y G2 → ∃ σ2, GTo b g1 y (wipe σ' vs1) G2 σ2 ∧ wipe σ2 vs1 = wipe σ' vs1 ∧ Ev b te σ2 G2 (er (fn a c))) :
    EvN b (tLc2 wi g tYes wi1 g1 tYes te vs vs1) σ G er (xs.flatMap fun a => (ys a).map (fn a)) := fun G1 H1 a r Q k => by
  refine hi G1 H1 a r _ fun J G2 H2 g2 W D hD => ?_
  have rel := g2.r _ r
  have F : α → List γ := fun a => (ys a).map (fn a)
  refine ⟨fun i m H => m = xs.length - i ∧ i ≤ xs.length ∧ ∃ G' acc, Go G2 H2 G' H ∧ G' D = none ∧ H D = some (.lst acc) ∧ Al er ((xs.take i).flatMap fun a => (ys a).map (fn a)) acc G', ⟨xs.length, rfl, Nat.zero_le _, G2, [], Go.own rel hD, rel.free hD, upd_same, .nil⟩, ?_⟩
  rintro i m H ⟨rfl, hi2, G', acc, g3, nD, hk, al⟩
  by_cases hlt : i < xs.length
  · refine .inr ⟨W.goes i G' H hlt g3.g (g3.r _ rel) trivial, fun H' => ∃ G' acc, Go G2 H2 G' H' ∧ G' D = none ∧ H' D = some (.lst acc) ∧ Al er ((xs.take (i + 1)).flatMap fun a => (ys a).map (fn a)) acc G', fun H' h' => ⟨xs.length - (i + 1), by omega, rfl, hlt, h'⟩, fun x H' y => ?_⟩
    have hxi : xs[i]? = some xs[i] := List.getElem?_eq_getElem hlt
    have hfl := flat_len (fun a => (ys a).map (fn a)) hxi
    obtain ⟨G4, g4, pa⟩ := W.yields i xs[i] G' H x H' hxi g3.g (g3.r _ rel) trivial y
    have gA := g3.trans g4
    have hD4 : H' D = some (.lst acc) := g4.h _ _ hk
    have nD4 : G4 D = none := g4.owned hk nD
    have al4 := al.st g4.g
    have ets : (xs.take (i + 1)).flatMap (fun a => (ys a).map (fn a)) = ((xs.take i).flatMap fun a => (ys a).map (fn a)) ++ (ys xs[i]).map (fn xs[i]) := by
      rw [take_succ hxi, List.flatMap_append]
      simp
    rw [ets]
    generalize xs[i] = a0 at pa hfl hxi ets
    obtain ⟨σ', h1, h2, h3, h4⟩ := hb a0 (List.mem_of_getElem? hxi) x G4 ((a.trans g2.g).trans gA.g) pa
    refine h1 H' (gA.r _ rel) _ ⟨h2, ?_⟩
    refine h3 G4 H' (Same.refl _) (gA.r _ rel) _ fun J1 G5 H5 g5 W1 => ?_
    refine ⟨fun j m H => m = (ys a0).length - j ∧ j ≤ (ys a0).length ∧ ∃ G' acc', Same G4 G' ∧ Same G5 G' ∧ Go G2 H2 G' H ∧ G' D = none ∧ H D = some (.lst acc') ∧ Al er (((xs.take i).flatMap fun a => (ys a).map (fn a)) ++ ((ys a0).take j).map (fn a0)) acc' G',
      ⟨(ys a0).length, rfl, Nat.zero_le _, G5, acc, g5.g, Same.refl _, gA.trans g5, g5.owned hD4 nD4, g5.h _ _ hD4, by simpa using al4.st g5.g⟩, ?_⟩
    rintro j m2 H6 ⟨rfl, hj, G6, acc6, s46, s56, g6, nD6, hD6, al6⟩
    have rel6 := g6.r _ rel
    by_cases hjl : j < (ys a0).length
    · refine .inr ⟨W1.goes j G6 H6 hjl s56 rel6 trivial, fun H' => ∃ G' acc', Same G4 G' ∧ Same G5 G' ∧ Go G2 H2 G' H' ∧ G' D = none ∧ H' D = some (.lst acc') ∧ Al er (((xs.take i).flatMap fun a => (ys a).map (fn a)) ++ ((ys a0).take (j + 1)).map (fn a0)) acc' G', fun H' h' => ⟨(ys a0).length - (j + 1), by omega, rfl, hjl, h'⟩, fun x1 H7 y1 => ?_⟩
      have hyj : (ys a0)[j]? = some (ys a0)[j] := List.getElem?_eq_getElem hjl
      obtain ⟨G7, g7, pc⟩ := W1.yields j (ys a0)[j] G6 H6 x1 H7 hyj s56 rel6 trivial y1
      obtain ⟨σ2, k1, k2, k3⟩ := h4 (ys a0)[j] (List.getElem_mem hjl) x1 G7 (s46.trans g7.g) pc
      have g67 := g6.trans g7
      refine k1 H7 (g67.r _ rel) _ ⟨k2, ?_⟩
      show te σ2 H7 _
      refine k3.run (g67.r _ rel) fun u G8 H8 g8 pu => ?_
      have D8 : H8 D = some (.lst acc6) := g8.h _ _ (g7.h _ _ hD6)
      have n8 : G8 D = none := g8.owned (g7.h _ _ hD6) (g7.owned hD6 nD6)
      have hlen : acc6.length < sizeLine := by
        have e1 := al6.len
        rw [List.length_append, List.length_map, List.length_take] at e1
        rw [List.length_map] at hfl
        have : sizeLine = 16777216 := sizeLine_eq
        omega
      refine ⟨acc6, D8, hlen, G8, acc6 ++ [u], (s46.trans g7.g).trans g8.g, (s56.trans g7.g).trans g8.g, (g67.trans g8).wr hD n8, n8, upd_same, ?_⟩
      rw [take_succ hyj, List.map_append, ← List.append_assoc]
      exact (al6.st (g7.g.trans g8.g)).snoc pu
    · have e : j = (ys a0).length := by omega
      subst e
      rw [List.take_length] at al6
      exact .inl ⟨W1.stops G6 H6 s56 rel6 trivial, G6, acc6, g6, nD6, hD6, al6⟩
  · have e : i = xs.length := by omega
    subst e
    rw [List.take_length] at al
    refine .inl ⟨W.stops G' H g3.g (g3.r _ rel) trivial, k D acc G' H (g2.trans g3) (g2.free hD) nD hk ?_ al⟩
    rw [al.len]
    exact Nat.le_trans hz (by decide)
end
section
variable {X : Cx} {K : PySem.W.Frag}
theorem pe_dictZipK {e e2 : Expr} {ta : TA} {p pos p2 pos2 : Pos} (hc : X.calm = true) (hg : Gl X "dict") (hm : X.mg "dict" = none) (hg2 : Gl X "zip") (hm2 : X.mg "zip" = none) (ha : PA X [e, e2] ta)
    (hs : starEach [e, e2] X.env = (false, eval e X.env) :: starEach [e2] X.env := by rfl) (hpl : (backTo pos2 (starEach [e2] X.env)).any (·.1) = false := by rfl)
    (hs2 : starEach [.Call (.Name "zip" p2) [e, e2] [] pos2] X.env = (false, eval (.Call (.Name "zip" p2) [e, e2] [] pos2) X.env) :: starEach [] X.env := by rfl) (hK : X.K = K := by rfl) :
    PE X (.Call (.Name "dict" p) [.Call (.Name "zip" p2) [e, e2] [] pos2] [] pos) (tDictZip K ta) := by
  subst hK
  exact pe_dictZip hc hg hm hg2 hm2 ha hs hpl hs2
end
end Gd

-- part Gd16
set_option Elab.async false
set_option linter.all false
set_option maxRecDepth 100000
set_option maxHeartbeats 1000000
/-! ### a stream that is written: two objects, s and c, change; all else stays -/
namespace Gd
open PySem PySem.Spec PyProof.Rows L2
universe u
structure GoS (s c : Addr) (G H G2 H2 : Hp) : Prop where
  g : Same G G2
  h : ∀ a o, a ≠ s → a ≠ c → H a = some o → H2 a = some o
  r0 : ∀ a o, G a = none → G2 a = some o → H2 a = some o
  n : ∀ a o, H a = some o → G2 a = G a
  t : ∀ a o, G a = none → G2 a = some o → isTb o = false
/-- the stream stands at s, its cells at c; at most n draws so far -/
structure Dr (s c : Addr) (n : Nat) (G H : Hp) : Prop where
  ne : s ≠ c
  gs : G s = none
  gc : G c = none
  ex : ∃ (cells : List Int) (a m : Int) (cnt : Nat), H s = some (.lst [.ref c, .int a, .int cnt, .int m]) ∧ H c = some (.lst (cells.map V.int)) ∧ 0 ≤ a ∧ cnt ≤ n ∧ 0 ≤ m ∧ m < 2147483647 ∧ cells.length ≤ 63
section
variable {s c : Addr} {G H G2 H2 G3 H3 : Hp}
theorem Go.st (k : Go G H G2 H2) : GoS s c G H G2 H2 := ⟨k.g, fun a o _ _ e => k.h a o e, k.r0, k.n, k.t⟩
theorem Dr.hs {n : Nat} (d : Dr s c n G H) : ∃ o, H s = some o := by obtain ⟨_, _, _, _, h, _⟩ := d.ex; exact ⟨_, h⟩
theorem Dr.hc {n : Nat} (d : Dr s c n G H) : ∃ o, H c = some o := by obtain ⟨_, _, _, _, _, h, _⟩ := d.ex; exact ⟨_, h⟩
theorem Dr.le {n m : Nat} (d : Dr s c n G H) (h : n ≤ m) : Dr s c m G H := by
  obtain ⟨h1, h2, h3, cells, a, mm, cnt, e1, e2, e3, e4, e5⟩ := d
  exact ⟨h1, h2, h3, cells, a, mm, cnt, e1, e2, e3, Nat.le_trans e4 h, e5⟩
theorem Dr.go {n : Nat} (d : Dr s c n G H) (g : Go G H G2 H2) : Dr s c n G2 H2 := by
  obtain ⟨h1, h2, h3, cells, a, mm, cnt, e1, e2, e⟩ := d
  exact ⟨h1, g.owned e1 h2, g.owned e2 h3, cells, a, mm, cnt, g.h _ _ e1, g.h _ _ e2, e⟩
theorem GoS.r (k : GoS s c G H G2 H2) (hs : G s = none) (hc : G c = none) (b : Bool) (r : Rel b G H) : Rel b G2 H2 := fun a o e => by
  cases q : G a with
  | none => exact .inl (k.r0 a o q e)
  | some u =>
    have ns : a ≠ s := fun z => by rw [z, hs] at q; cases q
    have nc : a ≠ c := fun z => by rw [z, hc] at q; cases q
    have e2 := k.g a u q
    rw [e] at e2
    cases e2
    rcases r a o q with h | ⟨h1, h2, ob, h⟩
    · exact .inl (k.h _ _ ns nc h)
    · exact .inr ⟨h1, h2, ob, k.h _ _ ns nc h⟩
theorem GoS.trans (a : GoS s c G H G2 H2) (b : GoS s c G2 H2 G3 H3) (ds : ∃ o, H s = some o) (dc : ∃ o, H c = some o) (d2 : ∃ o, H2 s = some o) (d3 : ∃ o, H2 c = some o) (gs : G s = none) (gc : G c = none) : GoS s c G H G3 H3 := by
  refine ⟨a.g.trans b.g, fun x o n1 n2 e => b.h _ _ n1 n2 (a.h _ _ n1 n2 e), fun x o q e => ?_, fun x o e => ?_, fun x o q e => ?_⟩
  · cases z : G2 x with
    | none => exact b.r0 x o z e
    | some u =>
      have e2 := b.g x u z
      rw [e] at e2
      cases e2
      have n1 : x ≠ s := fun w => by
        obtain ⟨o', ho⟩ := ds
        rw [w, a.n s o' ho, gs] at z
        cases z
      have n2 : x ≠ c := fun w => by
        obtain ⟨o', ho⟩ := dc
        rw [w, a.n c o' ho, gc] at z
        cases z
      exact b.h _ _ n1 n2 (a.r0 x o q z)
  · by_cases n1 : x = s
    · subst n1
      obtain ⟨o', ho⟩ := d2
      rw [b.n _ _ ho, a.n x o e]
    · by_cases n2 : x = c
      · subst n2
        obtain ⟨o', ho⟩ := d3
        rw [b.n _ _ ho, a.n x o e]
      · rw [b.n x o (a.h _ _ n1 n2 e), a.n x o e]
  · cases z : G2 x with
    | none => exact b.t x o z e
    | some u =>
      have e2 := b.g x u z
      rw [e] at e2
      cases e2
      exact a.t x o q z
theorem GoS.refl (G H : Hp) : GoS s c G H G H := (Go.refl G H).st
theorem GoS.tr {n m : Nat} (a : GoS s c G H G2 H2) (b : GoS s c G2 H2 G3 H3) (d : Dr s c n G H) (d2 : Dr s c m G2 H2) : GoS s c G H G3 H3 := a.trans b d.hs d.hc d2.hs d2.hc d.gs d.gc
/-- written at s or c -/
theorem GoS.putS (a : GoS s c G H G2 H2) (gs : G2 s = none) {o : HO} : GoS s c G H G2 (upd H2 s o) :=
  ⟨a.g, fun x u n1 n2 e => by rw [upd_ne n1]; exact a.h _ _ n1 n2 e, fun x u q e => by
    have n1 : x ≠ s := fun w => by rw [w, gs] at e; cases e
    rw [upd_ne n1]; exact a.r0 x u q e, a.n, a.t⟩
theorem GoS.putC (a : GoS s c G H G2 H2) (gc : G2 c = none) {o : HO} : GoS s c G H G2 (upd H2 c o) :=
  ⟨a.g, fun x u n1 n2 e => by rw [upd_ne n2]; exact a.h _ _ n1 n2 e, fun x u q e => by
    have n1 : x ≠ c := fun w => by rw [w, gc] at e; cases e
    rw [upd_ne n1]; exact a.r0 x u q e, a.n, a.t⟩
theorem GoS.own {α : Type} {e : α → SR} {acc : List α} {p : Addr} {H0 : Hp} (g : GoS s c G H G2 H2) (o : OwnL p e acc G H H0) (n1 : p ≠ s) (n2 : p ≠ c) : OwnL p e acc G2 H2 H0 := by
  obtain ⟨vs, h1, h2⟩ := o.ex
  exact ⟨o.n0, (g.n _ _ h1).trans o.nG, vs, g.h _ _ n1 n2 h1, h2.st g.g⟩
/-- .. behind which a new list of our own is written -/
theorem GoS.wr (a : GoS s c G H G2 H2) {p : Addr} {o : HO} (n : H p = none) (n2 : G2 p = none) : GoS s c G H G2 (upd H2 p o) :=
  ⟨a.g, fun x u n1 n2 e => by rw [upd_ne (ne_of_none e n)]; exact a.h _ _ n1 n2 e, fun x u q e => by rw [upd_ne (ne_of_none e n2)]; exact a.r0 x u q e, a.n, a.t⟩
theorem GoS.give (a : GoS s c G H G2 H2) {p : Addr} {o : HO} (n : H p = none) (n2 : G2 p = none) (h : H2 p = some o) (ho : isTb o = false := by rfl) : GoS s c G H (upd G2 p o) H2 :=
  ⟨Same.own a.g (by
      cases q : G p with
      | none => rfl
      | some u => rw [a.g p u q] at n2; cases n2), a.h, fun x u q e => by
      by_cases z : x = p
      · subst z; rw [upd_same] at e; rw [h]; exact e
      · rw [upd_ne z] at e; exact a.r0 x u q e, fun x u e => by
      rw [upd_ne (ne_of_none e n)]
      exact a.n x u e, fun x u q e => by
      by_cases z : x = p
      · subst z; rw [upd_same] at e; cases e; exact ho
      · rw [upd_ne z] at e; exact a.t x u q e⟩
theorem Dr.wr {n : Nat} (d : Dr s c n G H) {p : Addr} {o : HO} (n1 : p ≠ s) (n2 : p ≠ c) : Dr s c n G (upd H p o) := by
  obtain ⟨h1, h2, h3, cells, a, mm, cnt, e1, e2, e⟩ := d
  exact ⟨h1, h2, h3, cells, a, mm, cnt, by rw [upd_ne n1.symm]; exact e1, by rw [upd_ne n2.symm]; exact e2, e⟩
theorem Dr.give {n : Nat} (d : Dr s c n G H) {p : Addr} {o : HO} (n1 : p ≠ s) (n2 : p ≠ c) : Dr s c n (upd G p o) H := by
  obtain ⟨h1, h2, h3, e⟩ := d
  exact ⟨h1, by rw [upd_ne n1.symm]; exact h2, by rw [upd_ne n2.symm]; exact h3, e⟩
end
/-- what may draw up to k times -/
def EvD (s c : Addr) (k : Nat) (t : TE) (σ : L2.St) (G : Hp) (R : SR) : Prop := ∀ G1 H1 n, Same G G1 → Rel true G1 H1 → Dr s c n G1 H1 → n + k ≤ 1000000 → ∀ Q : VK, (∀ v G2 H2, GoS s c G1 H1 G2 H2 → Dr s c (n + k) G2 H2 → Rel true G2 H2 → R.p v G2 → Q v H2) → t σ H1 Q
/-- a def that draws -/
def spD {ι : Type u} (pre : ι → List SR) (ok : ι → Prop) (cost : ι → Nat) (post : ι → SR) : Sp := fun vs H Q _ => ∃ i G s c n rest, vs = .ref s :: rest ∧ Rel true G H ∧ Dr s c n G H ∧ n + cost i ≤ 1000000 ∧ ok i ∧ AlR (pre i) rest G ∧
  ∀ v G2 H2, GoS s c G H G2 H2 → Dr s c (n + cost i) G2 H2 → Rel true G2 H2 → (post i).p v G2 → Q v H2
section
variable {s c : Addr} {k m : Nat} {σ : L2.St} {G G' H : Hp} {t ta tb te : TE} {R R' : SR} {α β : Type} {e : α → SR}
theorem EvD.run {n : Nat} (h : EvD s c k t σ G R) (r : Rel true G H) (d : Dr s c n G H) (hn : n + k ≤ 1000000) {Q : VK} (q : ∀ v G2 H2, GoS s c G H G2 H2 → Dr s c (n + k) G2 H2 → Rel true G2 H2 → R.p v G2 → Q v H2) : t σ H Q := h G H n (Same.refl G) r d hn Q q
theorem EvD.mono (s1 : Same G G') (h : EvD s c k t σ G R) : EvD s c k t σ G' R := fun G1 H1 n a r d hn Q q => h G1 H1 n (s1.trans a) r d hn Q q
theorem EvD.is (h : EvD s c k t σ G R) (q : ∀ u G2, Same G G2 → R.p u G2 → R'.p u G2) : EvD s c k t σ G R' := fun G1 H1 n a r d hn Q q' => h G1 H1 n a r d hn Q fun v G2 H2 g d2 r2 p => q' v G2 H2 g d2 r2 (q v G2 (a.trans g.g) p)
theorem EvD.le (h : EvD s c k t σ G R) (hk : k ≤ m) : EvD s c m t σ G R := fun G1 H1 n a r d hn Q q => h G1 H1 n a r d (by omega) Q fun v G2 H2 g d2 r2 p => q v G2 H2 g (d2.le (by omega)) r2 p
theorem ed_ev (h : Ev true t σ G R) : EvD s c 0 t σ G R := fun G1 H1 n a r d _ Q q => h G1 H1 a r Q fun v G2 H2 g p => q v G2 H2 g.st (d.go g) (g.r _ r) p
/-- first that, then (with its value at hand) the rest -/
theorem ed_then {tr : V → TE} (h : EvD s c k te σ G R) (hr : ∀ v G1, Same G G1 → R.p v G1 → EvD s c m (tr v) σ G1 R') : EvD s c (k + m) (fun σ H Q => te σ H fun v H1 => tr v σ H1 Q) σ G R' := fun G1 H1 n a r d hn Q q =>
  h G1 H1 n a r d (by omega) _ fun v G2 H2 g d2 r2 p => (hr v G2 (a.trans g.g) p).run r2 d2 (by omega) fun w G3 H3 g' d3 r3 p' => q w G3 H3 (g.tr g' d d2) (by rw [Nat.add_assoc] at d3; exact d3) r3 p'
theorem ed_call {ι : Type u} {pre : ι → List SR} {ok : ι → Prop} {cost : ι → Nat} {post : ι → SR} {E : XK} {j : Nat} {ta : TA} (i : ι) (hs : σ[j]? = some (some (.ref s))) (ha : EvA true ta σ G (pre i)) (hok : ok i) : EvD s c (cost i) (tCall (spD pre ok cost post) [] E (tCons (tVar j) ta)) σ G (post i) := fun G1 H1 n a r d hn Q q =>
  ⟨_, hs, ha G1 H1 a r _ fun vs G2 H2 g al => ⟨i, G2, s, c, n, vs, by rw [List.append_nil], g.r _ r, d.go g, hn, hok, al, fun v G3 H3 g' d3 r3 p => q v G3 H3 (g.st.tr g' d (d.go g)) d3 r3 p⟩⟩
end
end Gd

-- part Gd17
set_option Elab.async false
set_option linter.all false
set_option maxRecDepth 100000
set_option maxHeartbeats 1000000
namespace Gd
open PySem PySem.Spec PyProof.Rows L2
section
variable {K : PySem.W.Frag} {s c : Addr} {k m : Nat} {σ : L2.St} {G G' H : Hp} {t ta tb te : TE} {R R' : SR} {α β : Type} {e : α → SR}
/-- [f(a) for a in xs], f draws -/
theorem ed_map {wi : TI} {xs : List α} {g : TG} {vs : List Nat} {er : β → SR} {fn : α → β} (hi : EvI true wi σ G e xs)
    (hb : ∀ a, a ∈ xs → ∀ x G', Same G G' → (e a).p x G' → ∃ σ', GTo true g x (wipe σ vs) G' σ' ∧ wipe σ' vs = wipe σ vs ∧ EvD s c m te σ' G' (er (fn a))) :
    EvD s c (xs.length * m) (tLc wi g tYes te vs) σ G (Lst er (xs.map fn)) := fun G1 H1 n a r d hn Q q => by
  refine hi G1 H1 a r _ fun J G2 H2 g2 W D hD => ?_
  have rel := g2.r _ r
  have d2 := d.go g2
  have nDs : D ≠ s := fun z => by obtain ⟨o, h⟩ := d2.hs; rw [← z, hD] at h; cases h
  have nDc : D ≠ c := fun z => by obtain ⟨o, h⟩ := d2.hc; rw [← z, hD] at h; cases h
  have hDG : G2 D = none := rel.free hD
  have hD1 : H1 D = none := g2.free hD
  refine ⟨fun i z H => z = xs.length - i ∧ i ≤ xs.length ∧ ∃ G' acc, GoS s c G1 H1 G' H ∧ Same G2 G' ∧ Dr s c (n + i * m) G' H ∧ Rel true G' H ∧ G' D = none ∧ H D = some (.lst acc) ∧ Al er ((xs.take i).map fn) acc G',
    ⟨xs.length, rfl, Nat.zero_le _, G2, [], (g2.trans (Go.own rel hD)).st, Same.refl _, by rw [Nat.zero_mul]; exact d2.wr nDs nDc, rel.own hDG, hDG, upd_same, by simp; exact .nil⟩, ?_⟩
  rintro i z H ⟨rfl, hi2, G', acc, gq, sq, dq, rq, nD, hk, al⟩
  have hal : acc.length = i := by
    rw [al.len, List.length_map, List.length_take]; omega
  by_cases hlt : i < xs.length
  · refine .inr ⟨W.goes i G' H hlt sq rq trivial, fun H' => ∃ G' acc, GoS s c G1 H1 G' H' ∧ Same G2 G' ∧ Dr s c (n + (i + 1) * m) G' H' ∧ Rel true G' H' ∧ G' D = none ∧ H' D = some (.lst acc) ∧ Al er ((xs.take (i + 1)).map fn) acc G', fun H' h' => ⟨xs.length - (i + 1), by omega, rfl, hlt, h'⟩, fun x H' y => ?_⟩
    have hxi : xs[i]? = some xs[i] := List.getElem?_eq_getElem hlt
    obtain ⟨G4, g4, pa⟩ := W.yields i xs[i] G' H x H' hxi sq rq trivial y
    obtain ⟨σ', h1, h2, h3⟩ := hb xs[i] (List.getElem_mem hlt) x G4 (((a.trans g2.g).trans sq).trans g4.g) pa
    have r4 := g4.r _ rq
    have d4 := dq.go g4
    refine h1 H' r4 _ ⟨h2, ?_⟩
    show te σ' H' _
    have hm1 : (i + 1) * m ≤ xs.length * m := Nat.mul_le_mul_right m hlt
    have hm2 : (i + 1) * m = i * m + m := by rw [Nat.add_mul, Nat.one_mul]
    refine h3.run r4 d4 (by omega) fun u G5 H5 g5 d5 r5 pu => ?_
    have hD5 : H5 D = some (.lst acc) := g5.h _ _ nDs nDc (g4.h _ _ hk)
    have nD5 : G5 D = none := (g5.n _ _ (g4.h _ _ hk)).trans (g4.owned hk nD)
    have gA := (gq.tr g4.st d dq).tr g5 d d4
    refine ⟨acc, hD5, ?_, G5, acc ++ [u], gA.wr hD1 nD5, (sq.trans g4.g).trans g5.g, (d5.wr nDs nDc).le (by omega), r5.own nD5, nD5, upd_same, ?_⟩
    · have := W.len
      omega
    · rw [take_succ hxi, List.map_append]
      exact (al.st (g4.g.trans g5.g)).snoc pu
  · have e0 : i = xs.length := by omega
    subst e0
    rw [List.take_length] at al
    have hz := W.len
    exact .inl ⟨W.stops G' H sq rq trivial, q (.ref D) (upd G' D (.lst acc)) H (gq.give hD1 nD hk) (dq.give nDs nDc) (rq.give hk) ⟨D, acc, rfl, upd_same, by omega, al.st (Same.new nD)⟩⟩
end
end Gd

-- part Gd18
set_option Elab.async false
set_option linter.all false
set_option maxRecDepth 100000
set_option maxHeartbeats 1000000
/-! ### a def that is called by its parameters' names, no argument by place -/
namespace Gd
open PySem PySem.Spec PyProof.Rows L2
def CalS (P : Program) (w : World) (K : PySem.W.Frag) (mg : Str → Option Value) (base : Heap) (k : Nat) (x : Str) (st : Stmt) (ps : List Str) (sp : Sp) : Prop := ∃ (f : Addr) (fd : FuncData), L2.Fun K x x st f fd ∧ mg x = some (.ref f) ∧ Binds K fd ps [] ∧ FnOk P w K mg base CX0 k f fd ps sp
section
variable {P : Program} {w : World} {K : PySem.W.Frag} {mg : Str → Option Value} {base : Heap}
theorem CalS.cal {k : Nat} {x : Str} {st : Stmt} {ps : List Str} {sp : Sp} (h : CalS P w K mg base k x st ps sp) : C8.Cal P w K mg base k x sp [] := by
  obtain ⟨f, fd, h1, h2, h3, h4⟩ := h
  exact ⟨f, fd, ps, [], h4, h2, h1.kp, h3, .nil⟩
theorem cal_ofS {x : Str} {st : Stmt} {N ps : List Str} {k : Nat} {sp : Sp} (F : Fn K mg x st ps) (S : FnScope N ps (defScope st)) (len : ∀ vs H Q E, sp vs H Q E → vs.length = ps.length)
    (hbody : ∀ (f : Addr) (cdv : Value) (A : Around) (outer : List Env) (s : Shared) (H : Hp) (vs : List V) (Q : VK) (E : XK), Room k (A.deeper (envOfC x (defScope st) s.heap.objs.size f cdv)) → sp vs H Q E →
      ∃ t, PSs (cxOf CX0 P w K mg base N x (defScope st) f cdv A outer s H E).nox (defBody st) t ∧ t { nx := fun _ H' => Q .non H', rt := Q } (start N vs) H) : CalS P w K mg base (k + 1) x st ps sp := by
  obtain ⟨f, fd, h1, h2, h3⟩ := F
  exact ⟨f, fd, h1, h2, h3, h1.ok S len (hbody f)⟩
/-- .. by name -/
def CalK (P : Program) (w : World) (K : PySem.W.Frag) (mg : Str → Option Value) (base : Heap) (k : Nat) (x : Str) (ks : List Str) (sp : Sp) : Prop := ∃ (f : Addr) (fd : FuncData) (ps : List Str), FnOk P w K mg base CX0 k f fd ps sp ∧ mg x = some (.ref f) ∧ PySem.W.keepIn K (.ref f) = true ∧ KBinds K fd ps ks (fun us ws => us ++ ws) fun us ws => us ++ ws
theorem CalS.byName {k : Nat} {x : Str} {st : Stmt} {ps : List Str} {sp : Sp} (h : CalS P w K mg base k x st ps sp)
    (hb : ∀ (kV doc pm : Value) (an : Option Addr) (cdv ct : Value) (us ws : List Value), (us ++ ws).length = ps.length → bindArgs (PySem.W.fnOf x x (defArgs st) (defBody st) (defScope st) .none kV doc pm an cdv ct) ⟨us, ps.zip ws⟩ = pure (ps.zip (us ++ ws))) : CalK P w K mg base k x ps sp := by
  obtain ⟨f, fd, h1, h2, h3, h4⟩ := h
  refine ⟨f, fd, ps, h4, h2, h1.kp, ⟨fun s us ws _ hl => ?_, fun r1 r2 => r1.append r2⟩⟩
  obtain ⟨oc, od, kV, doc, pm, an, cdv, ct, osl, rfl, _⟩ := h1.ex
  exact .of_eq (hb kV doc pm an cdv ct us ws hl)
end
section
variable {X : Cx} {k j : Nat} {x : Str} {sp : Sp} {ks : List Str} {p pos : Pos} {kws : List Keyword} {tk : TA}
theorem pe_ck0 (c : CalK X.prog X.w X.K X.mg X.base k x ks sp) (hr : Room j X.A) (hk : k ≤ j) (hg : Gl X x) (hkw : PK X kws tk) (hall : (backToKw pos (keywordEach kws X.env)).all (·.1.isSome) = true := by rfl) (hks : (backToKw pos (keywordEach kws X.env)).filterMap (·.1) = ks := by rfl)
    (hdb : (x == ("__debug__" : Str)) = false := by decide) (hpl : ((backTo pos (starEach [] X.env)).any (·.1) || (backToKw pos (keywordEach kws X.env)).any (·.1.isNone)) = false := by rfl) :
    PE X (.Call (.Name x p) [] kws pos) (tCallK sp (fun us ws => us ++ ws) C8.E0 tNil tk) := by
  obtain ⟨f, fd, ps, F, hm, kp, hb⟩ := c
  refine ⟨fun pins s σ H Q I h => ?_⟩
  refine wpAny_Call_Name_kw (ld_glob I hg hm ?_ hdb)
  refine PySem.W.callWith_KW0 (h₀ := X.base) I.ok.mod.kin kp hall (thn (hkw.run pos pins s σ H _ I h) fun ws s2 ⟨zs, H2, I2, rz, q2⟩ => ⟨I2.kIn, ?_⟩) hpl
  rw [hks]
  exact run_fnk (us := []) (vs := []) F (hr.mono hk) hb C8.pass0 I2 .nil rz q2
end
end Gd

-- part P3
set_option Elab.async false
set_option linter.all false
set_option maxRecDepth 100000
set_option maxHeartbeats 2000000
namespace Gd
open PySem PySem.Spec PyProof.Rows L2
section
variable {P : Program} {w : World} {K : PySem.W.Frag} {mg : Str → Option Value} {base : Heap} {aL : Addr}
theorem foldl_len {α γ : Type} (step : List γ → α → List γ) (m : Nat) : ∀ (xs : List α) (acc : List γ), (∀ acc a, a ∈ xs → (step acc a).length ≤ acc.length + m) → (xs.foldl step acc).length ≤ acc.length + xs.length * m
  | [], acc, _ => by simp
  | x :: xs, acc, h => by
    have := foldl_len step m xs (step acc x) fun acc a ha => h acc a (List.mem_cons_of_mem _ ha)
    have h1 := h acc x (List.mem_cons_self ..)
    rw [List.foldl_cons, List.length_cons, Nat.add_mul]
    omega
abbrev cP : List Str × List Str → PyData := fun p => .tuple [cT p.1, cT p.2]
def kp (ts : List Rule) (h t : List Str) : Bool := !ts.any (viol h t)
def pstep (ts : List Rule) (acc : List (List Str × List Str)) (th : List Str) : List (List Str × List Str) := if kp ts th th = true then acc ++ ((srt cT (lots th)).filter fun h => kp ts h th).map fun h => (h, th) else acc
def pairsP (i : List Str × List Rule) : List (List Str × List Str) := srt cP ((srt cT (lots i.1)).foldl (pstep i.2) [])
theorem pstep_len {ts : List Rule} {acc : List (List Str × List Str)} {th : List Str} {n : Nat} (h : th.length ≤ n) : (pstep ts acc th).length ≤ acc.length + 2 ^ n := by
  unfold pstep
  split
  · rw [List.length_append, List.length_map]
    have h1 := List.length_filter_le (fun h => kp ts h th) (srt cT (lots th))
    rw [srt_len, lots_len] at h1
    have h2 : 2 ^ th.length ≤ 2 ^ n := Nat.pow_le_pow_right (by decide) h
    omega
  · have := Nat.zero_le (2 ^ n)
    omega
theorem pfold_len {ts : List Rule} {cs : List Str} (hc : cs.length ≤ 6) (xs : List (List Str)) (hx : ∀ x ∈ xs, x.Sublist cs) (hl : xs.length ≤ 64) : (xs.foldl (pstep ts) []).length ≤ 4096 := by
  have := foldl_len (pstep ts) 64 xs [] fun acc a ha => pstep_len (n := 6) (Nat.le_trans (hx a ha).length_le hc)
  simp only [List.length_nil] at this
  omega
def sp_pairs_of (K : PySem.W.Frag) (C : Addr) : Sp := spN false (fun i : List Str × List Rule => [RU K C i]) (fun i => i.1.length ≤ 6) (Pr K (Tpl K S) (Tpl K S)) pairsP
end
end Gd

-- part P4
set_option Elab.async false
set_option linter.all false
set_option maxRecDepth 100000
set_option maxHeartbeats 2000000
namespace Gd
open PySem PySem.Spec PyProof.Rows L2
section
variable {P : Program} {w : World} {K : PySem.W.Frag} {mg : Str → Option Value} {base : Heap} {aL : Addr}
/-! ### what follows -/
abbrev Kept := List (Str × List Str)
def keptOf (ts : List Rule) (ab : List Str) : Kept := (ts.filter fun p => p.2.2.all fun x => decide (x ∈ ab)).map fun p => (p.1, p.2.1)
def closedB (kept : Kept) (S : Str → Prop) : Prop := ∀ p ∈ kept, (∀ y ∈ p.2, S y) → S p.1
def Der (kept : Kept) (x : Str) : Prop := ∀ S : Str → Prop, closedB kept S → S x
theorem der_closed (kept : Kept) : closedB kept (Der kept) := fun p hp h S hS => hS p hp fun y hy => h y hy S hS
def fire (ks : List Str) (p : Str × List Str) : Bool := !decide (p.1 ∈ ks) && p.2.all fun x => decide (x ∈ ks)
def stepF (st : List Str × Bool) (p : Str × List Str) : List Str × Bool := if fire st.1 p = true then (st.1 ++ [p.1], true) else st
def cnt (kept : Kept) (ks : List Str) : Nat := kept.countP fun p => !decide (p.1 ∈ ks)
theorem countP_lt {α : Type} {p q : α → Bool} : ∀ {l : List α}, (∀ x ∈ l, q x = true → p x = true) → (∃ x ∈ l, p x = true ∧ q x = false) → l.countP q < l.countP p
  | [], _, ⟨x, hx, _⟩ => by cases hx
  | a :: l, h, ⟨x, hx, h1, h2⟩ => by
    have hm : l.countP q ≤ l.countP p := List.countP_mono_left fun x hx => h x (List.mem_cons_of_mem _ hx)
    rw [List.countP_cons, List.countP_cons]
    rcases List.mem_cons.mp hx with rfl | hx
    · rw [if_pos h1, if_neg (by rw [h2]; simp)]
      omega
    · have ih := countP_lt (fun x hx => h x (List.mem_cons_of_mem _ hx)) ⟨x, hx, h1, h2⟩
      by_cases hq : q a = true
      · rw [if_pos hq, if_pos (h a (List.mem_cons_self ..) hq)]
        omega
      · rw [if_neg hq]
        omega
theorem cnt_lt {kept : Kept} {ks : List Str} {p : Str × List Str} (hp : p ∈ kept) (h : p.1 ∉ ks) : cnt kept (ks ++ [p.1]) < cnt kept ks :=
  countP_lt (fun x _ e => by simp only [List.mem_append, Bool.not_eq_true', decide_eq_false_iff_not] at e ⊢; exact fun z => e (.inl z)) ⟨p, hp, by simpa using h, by simp⟩
theorem fire_iff {ks : List Str} {p : Str × List Str} : fire ks p = true ↔ p.1 ∉ ks ∧ ∀ y ∈ p.2, y ∈ ks := by
  unfold fire
  simp
theorem elseF {a b : Prop} (h : b) : if (false = true) then a else b := h
theorem OwnK.tif {b : Bool} {σ : L2.St} {G H H0 : Hp} {p : Addr} {ks : List Str} {c : TT} {t u : TS} {v : Bool} {D : Ends} (o : OwnK p ks G H H0) (hl : ks.length ≤ 100000) (r : Rel b G H) (h : ∀ G1, Same G G1 → (Ks ks).p (.ref p) G1 → EvT b c σ G1 v)
    (k1 : v = true → ∀ G2 H2, Go G H G2 H2 → t D σ H2) (k2 : v = false → ∀ G2 H2, Go G H G2 H2 → u D σ H2) : tIfS c t u D σ H := o.evT hl r h fun G2 H2 g => by
  cases v with
  | true => exact k1 rfl G2 H2 g
  | false => exact k2 rfl G2 H2 g
/-- one pass: what it says -/
structure PassI (kept : Kept) (ks0 : List Str) (xs : Kept) (st : List Str × Bool) : Prop where
  sub : ∀ x ∈ ks0, x ∈ st.1
  der : (∀ x ∈ ks0, Der kept x) → ∀ x ∈ st.1, Der kept x
  same : st.2 = false → st.1 = ks0 ∧ ∀ p ∈ xs, fire ks0 p = false
  grew : st.2 = true → cnt kept st.1 < cnt kept ks0
  len : ks0.length + cnt kept ks0 ≤ kept.length → st.1.length + cnt kept st.1 ≤ kept.length
  nd : ks0.Nodup → st.1.Nodup
theorem passI (kept : Kept) (ks0 : List Str) : ∀ xs : Kept, (∀ p ∈ xs, p ∈ kept) → PassI kept ks0 xs (xs.foldl stepF (ks0, false)) := by
  intro xs
  induction xs using snoc_ind with
  | h0 => intro _; exact ⟨fun _ h => h, fun h => h, fun _ => ⟨rfl, fun _ h => (by cases h)⟩, fun h => (by cases h), fun h => h, fun h => h⟩
  | hs xs x ih =>
    intro hk
    have I := ih fun p hp => hk p (List.mem_append_left _ hp)
    rw [List.foldl_append]
    show PassI kept ks0 (xs ++ [x]) (stepF (xs.foldl stepF (ks0, false)) x)
    generalize hst : xs.foldl stepF (ks0, false) = st at I
    have hx : x ∈ kept := hk x (List.mem_append_right _ (List.mem_singleton.mpr rfl))
    unfold stepF
    by_cases hf : fire st.1 x = true
    · rw [if_pos hf]
      obtain ⟨f1, f2⟩ := fire_iff.mp hf
      have hc := cnt_lt hx f1
      refine ⟨fun y hy => List.mem_append_left _ (I.sub y hy), fun h y hy => ?_, fun h => (by cases h), fun _ => ?_, fun h => ?_, fun h => List.nodup_append.mpr ⟨I.nd h, by simp, fun a ha b hb e => f1 (by rw [List.mem_singleton.mp hb] at e; exact e ▸ ha)⟩⟩
      · rcases List.mem_append.mp hy with hy | hy
        · exact I.der h y hy
        · rw [List.mem_singleton.mp hy]
          exact der_closed kept x hx fun z hz => I.der h z (f2 z hz)
      · cases hb : st.2 with
        | false => rw [(I.same hb).1] at hc ⊢; exact hc
        | true => exact Nat.lt_trans hc (I.grew hb)
      · have := I.len h
        show (st.1 ++ [x.1]).length + cnt kept (st.1 ++ [x.1]) ≤ _
        rw [List.length_append, List.length_singleton]
        omega
    · rw [if_neg hf]
      refine ⟨I.sub, I.der, fun h => ⟨(I.same h).1, fun p hp => ?_⟩, I.grew, I.len, I.nd⟩
      rcases List.mem_append.mp hp with hp | hp
      · exact (I.same h).2 p hp
      · rw [List.mem_singleton.mp hp]
        have e := (I.same h).1
        rw [e] at hf
        simpa using hf
def sp_follows (K : PySem.W.Frag) : Sp := spF false (fun i : List Rule × List Str => [Lst (RT K) i.1, Sq K S i.2]) (fun i => i.1.length ≤ 1000) (fun i => ExR (fun ks => ks.Nodup ∧ ∀ x, x ∈ ks ↔ Der (keptOf i.1 i.2) x) Ks)
theorem Cal.weak {k : Nat} {x : Str} {sp sp' : Sp} {dvs : List V} (c : C8.Cal P w K mg base k x sp dvs) (h : ∀ vs H Q E, sp' vs H Q E → sp vs H Q E) : C8.Cal P w K mg base k x sp' dvs := by
  obtain ⟨f, fd, ps, ds, F, r⟩ := c.ex
  exact ⟨f, fd, ps, ds, F.imp h, r⟩
/-- the same, the dict nobody else's -/
def sp_followsO (K : PySem.W.Frag) : Sp := fun vs H Q _ => ∃ (i : List Rule × List Str) (G : Hp), Rel false G H ∧ i.1.length ≤ 1000 ∧ AlR [Lst (RT K) i.1, Sq K S i.2] vs G ∧
  ∀ (d : Addr) (kvs : List (Key × V)) (ks : List Str) (G2 H2 : Hp), Go G H G2 H2 → H d = none → G2 d = none → H2 d = some (.dK kvs) → kvs.map (·.1) = ks.map Sum.inr → ks.length ≤ 1000 → (ks.Nodup ∧ ∀ x, x ∈ ks ↔ Der (keptOf i.1 i.2) x) → Q (.ref d) H2
/-! ### readings -/
def ways : List Str := ["whole", "least", "greatest", "settled"]
def sp_way : Sp := spF false (fun s : Str => [S s]) (fun s => s ∈ ways) (fun s => S s)
abbrev Rdg := List (Str × Str)
def rd (kvs : Rdg) (k : Str) : Str := (kvs.lookup k).getD Str.empty
theorem rd_some {kvs : Rdg} {k : Str} (h : k ∈ kvs.map (·.1)) : kvs.lookup k = some (rd kvs k) := by
  unfold rd
  cases q : kvs.lookup k with
  | some v => rfl
  | none =>
    obtain ⟨p, hp, rfl⟩ := List.mem_map.mp h
    exact absurd q (by
      rw [List.lookup_eq_none_iff]
      intro hh
      have := hh p hp
      simp at this)
def okRd (kvs : Rdg) : Prop := ∀ k ∈ kvs.map (·.1), okS k = true
def withL (kvs : Rdg) (l : Str) : List Str := (kvs.map (·.1)).filter fun k => decide (rd kvs k = l)
def sp_with_label : Sp := spF true (fun i : Rdg × Str => [Dct S i.1, S i.2]) (fun i => okRd i.1) (fun i => Lst S (withL i.1 i.2))
theorem ev_withL {σ : L2.St} {G : Hp} {E : XK} {ta tb : TE} (kvs : Rdg) (l : Str) (h1 : Ev true ta σ G (Dct S kvs)) (h2 : Ev true tb σ G (S l)) (h : okRd kvs) : Ev true (tCall sp_with_label [] E (tCons ta (tCons tb tNil))) σ G (Lst S (withL kvs l)) := ev_call (kvs, l) (ea_cons h1 (ea_cons h2 ea_nil)) h
def lab (c : Str) (k1 k2 : List Str) : Str := if c ∈ k1 then "in" else if c ∈ k2 then "undecided" else "out"
def sp_label_by : Sp := spF false (fun i : Str × List Str × List Str => [S i.1, Ks i.2.1, Ks i.2.2]) (fun _ => True) (fun i => S (lab i.1 i.2.1 i.2.2))
open Classical in
/-- the label that the rules give -/
noncomputable def labD (ts : List Rule) (kvs : Rdg) (c : Str) : Str :=
  if Der (keptOf ts (withL kvs "out")) c then "in" else if Der (keptOf ts ((kvs.map (·.1)).filter fun k => !decide (rd kvs k = "in"))) c then "undecided" else "out"
open Classical in
noncomputable def wholeR (ts : List Rule) (kvs : Rdg) : Bool := (kvs.map (·.1)).all fun c => decide (rd kvs c = labD ts kvs c)
theorem lab_eq {ts : List Rule} {kvs : Rdg} {k1 k2 : List Str} (h1 : ∀ x, x ∈ k1 ↔ Der (keptOf ts (withL kvs "out")) x) (h2 : ∀ x, x ∈ k2 ↔ Der (keptOf ts ((kvs.map (·.1)).filter fun k => !decide (rd kvs k = "in"))) x) (c : Str) : lab c k1 k2 = labD ts kvs c := by
  unfold lab labD
  by_cases q1 : c ∈ k1
  · rw [if_pos q1, if_pos ((h1 c).mp q1)]
  · rw [if_neg q1, if_neg (fun z => q1 ((h1 c).mpr z))]
    by_cases q2 : c ∈ k2
    · rw [if_pos q2, if_pos ((h2 c).mp q2)]
    · rw [if_neg q2, if_neg (fun z => q2 ((h2 c).mpr z))]
def sp_is_whole (K : PySem.W.Frag) (C : Addr) : Sp := spF true (fun i : (List Str × List Rule) × Rdg => [RU K C i.1, Dct S i.2]) (fun i => okRd i.2 ∧ i.1.2.length ≤ 1000) (fun i => B (wholeR i.1.2 i.2))
def labels : List Str := ["in", "out", "undecided"]
def rowsL (cs : List Str) : List (List Str) := cs.foldl (fun acc _ => acc.flatMap fun r => labels.map fun l => r ++ [l]) [[]]
theorem rows_snoc (cs : List Str) (c : Str) : rowsL (cs ++ [c]) = (rowsL cs).flatMap fun r => labels.map fun l => r ++ [l] := by
  unfold rowsL
  rw [List.foldl_append]
  rfl
theorem flat3_len (xs : List (List Str)) : (xs.flatMap fun r => labels.map fun l => r ++ [l]).length = xs.length * 3 := by
  induction xs with
  | nil => rfl
  | cons x xs ih =>
    rw [List.flatMap_cons, List.length_append, ih, List.length_cons, List.length_map]
    show 3 + _ = _
    omega
theorem rows_len (cs : List Str) : (rowsL cs).length = 3 ^ cs.length := by
  induction cs using snoc_ind with
  | h0 => rfl
  | hs xs x ih => rw [rows_snoc, flat3_len, ih, List.length_append, List.length_singleton, Nat.pow_succ]
theorem rows_mem {cs : List Str} : ∀ {r : List Str}, r ∈ rowsL cs ↔ r.length = cs.length ∧ ∀ l ∈ r, l ∈ labels := by
  induction cs using snoc_ind with
  | h0 =>
    intro r
    simp only [rowsL, List.foldl_nil, List.mem_singleton, List.length_nil, List.length_eq_zero_iff]
    exact ⟨fun h => ⟨h, by rw [h]; simp⟩, fun h => h.1⟩
  | hs xs x ih =>
    intro r
    rw [rows_snoc, List.mem_flatMap]
    constructor
    · rintro ⟨m, hm, h⟩
      obtain ⟨l, hl, rfl⟩ := List.mem_map.mp h
      obtain ⟨h1, h2⟩ := ih.mp hm
      refine ⟨by simp [h1], fun z hz => ?_⟩
      rcases List.mem_append.mp hz with hz | hz
      · exact h2 z hz
      · rw [List.mem_singleton.mp hz]; exact hl
    · rintro ⟨h1, h2⟩
      have hne : r ≠ [] := by intro e; rw [e] at h1; simp at h1
      refine ⟨r.dropLast, ih.mpr ⟨by simp at h1 ⊢; omega, fun l hl => h2 l ((List.dropLast_sublist r).subset hl)⟩, List.mem_map.mpr ⟨r.getLast hne, h2 _ (List.getLast_mem hne), List.dropLast_concat_getLast hne⟩⟩
theorem zip_keys {cs r : List Str} (h : r.length = cs.length) : (cs.zip r).map (·.1) = cs := by
  have : (cs.zip r).map Prod.fst = cs := List.map_fst_zip (by omega)
  exact this
noncomputable def wholeL (i : List Str × List Rule) : List Rdg := ((rowsL i.1).map fun r => i.1.zip r).filter (wholeR i.2)
def okW (i : List Str × List Rule) : Prop := i.1.length ≤ 6 ∧ i.1.Nodup ∧ (∀ c ∈ i.1, okS c = true) ∧ i.2.length ≤ 1000
def sp_whole_readings (K : PySem.W.Frag) (C : Addr) : Sp := spF true (fun i : List Str × List Rule => [RU K C i]) okW (fun i => Lst (Dct S) (wholeL i))
noncomputable def settledL (i : List Str × List Rule) : List Rdg := (wholeL i).filter fun g => !decide (("undecided" : Str) ∈ g.map (·.2))
def sp_readings (K : PySem.W.Frag) (C : Addr) : Sp := spF true (fun i : List Str × List Rule => [RU K C i, S "settled"]) okW (fun i => Lst (Dct S) (settledL i))
end
end Gd

-- part P5
set_option Elab.async false
set_option linter.all false
set_option maxRecDepth 100000
set_option maxHeartbeats 2000000
namespace Gd
open PySem PySem.Spec PyProof.Rows L2
abbrev s_d_within : Stmt := topS 41
theorem sc_d_within : FnScope ["_law_lot", "_law_other", "_law_name"] ["_law_lot", "_law_other"] (defScope s_d_within) := ⟨rfl, rfl, rfl, by decide +kernel, rfl, by decide +kernel, by decide +kernel⟩
abbrev s_d_subsets : Stmt := topS 39
theorem sc_d_subsets : FnScope ["_law_names", "_law_found", "_law_name", "_law_lot"] ["_law_names"] (defScope s_d_subsets) := ⟨rfl, rfl, rfl, by decide +kernel, rfl, by decide +kernel, by decide +kernel⟩
abbrev s_each_once : Stmt := topS 29
theorem sc_each_once : FnScope ["_law_things", "_law_found", "_law_thing"] ["_law_things"] (defScope s_each_once) := ⟨rfl, rfl, rfl, by decide +kernel, rfl, by decide +kernel, by decide +kernel⟩
section
variable {X : Cx} {k j : Nat} {x : Str} {sp : Sp} {dvs : List V} {p pos : Pos}
theorem pe_c0 (c : C8.Cal X.prog X.w X.K X.mg X.base k x sp dvs) (hr : Room j X.A) (hk : k ≤ j) (hg : Gl X x) (hdb : (x == ("__debug__" : Str)) = false := by decide) : PE X (.Call (.Name x p) [] [] pos) (tCall sp dvs C8.E0 tNil) := by
  obtain ⟨f, fd, ps, ds, F, hm, kp, b, d⟩ := c.ex
  exact pe_call0 F (hr.mono hk) hg hm kp b d C8.pass0 hdb
end
section
variable {K : PySem.W.Frag} {b : Bool} {σ : L2.St} {G G' H : Hp} {t ta tb te tc : TE} {R R' : SR} {α β γ : Type} {e : α → SR} {f : β → SR}
theorem walkR_own {a : Addr} {xs : List α} {vs : List V} (hl : vs.length ≤ sizeLine) (al : Al e xs vs G) : WalkR b (Itl K a) e xs G (fun H => H a = some (.lst vs)) where
  len := by rw [← al.len]; exact hl
  goes := fun i G3 H3 hi s r z => by
    have hi' : i < vs.length := by rw [al.len]; exact hi
    exact ⟨vs, vs[i], SqL.of z, by simp [hi']⟩
  stops := fun G3 H3 s r z => ⟨vs, SqL.of z, by rw [al.len]; exact Nat.le_refl _⟩
  yields := fun i a' G3 H3 x H' ha s r z y => by
    obtain ⟨e1, y⟩ := y
    subst e1
    obtain ⟨v, hv, hp⟩ := al.get' ha
    have := y vs (SqL.of z)
    rw [hv] at this
    cases this
    exact ⟨G3, Go.refl _ _, (e a').st s hp⟩
/-- [f(x) for x in xs], xs a list of our own -/
theorem lc_own {i : Nat} {p : Addr} {xs : List α} {H0 : Hp} {g : TG} {vs : List Nat} {er : β → SR} {fn : α → β} (o : OwnL p e xs G H H0) (hv : σ[i]? = some (some (.ref p))) (hl : xs.length ≤ 100000) (r : Rel b G H)
    (hb : ∀ a, a ∈ xs → ∀ x G', Same G G' → (e a).p x G' → ∃ σ', GTo b g x (wipe σ vs) G' σ' ∧ wipe σ' vs = wipe σ vs ∧ Ev b te σ' G' (er (fn a)))
    {Q : VK} (k : ∀ q ws G2 H2, Go G H G2 H2 → H q = none → G2 q = none → H2 q = some (.lst ws) → Al er (xs.map fn) ws G2 → Q (.ref q) H2) : tLc (iSeq K (tVar i)) g tYes te vs σ H Q := by
  obtain ⟨us, h1, h2⟩ := o.ex
  have hus : us.length ≤ sizeLine := by rw [h2.len]; exact Nat.le_trans hl (by decide)
  refine ⟨_, hv, p, rfl, .inl ⟨⟨us, SqL.of h1⟩, fun D hD => ?_⟩⟩
  have := lc_go (tt := tYes) (p := fun _ => true) (fn := fn) (er := er) (te := te) (g := g) (vs := vs) (walkR_own (K := K) (b := b) hus h2) r h1 (fun H H' s z => s _ _ z) (fun a ha x G' s pa => by
    obtain ⟨σ', q1, q2, q3⟩ := hb a ha x G' s pa
    exact ⟨σ', q1, q2, et_yes, fun _ => q3⟩) hD (Qd := fun H2 => Q (.ref D) H2) fun G2 H2 acc g2 n2 hd ld al z => k D acc G2 H2 g2 hD n2 hd (by rw [filter_true] at al; exact al)
  exact this
theorem OwnL.tif {p : Addr} {acc : List α} {H0 : Hp} {c : TT} {t u : TS} {v : Bool} {D : Ends} (o : OwnL p e acc G H H0) (hl : acc.length ≤ 100000) (r : Rel b G H) (h : ∀ G1, Same G G1 → (Lst e acc).p (.ref p) G1 → EvT b c σ G1 v)
    (k1 : v = true → ∀ G2 H2, Go G H G2 H2 → t D σ H2) (k2 : v = false → ∀ G2 H2, Go G H G2 H2 → u D σ H2) : tIfS c t u D σ H := o.evT hl r h fun G2 H2 g => by
  cases v with
  | true => exact k1 rfl G2 H2 g
  | false => exact k2 rfl G2 H2 g
end
section
variable {P : Program} {w : World} {K : PySem.W.Frag} {mg : Str → Option Value} {base : Heap} {aL : Addr}
def within (l o : List Str) : Bool := l.all fun x => decide (x ∈ o)
def sp_within (K : PySem.W.Frag) : Sp := spF false (fun i : List Str × List Str => [Sq K S i.1, Sq K S i.2]) (fun _ => True) (fun i => B (within i.1 i.2))
theorem ok_d_within (F : Fn K mg "_law_d_within" s_d_within ["_law_lot", "_law_other"]) (T : Txt K mg aL) : C8.Cal P w K mg base 1 "_law_d_within" (sp_within K) [] := by
  refine cal_of F sc_d_within (fun vs H Q E h => spF_len h fun _ => rfl) (fun f cdv A outer s H vs Q E hr h => ?_)
  obtain ⟨⟨l, o⟩, G, v, w', rfl, r, _, hv, hw, k⟩ := sp2 h fun _ => rfl
  refine ⟨_, (pss_one (ps_ret (pe_callB (call_allK (K := K) rfl) rfl T.all boot_all (pa_cons (pe_lc (own := [("_law_name", 2)]) rfl sc_d_within.nd (pi_seqK (K := K) (pv 0)) (blkOk_by (by kernel_rfl)) (fun _ _ _ _ _ => (pg_name (i := 2) sc_d_within.nd rfl (by first | exact Or.inl rfl | exact Or.inr rfl))) (fun _ _ _ _ _ => pts_nil) (fun _ _ _ _ _ => (pe_cmpR (op_inK (K := K)) (pv 2) (pv 1) (by with_unfolding_all rfl)))) pa_nil)))), ?_⟩
  exact ts_ret (Ev.eq (R' := B (within l o)) (ev_allL (en_map (ei_sq (ev_var rfl hv)) fun a ha y G' s hy => ⟨_, gto_name, rfl, ev_in (ev_var rfl hy) (ev_var rfl ((Sq K S o).st s hw))⟩)) rfl) r k
abbrev cL : List Str → PyData := fun xs => .list (xs.map PyData.str)
def lsubs (cs : List Str) : List (List Str) := srt cL (lots (srt PyData.str cs))
def sp_d_subsets (K : PySem.W.Frag) : Sp := spF false (fun cs : List Str => [Sq K S cs]) (fun cs => cs.length ≤ 12) (fun cs => Lst (Lst S) (lsubs cs))
theorem ok_d_subsets (F : Fn K mg "_law_d_subsets" s_d_subsets ["_law_names"]) (T : Txt K mg aL) : C8.Cal P w K mg base 1 "_law_d_subsets" (sp_d_subsets K) [] := by
  refine cal_of F sc_d_subsets (fun vs H Q E h => spF_len h fun _ => rfl) (fun f cdv A outer s H vs Q E hr h => ?_)
  obtain ⟨cs, G, v, rfl, r, hl, hv, k⟩ := sp1 h fun _ => rfl
  have hl : cs.length ≤ 12 := hl
  have hu64 := hu64_of hr
  refine ⟨_, (pss_cons (ps_set (i := 1) sc_d_subsets.nd rfl (by first | exact Or.inl rfl | exact Or.inr rfl) (pe_lst (pa_cons (pe_lst pa_nil) pa_nil)))
      (pss_cons (ps_for PassesOwn.never rfl (pi_seqK (K := K) (pe_callB (call_srtK (K := K) hu64) rfl T.sorted boot_sorted (pa_cons (pv 0) pa_nil))) (pg_name (i := 2) sc_d_subsets.nd rfl (by first | exact Or.inl rfl | exact Or.inr rfl)) (pss_one (ps_expr (pe_bmK (K := K) PySem.F.plainAttrs_list PySem.F.slot_list_extend PySem.F.type_list_extend mt_extend (pv 1) (pa_cons (pe_lc (own := [("_law_lot", 3)]) rfl sc_d_subsets.nd (pi_seqK (K := K) (pv 1)) (blkOk_by (by kernel_rfl)) (fun _ _ _ _ _ => (pg_name (i := 3) sc_d_subsets.nd rfl (by first | exact Or.inl rfl | exact Or.inr rfl))) (fun _ _ _ _ _ => pts_nil) (fun _ _ _ _ _ => (pe_op op_cat (pv 3) (pe_lst (pa_cons (pv 2) pa_nil))))) pa_nil)))))
      (pss_one (ps_ret (pe_callB (call_srtK (K := K) hu64) rfl T.sorted boot_sorted (pa_cons (pv 1) pa_nil)))))), ?_⟩
  refine tq_setN (en_lst (e := Lst S) (xs := [[]]) (ea_cons (EvN.ev (en_lst (xs := []) ea_nil (by simp))) ea_nil) (by simp)) r fun p G1 H1 g1 o1 => ?_
  refine tq_for (r0 := r) (g0 := g1) (fun i σ G' H' => ∃ y2 y3, σ = [some v, some (.ref p), y2, y3] ∧ OwnL p (Lst S) (lots ((srt PyData.str cs).take i)) G' H' H) (ei_sq (Ev.sqL (EvN.ev (en_sorted (ev_var rfl ((Sq K S cs).st g1.g hv)) enc_S alk_S (sortable_S cs))))) (fun G2 H2 _ g => ⟨_, _, rfl, o1.go g⟩) ?_ ?_
  · rintro i c hc x σ' G' H' G2 H2 D' ⟨y2, y3, rfl, o⟩ q1 q2 g3 hx _ _ kn
    have q3 := q1.trans g3
    have o3 := o.go g3
    change (srt PyData.str cs)[i]? = some c at hc
    have hil := (List.getElem?_eq_some_iff.mp hc).1
    rw [srt_len] at hil
    have hlen : (lots ((srt PyData.str cs).take i)).length ≤ 4096 := by
      rw [lots_len, List.length_take, srt_len]
      exact pow_le (by omega)
    obtain ⟨us, hp, al⟩ := o3.ex
    refine ⟨_, rfl, .inl ⟨rfl, us, SqL.of hp⟩, ?_⟩
    refine lc_own (er := Lst S) (fn := fun l => l ++ [c]) (σ := [some v, some (.ref p), some x, y3]) o3 rfl (by omega) (q3.r _ r) (fun l hl' z G4 s hz => ⟨_, gto_name, rfl, EvN.ev (en_cat (ev_var rfl hz) (EvN.ev (en_lst (xs := [c]) (ea_cons (ev_var rfl ((S c).st s hx)) ea_nil) (by simp))) ?_)⟩) fun q ws G4 H4 g4 n1 n2 hq al2 => ?_
    · have := (mem_lots.mp hl').length_le
      rw [List.length_take, srt_len] at this
      simp only [List.length_singleton]
      omega
    · have l1 := al.len
      have l2 := al2.len
      rw [List.length_map] at l2
      refine ⟨p, q, us, ws, rfl, rfl, g4.h _ _ hp, hq, by rw [l1, l2]; have : sizeLine = 16777216 := sizeLine_eq; omega, ?_⟩
      have nG4 := g4.owned hp o3.nG
      refine kn _ G4 _ ((q3.trans g4).wr o3.n0 nG4) g4.g ⟨_, _, rfl, o3.n0, nG4, _, upd_same, ?_⟩
      rw [take_succ hc, lots_snoc]
      exact (al.st g4.g).app al2
  · rintro σ' G' H' ⟨y2, y3, rfl, o⟩ q1 q2
    change OwnL p (Lst S) (lots ((srt PyData.str cs).take (srt PyData.str cs).length)) G' H' H at o
    rw [List.take_length] at o
    obtain ⟨G3, g3, s3, hp⟩ := o.freeze q1 (by rw [lots_len, srt_len]; have := pow_le hl; omega)
    exact ts_ret (EvN.ev (en_sorted (ev_var rfl (.inl hp)) (enc_lst enc_S) (alk_lst alk_S) (sortable_lst _ _))) (g3.r _ r) fun u G4 H4 g4 p => k u G4 H4 (g3.trans g4) p
def lviol (h t : List Str) (p : Rule) : Bool := within p.2.1 h && (!(p.2.2.any fun x => decide (x ∈ t)) && !decide (p.1 ∈ h))
def sp_ru_keeps (K : PySem.W.Frag) : Sp := spF false (fun i : List Rule × List Str × List Str => [Lst (RT K) i.1, Sq K S i.2.1, Sq K S i.2.2]) (fun _ => True) (fun i => B (!i.1.any (lviol i.2.1 i.2.2)))
def lkp (ts : List Rule) (h t : List Str) : Bool := !ts.any (lviol h t)
def lpstep (ts : List Rule) (acc : List (List Str × List Str)) (th : List Str) : List (List Str × List Str) := if lkp ts th th = true then acc ++ ((lsubs th).filter fun h => lkp ts h th).map fun h => (h, th) else acc
def lpairs (i : List Str × List Rule) : List (List Str × List Str) := srt cP ((lsubs i.1).foldl (lpstep i.2) [])
theorem lsubs_len (cs : List Str) : (lsubs cs).length = 2 ^ cs.length := by unfold lsubs; rw [srt_len, lots_len, srt_len]
theorem mem_lsubs {cs l : List Str} : l ∈ lsubs cs ↔ l.Sublist (srt PyData.str cs) := mem_srt.trans mem_lots
theorem lsubs_le {cs l : List Str} (h : l ∈ lsubs cs) : l.length ≤ cs.length := by
  have := (mem_lsubs.mp h).length_le
  rwa [srt_len] at this
theorem lpstep_len {ts : List Rule} {acc : List (List Str × List Str)} {th : List Str} {n : Nat} (h : th.length ≤ n) : (lpstep ts acc th).length ≤ acc.length + 2 ^ n := by
  unfold lpstep
  split
  · rw [List.length_append, List.length_map]
    have h1 := List.length_filter_le (fun h => lkp ts h th) (lsubs th)
    rw [lsubs_len] at h1
    have h2 : 2 ^ th.length ≤ 2 ^ n := Nat.pow_le_pow_right (by decide) h
    omega
  · have := Nat.zero_le (2 ^ n)
    omega
theorem lpfold_len {ts : List Rule} (xs : List (List Str)) (hx : ∀ x ∈ xs, x.length ≤ 6) (hl : xs.length ≤ 64) : (xs.foldl (lpstep ts) []).length ≤ 4096 := by
  have := foldl_len (lpstep ts) 64 xs [] fun acc a ha => lpstep_len (n := 6) (hx a ha)
  simp only [List.length_nil] at this
  omega
def sp_ru_pairs (K : PySem.W.Frag) : Sp := spF false (fun i : List Str × List Rule => [Lst S i.1, Lst (RT K) i.2]) (fun i => i.1.length ≤ 6) (fun i => Lst (Pr K (Tpl K S) (Tpl K S)) (lpairs i))
end
end Gd

-- part P6
set_option Elab.async false
set_option linter.all false
set_option maxRecDepth 100000
set_option maxHeartbeats 2000000
namespace Gd
open PySem PySem.Spec PyProof.Rows L2
abbrev s_same : Stmt := topS 28
theorem sc_same : FnScope ["_law_found", "_law_due", "_law_x", "_law_y"] ["_law_found", "_law_due"] (defScope s_same) := ⟨rfl, rfl, rfl, by decide +kernel, rfl, by decide +kernel, by decide +kernel⟩
section
variable {P : Program} {w : World} {K : PySem.W.Frag} {mg : Str → Option Value} {base : Heap} {aL : Addr}
def ostep (acc : List Str) (x : Str) : List Str := if decide (x ∈ acc) = true then acc else acc ++ [x]
def once (xs : List Str) : List Str := xs.foldl ostep []
theorem ostep_len (acc : List Str) (x : Str) : (ostep acc x).length ≤ acc.length + 1 := by
  unfold ostep
  split
  · omega
  · simp
def sp_each_once (K : PySem.W.Frag) : Sp := spF false (fun xs : List Str => [Sq K S xs]) (fun xs => xs.length ≤ 1000) (fun xs => Lst S (once xs))
theorem ok_each_once (F : Fn K mg "_law_each_once" s_each_once ["_law_things"]) (T : Txt K mg aL) : C8.Cal P w K mg base 1 "_law_each_once" (sp_each_once K) [] := by
  refine cal_of F sc_each_once (fun vs H Q E h => spF_len h fun _ => rfl) (fun f cdv A outer s H vs Q E hr h => ?_)
  obtain ⟨xs, G, v, rfl, r, hl, hv, k⟩ := sp1 h fun _ => rfl
  have hl : xs.length ≤ 1000 := hl
  refine ⟨_, (pss_cons (ps_set (i := 1) sc_each_once.nd rfl (by first | exact Or.inl rfl | exact Or.inr rfl) (pe_lst pa_nil))
      (pss_cons (ps_for PassesOwn.never rfl (pi_seqK (K := K) (pv 0)) (pg_name (i := 2) sc_each_once.nd rfl (by first | exact Or.inl rfl | exact Or.inr rfl)) (pss_one (ps_if (pt_cmpR (op_notInK (K := K)) (pv 2) (pv 1) (by with_unfolding_all rfl)) (pss_one (ps_expr (pe_bmK (K := K) PySem.F.plainAttrs_list PySem.F.slot_list_append PySem.F.type_list_append mt_append (pv 1) (pa_cons (pv 2) pa_nil)))) pss_nil)))
      (pss_one (ps_ret (pv 1))))), ?_⟩
  have hb : ∀ ys : List Str, (ys.foldl ostep []).length ≤ ys.length := fun ys => by
    have := foldl_len ostep 1 ys [] fun acc a _ => ostep_len acc a
    simpa using this
  refine tq_setN (en_lst (e := S) (xs := []) ea_nil (by simp)) r fun p G1 H1 g1 o1 => ?_
  refine tq_fill ostep (fun σ => ∃ y2, σ = [some v, some (.ref p), y2]) ⟨_, rfl⟩ o1 g1 (ei_sq (ev_var rfl ((Sq K S xs).st g1.g hv))) r ?_ ?_
  · rintro i x hx y G' H' σ' D' s r' hy ⟨y2, rfl⟩ g o _ kn
    have hlt : ((xs.take i).foldl ostep []).length ≤ 1000 := Nat.le_trans (hb _) (by rw [List.length_take]; omega)
    refine o.tif (by omega) r' (fun G1 s1 hp => et_test (ev_notin (ev_var rfl ((S x).st s1 hy)) (Ev.sqL (ev_var rfl hp)))) (fun e G2 H2 g2 => ?_) (fun e G2 H2 g2 => kn _ G2 H2 (g.trans g2) g2.g ?_ ⟨_, rfl⟩)
    · refine (o.go g2).push (ev_var rfl ((S x).st g2.g hy)) rfl (by omega) (g2.r _ r') (g.trans g2) fun G3 H3 g3 s3 o3 => kn _ G3 H3 g3 (g2.g.trans s3) ?_ ⟨_, rfl⟩
      rw [show ostep ((xs.take i).foldl ostep []) x = (xs.take i).foldl ostep [] ++ [x] from if_neg (by simpa using e)]
      exact o3
    · rw [show ostep ((xs.take i).foldl ostep []) x = (xs.take i).foldl ostep [] from if_pos (by simpa using e)]
      exact o.go g2
  · rintro σ' G2 H2 g2 s2 o2 ⟨y2, rfl⟩
    obtain ⟨G3, g3, s3, hp⟩ := o2.freeze g2 (Nat.le_trans (hb xs) (by omega))
    exact ts_ret (ev_var (R := Lst S (once xs)) rfl hp) (g3.r _ r) fun u G4 H4 g4 p => k u G4 H4 (g3.trans g4) p
def sp_ins (K : PySem.W.Frag) : Sp := spF false (fun i : List Str × Rdg => [Sq K S i.1, Dct S i.2]) (fun i => ∀ c ∈ i.1, c ∈ i.2.map (·.1)) (fun i => Tpl K S (i.1.filter fun c => decide (rd i.2 c = "in")))
abbrev PL := List (List Str × List Str)
def written1 : PL := [([], ["a", "b"]), ([], ["b"]), (["a"], ["a"]), (["a"], ["a", "b"])]
def written2 : PL := [(["a", "b"], ["a", "b"]), (["b"], ["a", "b"]), (["b"], ["b"])]
def written : PL := written1 ++ written2
def sp_written (K : PySem.W.Frag) : Sp := spF false (fun _ : Unit => []) (fun _ => True) (fun _ => Lst (Pr K (Tpl K S) (Tpl K S)) written)
theorem ev_t0 {b : Bool} {σ : L2.St} {G : Hp} : Ev b (tTup tNil) σ G (Tpl K S []) := ev_tpl (xs := []) ea_nil (by simp)
theorem ev_t1 {b : Bool} {σ : L2.St} {G : Hp} {x : Str} (h : okS x = true := by decide +kernel) : Ev b (tTup (tCons (tC (.str x)) tNil)) σ G (Tpl K S [x]) := ev_tpl (xs := [x]) (ea_cons (ev_str h) ea_nil) (by simp)
theorem ev_t2 {b : Bool} {σ : L2.St} {G : Hp} {x y : Str} (h : okS x = true := by decide +kernel) (h2 : okS y = true := by decide +kernel) : Ev b (tTup (tCons (tC (.str x)) (tCons (tC (.str y)) tNil))) σ G (Tpl K S [x, y]) := ev_tpl (xs := [x, y]) (ea_cons (ev_str h) (ea_cons (ev_str h2) ea_nil)) (by simp)
/-! ### the same, seen in full -/
inductive Sm (K : PySem.W.Frag) : Nat → SR → Prop
  | s {n : Nat} (x : Str) : Sm K n (S x)
  | i {n : Nat} (x : Int) : Sm K n (I x)
  | b {n : Nat} (x : Bool) : Sm K n (B x)
  | l {n : Nat} {α : Type} {e : α → SR} {xs : List α} : (∀ x ∈ xs, Sm K n (e x)) → Sm K (n + 1) (Lst e xs)
  | t {n : Nat} {α : Type} {e : α → SR} {xs : List α} : (∀ x ∈ xs, Sm K n (e x)) → Sm K (n + 1) (Tpl K e xs)
def sp_same (K : PySem.W.Frag) (n : Nat) : Sp := spF false (fun R : SR => [R, R]) (Sm K n) (fun _ => B true)
theorem zip_self {α : Type} (xs : List α) : xs.zip xs = xs.map fun x => (x, x) := by induction xs with
  | nil => rfl
  | cons x xs ih => simp [ih]
section
variable {b : Bool} {σ : L2.St} {G H : Hp} {ta tb : TE} {α β : Type} {e : α → SR} {f : β → SR}
theorem ev_isiLT2 {R : SR} (ha : Ev b ta σ G R) (ht : HasTy K R "list") : Ev b (tCB (rIsiT K) (tCons ta (tCons (tTup (tCons (tC (.ty "list")) (tCons (tC (.ty "tuple")) tNil))) tNil))) σ G (B true) := ev_isiLT ha fun v b G H r h => ⟨"list", ht v b G H r h, lt2_list⟩
theorem ev_isiLT3 {R : SR} (ha : Ev b ta σ G R) (ht : HasTy K R "tuple") : Ev b (tCB (rIsiT K) (tCons ta (tCons (tTup (tCons (tC (.ty "list")) (tCons (tC (.ty "tuple")) tNil))) tNil))) σ G (B true) := ev_isiLT ha fun v b G H r h => ⟨"tuple", ht v b G H r h, lt2_tuple⟩
theorem ev_isi4 {x : Str} (ha : Ev b ta σ G (S x)) : Ev b (tCB (rIsiT K) (tCons ta (tCons (tTup (tCons (tC (.ty "int")) (tCons (tC (.ty "list")) (tCons (tC (.ty "tuple")) (tCons (tC (.ty "dict")) tNil))))) tNil))) σ G (B false) := fun G1 H1 a rr Q k =>
  ha G1 H1 a rr _ fun u G2 H2 g p => by
    refine ⟨(by show 4 ≤ sizeLine; decide), fun p' hp => ?_⟩
    have r2 := g.r _ rr
    have gn := Go.new r2 (o := .tup [.ty "int", .ty "list", .ty "tuple", .ty "dict"]) hp
    obtain ⟨rfl, _⟩ := p
    refine ⟨.str x, p', _, .type "str", [.type "int", .type "list", .type "tuple", .type "dict"], false, rfl, upd_same, .cons (.ty _) (.cons (.ty _) (.cons (.ty _) (.cons (.ty _) .nil))), .base (.str _), ?_, k _ _ _ (g.trans gn) rfl⟩
    exact kitAny_cons (kit_ty (b := "int") (r := false) (by decide +kernel)) (fun _ => kitAny_cons (kit_ty (b := "list") (r := false) (by decide +kernel)) (fun _ => kitAny_cons (kit_ty (b := "tuple") (r := false) (by decide +kernel)) (fun _ => kitAny_cons (kit_ty (b := "dict") (r := false) (by decide +kernel)) (fun _ => kitAny_nil) (fun h => by cases h)) (fun h => by cases h)) (fun h => by cases h)) (fun h => by cases h)
theorem ev_eqB {x y : Bool} (ha : Ev b ta σ G (B x)) (hb : Ev b tb σ G (B y)) : Ev b (tOp rEq ta tb) σ G (B (decide (x = y))) :=
  ev_opP ha hb fun u v G1 H1 a r p q => by
    obtain rfl : u = _ := p
    obtain rfl : v = _ := q
    refine ⟨_, ?_, fun Q hQ => ⟨rfl, hQ⟩⟩
    show V.bl _ = V.bl _
    rw [dec_bl, Bool.beq_eq_decide_eq]
theorem ev_isiLT0 {R : SR} {T : String} (ha : Ev b ta σ G R) (ht : HasTy K R T) (h1 : kitB T "list" = some false := by decide +kernel) (h2 : kitB T "tuple" = some false := by decide +kernel) : Ev b (tCB (rIsiT K) (tCons ta (tCons (tTup (tCons (tC (.ty "list")) (tCons (tC (.ty "tuple")) tNil))) tNil))) σ G (B false) := ev_isiLT ha fun v b G H r h => ⟨T, ht v b G H r h, lt2_no h1 h2⟩
end
theorem zip_all {α : Type} (xs : List α) : (xs.zip xs).all (fun _ => true) = true := List.all_eq_true.mpr fun _ _ => rfl
theorem zip_mem {α : Type} {xs : List α} {p : α × α} (h : p ∈ xs.zip xs) : p.1 = p.2 ∧ p.1 ∈ xs := by
  rw [zip_self] at h
  obtain ⟨x, hx, rfl⟩ := List.mem_map.mp h
  exact ⟨rfl, hx⟩
theorem same_s {b : Bool} {n : Nat} {σ : L2.St} {G H : Hp} {v w : V} : True := trivial
theorem ok_same0 (F : Fn K mg "_law_same" s_same ["_law_found", "_law_due"]) (T : Txt K mg aL) : C8.Cal P w K mg base 1 "_law_same" (sp_same K 0) [] := by
  refine cal_of F sc_same (fun vs H Q E h => spF_len h fun _ => rfl) (fun f cdv A outer s H vs Q E hr h => ?_)
  obtain ⟨R, G, v, w', rfl, r, hR, hv, hw, k⟩ := sp2 h fun _ => rfl
  refine ⟨_, (pss_cons (ps_if (pt_val (pe_callB (call_isiTK (K := K)) rfl T.isinstance boot_isinstance (pa_cons (pv 1) (pa_cons (pe_tup (pa_cons (pe_bltn (v := .ty "list") rfl T.list boot_list rfl) (pa_cons (pe_bltn (v := .ty "tuple") rfl T.tuple boot_tuple rfl) pa_nil))) pa_nil)))) (pss_cons (ps_if (PW.pt (pw_or (pt_cmpR op_ne (pe_callB (call_isiKK (K := K)) rfl T.isinstance boot_isinstance (pa_cons (pv 0) (pa_cons (pe_bltn (v := .ty "list") rfl T.list boot_list rfl) pa_nil))) (pe_callB (call_isiKK (K := K)) rfl T.isinstance boot_isinstance (pa_cons (pv 1) (pa_cons (pe_bltn (v := .ty "list") rfl T.list boot_list rfl) pa_nil))) (nomark _)) (pw_or1 (pt_cmpR op_ne (pe_callB (call_isiKK (K := K)) rfl T.isinstance boot_isinstance (pa_cons (pv 0) (pa_cons (pe_bltn (v := .ty "tuple") rfl T.tuple boot_tuple rfl) pa_nil))) (pe_callB (call_isiKK (K := K)) rfl T.isinstance boot_isinstance (pa_cons (pv 1) (pa_cons (pe_bltn (v := .ty "tuple") rfl T.tuple boot_tuple rfl) pa_nil))) (nomark _))))) (pss_one (ps_ret pe_bl)) pss_nil)
      pss_never) pss_nil)
      (pss_cons (ps_if (pt_val (pe_callB (call_isiKK (K := K)) rfl T.isinstance boot_isinstance (pa_cons (pv 1) (pa_cons (pe_bltn (v := .ty "dict") rfl T.dict boot_dict rfl) pa_nil)))) pss_never pss_nil)
      (pss_cons (ps_if (pt_val (pe_callB (call_isiKK (K := K)) rfl T.isinstance boot_isinstance (pa_cons (pv 1) (pa_cons (pe_bltn (v := .ty "int") rfl T.int boot_int rfl) pa_nil)))) (pss_one (ps_ret (pe_and (pe_callB (call_isiKK (K := K)) rfl T.isinstance boot_isinstance (pa_cons (pv 0) (pa_cons (pe_bltn (v := .ty "int") rfl T.int boot_int rfl) pa_nil))) (pe_and (pe_cmpR op_eq (pe_callB (call_isiKK (K := K)) rfl T.isinstance boot_isinstance (pa_cons (pv 0) (pa_cons (pe_bltn (v := .ty "bool") rfl T.bool boot_bool rfl) pa_nil))) (pe_callB (call_isiKK (K := K)) rfl T.isinstance boot_isinstance (pa_cons (pv 1) (pa_cons (pe_bltn (v := .ty "bool") rfl T.bool boot_bool rfl) pa_nil))) (nomark _)) (pe_one (pe_cmpR op_eq (pv 0) (pv 1) (nomark _))))))) pss_nil)
      (pss_one (ps_ret (pe_and (pe_not (pe_callB (call_isiTK (K := K)) rfl T.isinstance boot_isinstance (pa_cons (pv 0) (pa_cons (pe_tup (pa_cons (pe_bltn (v := .ty "int") rfl T.int boot_int rfl) (pa_cons (pe_bltn (v := .ty "list") rfl T.list boot_list rfl) (pa_cons (pe_bltn (v := .ty "tuple") rfl T.tuple boot_tuple rfl) (pa_cons (pe_bltn (v := .ty "dict") rfl T.dict boot_dict rfl) pa_nil))))) pa_nil)))) (pe_one (pe_cmpR op_eq (pv 0) (pv 1) (nomark _))))))))), ?_⟩
  cases hR with
  | s x =>
    refine tq_ifF (et_B (ev_isiLT0 (ev_var rfl hw) hty_S)) r fun G1 H1 g1 => ?_
    refine tq_ifF (et_B (ev_isi (r := false) (ev_var rfl ((S x).st g1.g hw)) hty_S)) (g1.r _ r) fun G2 H2 g2 => ?_
    have g := g1.trans g2
    refine tq_ifF (et_B (ev_isi (r := false) (ev_var rfl ((S x).st g.g hw)) hty_S)) (g.r _ r) fun G3 H3 g3 => ?_
    have g := g.trans g3
    exact ts_ret (Ev.eq (R' := B true) (ev_and (ev_not (ev_isi4 (ev_var rfl ((S x).st g.g hv)))) fun _ => ev_eqS (ev_var rfl ((S x).st g.g hv)) (ev_var rfl ((S x).st g.g hw))) (by simp)) (g.r _ r) fun u G4 H4 g4 p => k u G4 H4 (g.trans g4) p
  | i x =>
    refine tq_ifF (et_B (ev_isiLT0 (ev_var rfl hw) hty_I)) r fun G1 H1 g1 => ?_
    refine tq_ifF (et_B (ev_isi (r := false) (ev_var rfl ((I x).st g1.g hw)) hty_I)) (g1.r _ r) fun G2 H2 g2 => ?_
    have g := g1.trans g2
    refine ts_ifT (t := tRet _) (et_B (ev_isi (r := true) (ev_var rfl ((I x).st g.g hw)) hty_I)) (g.r _ r) fun G3 H3 g3 => ?_
    have g := g.trans g3
    exact ts_ret (Ev.eq (R' := B true) (ev_and (ev_isi (r := true) (ev_var rfl ((I x).st g.g hv)) hty_I) fun _ => ev_and (ev_eqB (ev_isi (r := false) (ev_var rfl ((I x).st g.g hv)) hty_I) (ev_isi (r := false) (ev_var rfl ((I x).st g.g hw)) hty_I)) fun _ => ev_eqI (ev_var rfl ((I x).st g.g hv)) (ev_var rfl ((I x).st g.g hw))) (by simp)) (g.r _ r) fun u G4 H4 g4 p => k u G4 H4 (g.trans g4) p
  | b x =>
    refine tq_ifF (et_B (ev_isiLT0 (ev_var rfl hw) hty_B)) r fun G1 H1 g1 => ?_
    refine tq_ifF (et_B (ev_isi (r := false) (ev_var rfl ((B x).st g1.g hw)) hty_B)) (g1.r _ r) fun G2 H2 g2 => ?_
    have g := g1.trans g2
    refine ts_ifT (t := tRet _) (et_B (ev_isi (r := true) (ev_var rfl ((B x).st g.g hw)) hty_B)) (g.r _ r) fun G3 H3 g3 => ?_
    have g := g.trans g3
    exact ts_ret (Ev.eq (R' := B true) (ev_and (ev_isi (r := true) (ev_var rfl ((B x).st g.g hv)) hty_B) fun _ => ev_and (ev_eqB (ev_isi (r := true) (ev_var rfl ((B x).st g.g hv)) hty_B) (ev_isi (r := true) (ev_var rfl ((B x).st g.g hw)) hty_B)) fun _ => ev_eqB (ev_var rfl ((B x).st g.g hv)) (ev_var rfl ((B x).st g.g hw))) (by simp)) (g.r _ r) fun u G4 H4 g4 p => k u G4 H4 (g.trans g4) p
theorem ok_sameS {n m : Nat} (F : Fn K mg "_law_same" s_same ["_law_found", "_law_due"]) (T : Txt K mg aL) (c_same : C8.Cal P w K mg base m "_law_same" (sp_same K n) []) : C8.Cal P w K mg base (m + 1) "_law_same" (sp_same K (n + 1)) [] := by
  refine cal_of F sc_same (fun vs H Q E h => spF_len h fun _ => rfl) (fun f cdv A outer s H vs Q E hr h => ?_)
  obtain ⟨R, G, v, w', rfl, r, hR, hv, hw, k⟩ := sp2 h fun _ => rfl
  refine ⟨_, (pss_cons (ps_if (pt_val (pe_callB (call_isiTK (K := K)) rfl T.isinstance boot_isinstance (pa_cons (pv 1) (pa_cons (pe_tup (pa_cons (pe_bltn (v := .ty "list") rfl T.list boot_list rfl) (pa_cons (pe_bltn (v := .ty "tuple") rfl T.tuple boot_tuple rfl) pa_nil))) pa_nil)))) (pss_cons (ps_if (PW.pt (pw_or (pt_cmpR op_ne (pe_callB (call_isiKK (K := K)) rfl T.isinstance boot_isinstance (pa_cons (pv 0) (pa_cons (pe_bltn (v := .ty "list") rfl T.list boot_list rfl) pa_nil))) (pe_callB (call_isiKK (K := K)) rfl T.isinstance boot_isinstance (pa_cons (pv 1) (pa_cons (pe_bltn (v := .ty "list") rfl T.list boot_list rfl) pa_nil))) (nomark _)) (pw_or1 (pt_cmpR op_ne (pe_callB (call_isiKK (K := K)) rfl T.isinstance boot_isinstance (pa_cons (pv 0) (pa_cons (pe_bltn (v := .ty "tuple") rfl T.tuple boot_tuple rfl) pa_nil))) (pe_callB (call_isiKK (K := K)) rfl T.isinstance boot_isinstance (pa_cons (pv 1) (pa_cons (pe_bltn (v := .ty "tuple") rfl T.tuple boot_tuple rfl) pa_nil))) (nomark _))))) (pss_one (ps_ret pe_bl)) pss_nil)
      (pss_one (ps_ret (pe_and (pe_cmpR op_eq (pe_callB (call_lenK (K := K)) rfl T.len PySem.boot_len (pa_cons (pv 0) pa_nil)) (pe_callB (call_lenK (K := K)) rfl T.len PySem.boot_len (pa_cons (pv 1) pa_nil)) (nomark _)) (pe_one (pe_callB (call_allK (K := K) rfl) rfl T.all boot_all (pa_cons (pe_lc (own := [("_law_x", 2), ("_law_y", 3)]) rfl sc_same.nd (pi_zipK (K := K) rfl T.zip (pa_cons (pv 0) (pa_cons (pv 1) pa_nil))) (blkOk_by (by kernel_rfl)) (fun _ _ _ _ _ => (pg_tupK (K := K) (n := 2) rfl (pgs_cons (pg_name (i := 2) sc_same.nd rfl (by first | exact Or.inl rfl | exact Or.inr rfl)) (pgs_cons (pg_name (i := 3) sc_same.nd rfl (by first | exact Or.inl rfl | exact Or.inr rfl)) pgs_nil)))) (fun _ _ _ _ _ => pts_nil) (fun _ _ _ _ _ => (C8.pe_c c_same hr (by first | decide | omega) rfl (pa_cons (pv 2) (pa_cons (pv 3) pa_nil))))) pa_nil))))))) pss_nil)
      (pss_cons (ps_if (pt_val (pe_callB (call_isiKK (K := K)) rfl T.isinstance boot_isinstance (pa_cons (pv 1) (pa_cons (pe_bltn (v := .ty "dict") rfl T.dict boot_dict rfl) pa_nil)))) pss_never pss_nil)
      (pss_cons (ps_if (pt_val (pe_callB (call_isiKK (K := K)) rfl T.isinstance boot_isinstance (pa_cons (pv 1) (pa_cons (pe_bltn (v := .ty "int") rfl T.int boot_int rfl) pa_nil)))) (pss_one (ps_ret (pe_and (pe_callB (call_isiKK (K := K)) rfl T.isinstance boot_isinstance (pa_cons (pv 0) (pa_cons (pe_bltn (v := .ty "int") rfl T.int boot_int rfl) pa_nil))) (pe_and (pe_cmpR op_eq (pe_callB (call_isiKK (K := K)) rfl T.isinstance boot_isinstance (pa_cons (pv 0) (pa_cons (pe_bltn (v := .ty "bool") rfl T.bool boot_bool rfl) pa_nil))) (pe_callB (call_isiKK (K := K)) rfl T.isinstance boot_isinstance (pa_cons (pv 1) (pa_cons (pe_bltn (v := .ty "bool") rfl T.bool boot_bool rfl) pa_nil))) (nomark _)) (pe_one (pe_cmpR op_eq (pv 0) (pv 1) (nomark _))))))) pss_nil)
      (pss_one (ps_ret (pe_and (pe_not (pe_callB (call_isiTK (K := K)) rfl T.isinstance boot_isinstance (pa_cons (pv 0) (pa_cons (pe_tup (pa_cons (pe_bltn (v := .ty "int") rfl T.int boot_int rfl) (pa_cons (pe_bltn (v := .ty "list") rfl T.list boot_list rfl) (pa_cons (pe_bltn (v := .ty "tuple") rfl T.tuple boot_tuple rfl) (pa_cons (pe_bltn (v := .ty "dict") rfl T.dict boot_dict rfl) pa_nil))))) pa_nil)))) (pe_one (pe_cmpR op_eq (pv 0) (pv 1) (nomark _))))))))), ?_⟩
  cases hR with
  | s x =>
    refine tq_ifF (et_B (ev_isiLT0 (ev_var rfl hw) hty_S)) r fun G1 H1 g1 => ?_
    refine tq_ifF (et_B (ev_isi (r := false) (ev_var rfl ((S x).st g1.g hw)) hty_S)) (g1.r _ r) fun G2 H2 g2 => ?_
    have g := g1.trans g2
    refine tq_ifF (et_B (ev_isi (r := false) (ev_var rfl ((S x).st g.g hw)) hty_S)) (g.r _ r) fun G3 H3 g3 => ?_
    have g := g.trans g3
    exact ts_ret (Ev.eq (R' := B true) (ev_and (ev_not (ev_isi4 (ev_var rfl ((S x).st g.g hv)))) fun _ => ev_eqS (ev_var rfl ((S x).st g.g hv)) (ev_var rfl ((S x).st g.g hw))) (by simp)) (g.r _ r) fun u G4 H4 g4 p => k u G4 H4 (g.trans g4) p
  | i x =>
    refine tq_ifF (et_B (ev_isiLT0 (ev_var rfl hw) hty_I)) r fun G1 H1 g1 => ?_
    refine tq_ifF (et_B (ev_isi (r := false) (ev_var rfl ((I x).st g1.g hw)) hty_I)) (g1.r _ r) fun G2 H2 g2 => ?_
    have g := g1.trans g2
    refine ts_ifT (t := tRet _) (et_B (ev_isi (r := true) (ev_var rfl ((I x).st g.g hw)) hty_I)) (g.r _ r) fun G3 H3 g3 => ?_
    have g := g.trans g3
    exact ts_ret (Ev.eq (R' := B true) (ev_and (ev_isi (r := true) (ev_var rfl ((I x).st g.g hv)) hty_I) fun _ => ev_and (ev_eqB (ev_isi (r := false) (ev_var rfl ((I x).st g.g hv)) hty_I) (ev_isi (r := false) (ev_var rfl ((I x).st g.g hw)) hty_I)) fun _ => ev_eqI (ev_var rfl ((I x).st g.g hv)) (ev_var rfl ((I x).st g.g hw))) (by simp)) (g.r _ r) fun u G4 H4 g4 p => k u G4 H4 (g.trans g4) p
  | b x =>
    refine tq_ifF (et_B (ev_isiLT0 (ev_var rfl hw) hty_B)) r fun G1 H1 g1 => ?_
    refine tq_ifF (et_B (ev_isi (r := false) (ev_var rfl ((B x).st g1.g hw)) hty_B)) (g1.r _ r) fun G2 H2 g2 => ?_
    have g := g1.trans g2
    refine ts_ifT (t := tRet _) (et_B (ev_isi (r := true) (ev_var rfl ((B x).st g.g hw)) hty_B)) (g.r _ r) fun G3 H3 g3 => ?_
    have g := g.trans g3
    exact ts_ret (Ev.eq (R' := B true) (ev_and (ev_isi (r := true) (ev_var rfl ((B x).st g.g hv)) hty_B) fun _ => ev_and (ev_eqB (ev_isi (r := true) (ev_var rfl ((B x).st g.g hv)) hty_B) (ev_isi (r := true) (ev_var rfl ((B x).st g.g hw)) hty_B)) fun _ => ev_eqB (ev_var rfl ((B x).st g.g hv)) (ev_var rfl ((B x).st g.g hw))) (by simp)) (g.r _ r) fun u G4 H4 g4 p => k u G4 H4 (g.trans g4) p
  | l hx =>
    rename_i α e xs
    refine ts_ifT (EvT.eq (et_B (ev_isiLT2 (ev_var rfl hw) hty_lst)) rfl) r fun G1 H1 g1 => ?_
    have hv1 := (Lst e xs).st g1.g hv
    have hw1 := (Lst e xs).st g1.g hw
    refine tq_ifF (EvT.eq (et_or (et_test (ev_neB (ev_isi (r := true) (ev_var rfl hv1) hty_lst) (ev_isi (r := true) (ev_var rfl hw1) hty_lst))) fun _ => et_test (ev_neB (ev_isi (r := false) (ev_var rfl hv1) hty_lst) (ev_isi (r := false) (ev_var rfl hw1) hty_lst))) (by simp)) (g1.r _ r) fun G2 H2 g2 => ?_
    have hv2 := (Lst e xs).st g2.g hv1
    have hw2 := (Lst e xs).st g2.g hw1
    have g := g1.trans g2
    refine ts_ret (Ev.eq (R' := B true) (ev_and (ev_eqI (ev_len (Ev.sqL (ev_var rfl hv2))) (ev_len (Ev.sqL (ev_var rfl hw2)))) fun _ => ev_allL (p := fun _ => true) (en_map (ei_zipL (ev_var rfl hv2) (ev_var rfl hw2)) fun p hp y G' s hy => ?_)) (by rw [zip_all]; simp)) (g.r _ r) fun u G4 H4 g4 p => k u G4 H4 (g.trans g4) p
    obtain ⟨a, v1, v2, rfl, hT, h1, h2⟩ := hy
    obtain ⟨e1, e2⟩ := zip_mem hp
    rw [← e1] at h2
    exact ⟨_, gto_tup2 hT, rfl, ev_call (e p.1) (ea_cons (ev_var rfl h1) (ea_cons (ev_var rfl h2) ea_nil)) (hx _ e2)⟩
  | t hx =>
    rename_i α e xs
    refine ts_ifT (EvT.eq (et_B (ev_isiLT3 (ev_var rfl hw) hty_tpl)) rfl) r fun G1 H1 g1 => ?_
    have hv1 := (Tpl K e xs).st g1.g hv
    have hw1 := (Tpl K e xs).st g1.g hw
    refine tq_ifF (EvT.eq (et_or (et_test (ev_neB (ev_isi (r := false) (ev_var rfl hv1) hty_tpl) (ev_isi (r := false) (ev_var rfl hw1) hty_tpl))) fun _ => et_test (ev_neB (ev_isi (r := true) (ev_var rfl hv1) hty_tpl) (ev_isi (r := true) (ev_var rfl hw1) hty_tpl))) (by simp)) (g1.r _ r) fun G2 H2 g2 => ?_
    have hv2 := (Tpl K e xs).st g2.g hv1
    have hw2 := (Tpl K e xs).st g2.g hw1
    have g := g1.trans g2
    refine ts_ret (Ev.eq (R' := B true) (ev_and (ev_eqI (ev_len (Ev.sqT (ev_var rfl hv2))) (ev_len (Ev.sqT (ev_var rfl hw2)))) fun _ => ev_allL (p := fun _ => true) (en_map (ei_zipT (ev_var rfl hv2) (ev_var rfl hw2)) fun p hp y G' s hy => ?_)) (by rw [zip_all]; simp)) (g.r _ r) fun u G4 H4 g4 p => k u G4 H4 (g.trans g4) p
    obtain ⟨a, v1, v2, rfl, hT, h1, h2⟩ := hy
    obtain ⟨e1, e2⟩ := zip_mem hp
    rw [← e1] at h2
    exact ⟨_, gto_tup2 hT, rfl, ev_call (e p.1) (ea_cons (ev_var rfl h1) (ea_cons (ev_var rfl h2) ea_nil)) (hx _ e2)⟩
theorem ok_same (F : Fn K mg "_law_same" s_same ["_law_found", "_law_due"]) (T : Txt K mg aL) : ∀ n, C8.Cal P w K mg base (n + 1) "_law_same" (sp_same K n) []
  | 0 => ok_same0 F T
  | n + 1 => ok_sameS F T (ok_same F T n)
/-- a pair is a tuple -/
def prE {α β : Type} (e : α → SR) (f : β → SR) (x : α × β) : Bool → SR := fun i => if i = true then f x.2 else e x.1
theorem pr_tpl {α β : Type} {e : α → SR} {f : β → SR} {x : α × β} {u : V} {G : Hp} (h : (Pr K e f x).p u G) : (Tpl K (prE e f x) [false, true]).p u G := by
  obtain ⟨a, v, w, rfl, h1, h2, h3⟩ := h
  exact ⟨a, _, rfl, h1, by show 2 ≤ sizeLine; decide, .cons h2 (.cons h3 .nil)⟩
theorem Al.conv1 {α : Type} {e f : α → SR} {G : Hp} (h : ∀ a v, (e a).p v G → (f a).p v G) {as : List α} {vs : List V} (al : Al e as vs G) : Al f as vs G := by
  have := Al.conv (c := fun a => a) (f := f) h al
  rwa [List.map_id'] at this
abbrev PR (K : PySem.W.Frag) : List Str × List Str → SR := fun x => Tpl K (prE (Tpl K S) (Tpl K S) x) [false, true]
theorem pairs_pr {xs : PL} {u : V} {G : Hp} (h : (Lst (Pr K (Tpl K S) (Tpl K S)) xs).p u G) : (Lst (PR K) xs).p u G := by
  obtain ⟨a, vs, h1, h2, h3, h4⟩ := h
  exact ⟨a, vs, h1, h2, h3, Al.conv1 (fun a v h => pr_tpl h) h4⟩
theorem sm_pairs (xs : PL) : Sm K 3 (Lst (PR K) xs) := .l fun x _ => .t fun i _ => by
  cases i
  · exact .t fun y _ => .s y
  · exact .t fun y _ => .s y
end
end Gd

-- part P7
set_option Elab.async false
set_option linter.all false
set_option maxRecDepth 100000
set_option maxHeartbeats 1000000
namespace Gd
open PySem PySem.Spec PyProof.Rows L2
abbrev s_start : Stmt := topS 24
theorem sc_start : FnScope ["_law_script"] ["_law_script"] (defScope s_start) := ⟨rfl, rfl, rfl, by decide +kernel, rfl, by decide +kernel, by decide +kernel⟩
abbrev s_draw : Stmt := topS 25
theorem sc_draw : FnScope ["_law_stream", "_law_many", "_law_cell", "_law_digit", "_law_mixed_here"] ["_law_stream", "_law_many"] (defScope s_draw) := ⟨rfl, rfl, rfl, by decide +kernel, rfl, by decide +kernel, by decide +kernel⟩
section
variable {P : Program} {w : World} {K : PySem.W.Frag} {mg : Str → Option Value} {base : Heap} {aL : Addr}
section
variable {b : Bool} {σ : L2.St} {G H : Hp} {te : TE} {D : Ends} {u : TS}
/-- s[k] = v, s our own list of atoms -/
theorem ts_put {i : Nat} {p : Addr} {xs : List V} {kk : Int} {j : Nat} {v : V} (h : Ev b te σ (upd G p (.lst xs)) (cst v)) (hv : σ[i]? = some (some (.ref p))) (r : Rel b G H) (nG : G p = none) (hp : H p = some (.lst xs)) (hk : ixN xs.length kk = some j)
    (k : ∀ G2 H2, Go G H G2 H2 → G2 p = none → D.nx σ (upd H2 p (.lst (xs.set j v)))) : tAsg te (gSub (tVar i) (tC (.int kk)) rSetL) D σ H :=
  h.lend r nG hp fun G2 H2 g n2 h2 => ⟨_, hv, p, xs, kk, j, rfl, rfl, h2, hk, k G2 H2 g n2⟩
theorem tq_put {i : Nat} {p : Addr} {xs : List V} {kk : Int} {j : Nat} {v : V} (h : Ev b te σ (upd G p (.lst xs)) (cst v)) (hv : σ[i]? = some (some (.ref p))) (r : Rel b G H) (nG : G p = none) (hp : H p = some (.lst xs)) (hk : ixN xs.length kk = some j)
    (k : ∀ G2 H2, Go G H G2 H2 → G2 p = none → u D σ (upd H2 p (.lst (xs.set j v)))) : tSeq (tAsg te (gSub (tVar i) (tC (.int kk)) rSetL)) u D σ H := ts_put (D := { D with nx := u D }) h hv r nG hp hk k
theorem nextI (h : D.nx σ H) : tNext D σ H := h
theorem tq_setL {i : Nat} {p : Addr} {xs : List V} {v : V} (h : Ev b te σ (upd G p (.lst xs)) (cst v)) (r : Rel b G H) (nG : G p = none) (hp : H p = some (.lst xs))
    (k : ∀ G2 H2, Go G H G2 H2 → G2 p = none → H2 p = some (.lst xs) → u D (σ.set i (some v)) H2) : tSeq (tAsg te (gName i)) u D σ H := h.lend r nG hp k
theorem ts_retL {nx bk ct : L2.St → Hp → Prop} {Q : VK} {p : Addr} {xs : List V} {v : V} (h : Ev b te σ (upd G p (.lst xs)) (cst v)) (r : Rel b G H) (nG : G p = none) (hp : H p = some (.lst xs))
    (k : ∀ G2 H2, Go G H G2 H2 → G2 p = none → H2 p = some (.lst xs) → Q v H2) : tRet te ⟨nx, Q, bk, ct⟩ σ H := h.lend r nG hp k
/-- an item of such a list -/
theorem ev_it {i : Nat} {p : Addr} {xs : List V} {kk : Int} {j : Nat} {v : V} (hv : σ[i]? = some (some (.ref p))) (hp : G p = some (.lst xs)) (hl : xs.length ≤ 1000) (hk : kk = (j : Int)) (hx : xs[j]? = some v) : Ev b (tOp (rIx K) (tVar i) (tC (.int kk))) σ G (cst v) :=
  ev_ixL (e := cst) (xs := xs) (ev_var hv ⟨p, xs, rfl, hp, Nat.le_trans hl (by decide), by
    have : ∀ ys : List V, Al cst ys ys G := fun ys => by
      induction ys with
      | nil => exact .nil
      | cons y ys ih => exact .cons rfl ih
    exact this xs⟩) ev_int hk hx
theorem ev_mulI {x y : Int} {ta tb : TE} (ha : Ev b ta σ G (I x)) (hb : Ev b tb σ G (I y)) (h : CMul x y) : Ev b (tOp (rI CMul fun i j => .int (i * j)) ta tb) σ G (I (x * y)) := ev_I1 (C := CMul) ha hb h
theorem ev_addI {x y : Int} {ta tb : TE} (ha : Ev b ta σ G (I x)) (hb : Ev b tb σ G (I y)) : Ev b (tOp (rI0 fun i j => .int (i + j)) ta tb) σ G (I (x + y)) := ev_I0 ha hb
theorem ev_modI {x y : Int} {ta tb : TE} (ha : Ev b ta σ G (I x)) (hb : Ev b tb σ G (I y)) (h : y ≠ 0) : Ev b (tOp (rI (fun _ j => j ≠ 0) fun i j => .int (i.fmod j)) ta tb) σ G (I (x.fmod y)) := ev_I1 (C := fun _ j => j ≠ 0) ha hb h
theorem ev_divI {x y : Int} {ta tb : TE} (ha : Ev b ta σ G (I x)) (hb : Ev b tb σ G (I y)) (h : CDivN x y) : Ev b (tOp (rI CDivN fun i j => .int (i.fdiv j)) ta tb) σ G (I (x.fdiv y)) := ev_I1 (C := CDivN) ha hb h
theorem ev_powI {x y : Int} {ta tb : TE} (ha : Ev b ta σ G (I x)) (hb : Ev b tb σ G (I y)) (h : CPow x y) : Ev b (tOp (rI CPow fun i j => .int (i ^ j.toNat)) ta tb) σ G (I (x ^ y.toNat)) := ev_I1 (C := CPow) ha hb h
theorem ev_intI {x : Int} (ha : Ev b te σ G (I x)) : Ev b (tCB (fun xs H Q => (∃ i, xs = [.int i] ∧ Q (.int i) H) ∨ ∃ k, xs = [.bl k] ∧ Q (.int (if k then 1 else 0)) H) (tCons te tNil)) σ G (I x) :=
  ev_cb (ea_cons ha ea_nil) fun vs G1 H1 a r al Q k => by
    obtain ⟨v, rfl, p⟩ := alr1 al
    obtain rfl : v = _ := p
    exact .inl ⟨x, rfl, k _ G1 H1 (Go.refl _ _) rfl⟩
theorem ev_leI {x y : Int} {ta tb : TE} (ha : Ev b ta σ G (I x)) (hb : Ev b tb σ G (I y)) : Ev b (tOp (rI0 fun i j => .bl (decide (j ≤ i))) ta tb) σ G (B (decide (y ≤ x))) := ev_I0 ha hb
theorem ev_gtI {x y : Int} {ta tb : TE} (ha : Ev b ta σ G (I x)) (hb : Ev b tb σ G (I y)) : Ev b (tOp (rI0 fun i j => .bl (decide (j < i))) ta tb) σ G (B (decide (y < x))) := ev_I0 ha hb
end
def Dw (m : Nat) : SR := ExR (fun d : Nat => d < m) fun d => I d
def sp_draw : Sp := spD (fun m : Nat => [I m]) (fun m => 0 < m ∧ m ≤ 1000000) (fun _ => 1) Dw
theorem dw_of {m : Nat} {i : Int} {G : Hp} (h0 : 0 ≤ i) (h : i < (m : Int)) : (Dw m).p (.int i) G := ⟨i.toNat, by omega, by show V.int i = V.int _; congr 1; omega⟩
theorem EvT.lend2 {b : Bool} {σ : L2.St} {G H : Hp} {tt : TT} {c : Bool} {D D2 : Addr} {o o2 : HO} (h : EvT b tt σ (upd (upd G D o) D2 o2) c) (r : Rel b G H) (nD : G D = none) (nD2 : G D2 = none) (ne : D2 ≠ D) (hD : H D = some o) (hD2 : H D2 = some o2) {Q : Bool → Hp → Prop} (k : ∀ G2 H2, Go G H G2 H2 → Q c H2) : tt σ H Q :=
  h.lend (r.give hD) (by rw [upd_ne ne]; exact nD2) hD2 fun G2 H2 g _ _ => k _ H2 (unlend g nD hD).1
theorem al_I (xs : List Int) (G : Hp) : Al I xs (xs.map V.int) G := by
  induction xs with
  | nil => exact .nil
  | cons x xs ih => exact .cons rfl ih
structure DrI (st c : Addr) (m cnt : Nat) (G H : Hp) (z : Nat) (σ : L2.St) (H' : Hp) : Prop where
  ex : ∃ (cells : List Int) (a mm : Int) (y2 y3 y4 : Option V) (G' : Hp), σ = [some (.ref st), some (.int m), y2, y3, y4] ∧ GoS st c G H G' H' ∧ G' st = none ∧ G' c = none ∧ H' st = some (.lst [.ref c, .int a, .int ((cnt : Int) + 1), .int mm]) ∧ H' c = some (.lst (cells.map V.int)) ∧ 0 ≤ a ∧ 0 ≤ mm ∧ mm < 2147483647 ∧ cells.length ≤ 63 ∧ z = cells.length
theorem ok_draw (F : Fn K mg "_law_draw" s_draw ["_law_stream", "_law_many"]) (T : Txt K mg aL) : C8.Cal P w K mg base 1 "_law_draw" sp_draw [] := by
  refine cal_of F sc_draw (fun vs H Q E h => ?_) (fun f cdv A outer s H vs Q E hr h => ?_)
  · obtain ⟨i, G, s, c, n, rest, rfl, _, _, _, _, al, _⟩ := h
    obtain ⟨v, rfl, _⟩ := alr1 al
    rfl
  obtain ⟨m, G, st, c, n, rest, rfl, r, d, hn, ⟨hm0, hm1⟩, al, k⟩ := h
  obtain ⟨v, rfl, hv⟩ := alr1 al
  obtain rfl : v = _ := hv
  have hu64 := hu64_of hr
  obtain ⟨ne, gs, gc, cells, a, mm, cnt, hs, hc, ha0, hcnt, hm2, hm3, hcl⟩ := d
  refine ⟨_, (pss_cons (ps_asg (pe_op op_add (pe_ix (ix_K (K := K)) (pv 0) pe_int (fun _ _ => rfl)) pe_int) (pg_sub (pv 0) pe_int set_list))
      (pss_cons (ps_while PassesOwn.never (PW.pt (pw_and (pt_cmpR op_eq (pe_ix (ix_K (K := K)) (pv 0) pe_int (fun _ _ => rfl)) pe_int (nomark _)) (pw_and1 (pt_cmpR (op_neDK (K := K) hu64) (pe_ix (ix_K (K := K)) (pv 0) pe_int (fun _ _ => rfl)) (pe_lst pa_nil) (nomark _))))) (pss_cons (ps_set (i := 2) sc_draw.nd rfl (by first | exact Or.inl rfl | exact Or.inr rfl) (pe_bmK (K := K) PySem.F.plainAttrs_list PySem.F.slot_list_pop PySem.F.type_list_pop mt_popAt (pe_ix (ix_K (K := K)) (pv 0) pe_int (fun _ _ => rfl)) (pa_cons pe_int pa_nil)))
      (pss_cons (ps_asg (pe_op op_modN (pe_callTy call_int1 rfl T.int boot_int (pa_cons (pe_op op_add (pe_op op_add (pe_op op_mul (pe_ix (ix_K (K := K)) (pv 0) pe_int (fun _ _ => rfl)) pe_int) (pv 2)) pe_int) pa_nil)) pe_int) (pg_sub (pv 0) pe_int set_list))
      (pss_one (ps_asg (pe_ifExp (pt_cmpR op_ge (pv 2) (pe_op op_pow pe_int pe_int) (nomark _)) (pv 2) pe_int) (pg_sub (pv 0) pe_int set_list))))))
      (pss_cons (ps_if (pt_cmpR op_gt (pe_ix (ix_K (K := K)) (pv 0) pe_int (fun _ _ => rfl)) pe_int (nomark _)) (pss_cons (ps_set (i := 3) sc_draw.nd rfl (by first | exact Or.inl rfl | exact Or.inr rfl) (pe_op op_modN (pe_callTy call_int1 rfl T.int boot_int (pa_cons (pe_ix (ix_K (K := K)) (pv 0) pe_int (fun _ _ => rfl)) pa_nil)) (pv 1)))
      (pss_cons (ps_asg (pe_op op_fdivN (pe_ix (ix_K (K := K)) (pv 0) pe_int (fun _ _ => rfl)) (pv 1)) (pg_sub (pv 0) pe_int set_list))
      (pss_one (ps_ret (pv 3))))) pss_nil)
      (pss_cons (ps_set (i := 4) sc_draw.nd rfl (by first | exact Or.inl rfl | exact Or.inr rfl) (pe_op op_modN (pe_callTy call_int1 rfl T.int boot_int (pa_cons (pe_op op_pow (pe_op op_add (pe_op op_add (pe_ix (ix_K (K := K)) (pv 0) pe_int (fun _ _ => rfl)) (pe_op op_mul pe_int (pe_ix (ix_K (K := K)) (pv 0) pe_int (fun _ _ => rfl)))) pe_int) pe_int) pa_nil)) pe_int))
      (pss_one (ps_ret (pe_op op_modN (pe_op op_modN (pe_callTy call_int1 rfl T.int boot_int (pa_cons (pe_op op_pow (pe_op op_add (pe_op op_add (pe_op op_mul (pv 4) pe_int) (pe_op op_mul pe_int (pe_ix (ix_K (K := K)) (pv 0) pe_int (fun _ _ => rfl)))) pe_int) pe_int) pa_nil)) pe_int) (pv 1)))))))), ?_⟩
  have hcnt2 : cnt ≤ 1000000 := by omega
  -- the count
  refine tq_put (b := true) (v := .int ((cnt : Int) + 1)) (ev_addI (ev_it rfl upd_same (by simp) (j := 2) rfl rfl) ev_int) rfl r gs hs (j := 2) rfl fun G1 H1 g1 n1 => ?_
  have k1 : GoS st c G H G1 (upd H1 st (.lst [.ref c, .int a, .int ((cnt : Int) + 1), .int mm])) := g1.st.putS n1
  have c1 : G1 c = none := g1.owned hc gc
  have hc1 : (upd H1 st (.lst [.ref c, .int a, .int ((cnt : Int) + 1), .int mm])) c = some (.lst (cells.map V.int)) := by rw [upd_ne ne.symm]; exact g1.h _ _ hc
  -- the loop
  refine ⟨DrI st c m cnt G H, ⟨cells.length, ⟨cells, a, mm, _, _, _, G1, rfl, k1, n1, c1, upd_same, hc1, ha0, hm2, hm3, hcl, rfl⟩⟩, ?_⟩
  clear k1 hc1 c1 n1 g1 ha0 hm2 hm3 hcl
  have hs0 := hs
  have hc0 := hc
  clear hs hc
  rintro z σ H' ⟨cells, a, mm, y2, y3, y4, G', rfl, gq, s1, c1, hs, hc, ha0, hm2, hm3, hcl, rfl⟩
  have r' : Rel true G' H' := gq.r gs gc _ r
  refine EvT.lend2 (b := true) (c := decide (a = 0) && !decide (cells = [])) (et_and (et_test (ev_eqI (ev_it rfl (by rw [upd_ne ne]; exact upd_same) (by simp) (j := 1) rfl rfl) ev_int)) fun _ => et_test (ev_neD (e := Lst I) (x := cells) (y := []) ((ev_it (v := .ref c) rfl (by rw [upd_ne ne]; exact upd_same) (by simp) (j := 0) rfl rfl).is fun u G2 s2 q => ?_) (EvN.ev (en_lst (xs := []) ea_nil (by simp))) (enc_lst enc_I) (eqE_lst eqE_I))) r' s1 c1 ne.symm hs hc fun G2 H2 g2 => ?_
  · obtain rfl : u = _ := q
    exact ⟨c, cells.map V.int, rfl, s2 _ _ upd_same, by rw [List.length_map]; exact Nat.le_trans hcl (by decide), al_I cells G2⟩
  have k2 := gq.trans g2.st ⟨_, hs0⟩ ⟨_, hc0⟩ ⟨_, hs⟩ ⟨_, hc⟩ gs gc
  have s2 : G2 st = none := g2.owned hs s1
  have c2 : G2 c = none := g2.owned hc c1
  have hs2 := g2.h _ _ hs
  have hc2 := g2.h _ _ hc
  have r2 := g2.r _ r'
  clear g2 gq r' hs hc
  by_cases hb : a = 0 ∧ cells ≠ []
  · obtain ⟨rfl, hne⟩ := hb
    obtain ⟨x, xs, rfl⟩ := List.exists_cons_of_ne_nil hne
    rw [if_pos (by simp)]
    refine ⟨fun σ' H' => DrI st c m cnt G H xs.length σ' H', fun σ' H' h' => ⟨xs.length, by simp, h'⟩, ?_⟩
    refine Ev.lend (te := tOp (rIx K) (tVar 0) (tC (.int 0))) (c := .ref c) (b := true) (ev_it rfl upd_same (by simp) (j := 0) rfl rfl) r2 s2 hs2 fun G3 H3 g3 s3 hs3 => ?_
    have hc3 := g3.h _ _ hc2
    have c3 : G3 c = none := g3.owned hc2 c2
    have k3 := k2.trans g3.st ⟨_, hs0⟩ ⟨_, hc0⟩ ⟨_, hs2⟩ ⟨_, hc2⟩ gs gc
    refine ⟨.inl ⟨rfl, _, SqL.of hc3⟩, c, _, 0, 0, .int x, rfl, rfl, hc3, by decide, by decide, (ixN_seq (i := 0) (j := 0) (by unfold ixN; simp)).1, rfl, ?_⟩
    have k4 : GoS st c G H G3 (upd H3 c (.lst (xs.map V.int))) := k3.putC c3
    have hs4 : (upd H3 c (.lst (xs.map V.int))) st = _ := (upd_ne ne).trans hs3
    have hc4 : (upd H3 c (.lst (xs.map V.int))) c = _ := upd_same
    have r4 : Rel true G3 (upd H3 c (.lst (xs.map V.int))) := (g3.r _ r2).own c3
    show tSeq _ _ _ _ (upd H3 c (.lst (xs.map V.int)))
    generalize upd H3 c (.lst (xs.map V.int)) = H4 at k4 hs4 hc4 r4 ⊢
    refine tq_put (b := true) (kk := 3) (v := .int ((mm * 8191 + x + 3).fmod 2147483647)) (H := H4) (ev_modI (ev_intI (ev_addI (ev_addI (ev_mulI (ev_it rfl upd_same (by simp) (j := 3) rfl rfl) ev_int (.inr ⟨by decide, by decide⟩)) (ev_var rfl rfl)) ev_int)) ev_int (by decide)) rfl r4 s3 hs4 (j := 3) rfl fun G5 H5 g5 s5 => ?_
    have hc5 := g5.h _ _ hc4
    have hs5 := g5.h _ _ hs4
    have c5 : G5 c = none := g5.owned hc4 c3
    have k5 := k4.trans g5.st ⟨_, hs0⟩ ⟨_, hc0⟩ ⟨_, hs4⟩ ⟨_, hc4⟩ gs gc
    have r5 := g5.r _ r4
    show tAsg _ _ _ _ _
    refine ts_put (b := true) (i := 0) (kk := 1) (v := .int (if 10 ^ 18 ≤ x then x else 0)) (ev_if (et_test (ev_leI (ev_var rfl rfl) (ev_powI ev_int ev_int ⟨by decide, by decide, by decide⟩))) (fun e => ?_) fun e => ?_) rfl (r5.own s5) s5 upd_same (j := 1) rfl fun G6 H6 g6 s6 => ?_
    · rw [if_pos (show (10 : Int) ^ 18 ≤ x from of_decide_eq_true e)]
      exact ev_var rfl rfl
    · rw [if_neg (show ¬ (10 : Int) ^ 18 ≤ x from of_decide_eq_false e)]
      exact ev_int
    · have hc6 := g6.h _ _ (show (upd H5 st _) c = some (.lst (xs.map V.int)) from (upd_ne ne.symm).trans hc5)
      have c6 : G6 c = none := g6.owned (show (upd H5 st _) c = some (.lst (xs.map V.int)) from (upd_ne ne.symm).trans hc5) c5
      have k6 := ((k5.putS s5).trans g6.st ⟨_, hs0⟩ ⟨_, hc0⟩ ⟨_, upd_same⟩ ⟨_, (upd_ne ne.symm).trans hc5⟩ gs gc).putS s6 (o := .lst [.ref c, .int (if 10 ^ 18 ≤ x then x else 0), .int ((cnt : Int) + 1), .int ((mm * 8191 + x + 3).fmod 2147483647)])
      refine ⟨xs, (if 10 ^ 18 ≤ x then x else 0), (mm * 8191 + x + 3).fmod 2147483647, _, _, _, G6, rfl, k6, s6, c6, upd_same, (upd_ne ne.symm).trans hc6, ?_, Int.fmod_nonneg_of_pos _ (by decide), Int.fmod_lt_of_pos _ (by decide), by simp at hcl; omega, rfl⟩
      split
      · rename_i hx
        exact Int.le_trans (by decide) hx
      · exact Int.le_refl 0
  · rw [if_neg (by simpa using hb)]
    show tSeq _ _ _ _ H2
    clear hb
    have hm0' : (m : Int) ≠ 0 := by omega
    have hmp : (0 : Int) < (m : Int) := by omega
    refine EvT.lend (tt := tTest (tOp (rI0 fun i j => .bl (decide (j < i))) (tOp (rIx K) (tVar 0) (tC (.int 1))) (tC (.int 0)))) (b := true) (c := decide (0 < a)) (et_test (ev_gtI (ev_it rfl upd_same (by simp) (j := 1) rfl rfl) ev_int)) r2 s2 hs2 fun G3 H3 g3 s3 hs3 => ?_
    have hc3 := g3.h _ _ hc2
    have c3 : G3 c = none := g3.owned hc2 c2
    have k3 := k2.trans g3.st ⟨_, hs0⟩ ⟨_, hc0⟩ ⟨_, hs2⟩ ⟨_, hc2⟩ gs gc
    have r3 := g3.r _ r2
    by_cases hp : 0 < a
    · rw [if_pos (decide_eq_true hp)]
      refine tq_setL (b := true) (xs := [.ref c, .int a, .int ((cnt : Int) + 1), .int mm]) (v := .int (a.fmod m)) (ev_modI (ev_intI (ev_it rfl upd_same (by simp) (j := 1) rfl rfl)) (ev_var rfl rfl) hm0') r3 s3 hs3 fun G4 H4 g4 s4 hs4 => ?_
      have hc4 := g4.h _ _ hc3
      have c4 : G4 c = none := g4.owned hc3 c3
      have k4 := k3.trans g4.st ⟨_, hs0⟩ ⟨_, hc0⟩ ⟨_, hs3⟩ ⟨_, hc3⟩ gs gc
      have r4 := g4.r _ r3
      refine tq_put (b := true) (v := .int (a.fdiv m)) (ev_divI (ev_it rfl upd_same (by simp) (j := 1) rfl rfl) (ev_var rfl rfl) ⟨hm0', by omega⟩) rfl r4 s4 hs4 (j := 1) rfl fun G5 H5 g5 s5 => ?_
      have hc5 := g5.h _ _ hc4
      have c5 : G5 c = none := g5.owned hc4 c4
      have k5 := (k4.trans g5.st ⟨_, hs0⟩ ⟨_, hc0⟩ ⟨_, hs4⟩ ⟨_, hc4⟩ gs gc).putS s5 (o := .lst [.ref c, .int (a.fdiv m), .int ((cnt : Int) + 1), .int mm])
      have r5 := (g5.r _ r4).own s5 (o := .lst [.ref c, .int (a.fdiv m), .int ((cnt : Int) + 1), .int mm])
      refine ⟨.int (a.fmod m), rfl, k _ G5 _ k5 ⟨ne, s5, c5, cells, a.fdiv m, mm, cnt + 1, upd_same, (upd_ne ne.symm).trans hc5, ?_, Nat.add_le_add_right hcnt 1, hm2, hm3, hcl⟩ r5 (dw_of (Int.fmod_nonneg_of_pos _ hmp) (Int.fmod_lt_of_pos _ hmp))⟩
      rw [Int.fdiv_eq_ediv_of_nonneg _ (by omega)]
      exact Int.ediv_nonneg (by omega) (by omega)
    · rw [if_neg (by simpa using hp)]
      dsimp only [tNext]
      have hb1 : (mm + 7919 * ((cnt : Int) + 1) + 104729).natAbs < 2 ^ 64 := by omega
      have m1 : CMul 7919 ((cnt : Int) + 1) := .inl ⟨by decide, by decide⟩
      have p1 : CPow (mm + 7919 * ((cnt : Int) + 1) + 104729) 5 := ⟨by decide, by decide, hb1⟩
      have z1 : (2147483629 : Int) ≠ 0 := by decide
      have z2 : (1000000007 : Int) ≠ 0 := by decide
      refine tq_setL (b := true) (xs := [.ref c, .int a, .int ((cnt : Int) + 1), .int mm]) (v := .int (((mm + 7919 * ((cnt : Int) + 1) + 104729) ^ 5).fmod 2147483629)) (ev_modI (ev_intI (ev_powI (ev_addI (ev_addI (ev_it rfl upd_same (by simp) (j := 3) rfl rfl) (ev_mulI ev_int (ev_it rfl upd_same (by simp) (j := 2) rfl rfl) m1)) ev_int) ev_int p1)) ev_int z1) r3 s3 hs3 fun G4 H4 g4 s4 hs4 => ?_
      have hc4 := g4.h _ _ hc3
      have c4 : G4 c = none := g4.owned hc3 c3
      have k4 := k3.trans g4.st ⟨_, hs0⟩ ⟨_, hc0⟩ ⟨_, hs3⟩ ⟨_, hc3⟩ gs gc
      have r4 := g4.r _ r3
      have q1 := Int.fmod_nonneg_of_pos ((mm + 7919 * ((cnt : Int) + 1) + 104729) ^ 5) (show (0 : Int) < 2147483629 by decide)
      have q2 := Int.fmod_lt_of_pos ((mm + 7919 * ((cnt : Int) + 1) + 104729) ^ 5) (show (0 : Int) < 2147483629 by decide)
      generalize ((mm + 7919 * ((cnt : Int) + 1) + 104729) ^ 5).fmod 2147483629 = y at q1 q2
      have hb2 : (y * 48271 + 30011 * ((cnt : Int) + 1) + 29).natAbs < 2 ^ 64 := by omega
      have m2 : CMul y 48271 := .inr ⟨by decide, by decide⟩
      have m3 : CMul 30011 ((cnt : Int) + 1) := .inl ⟨by decide, by decide⟩
      have p2 : CPow (y * 48271 + 30011 * ((cnt : Int) + 1) + 29) 3 := ⟨by decide, by decide, hb2⟩
      refine ts_retL (b := true) (xs := [.ref c, .int a, .int ((cnt : Int) + 1), .int mm]) (v := .int ((((y * 48271 + 30011 * ((cnt : Int) + 1) + 29) ^ 3).fmod 1000000007).fmod m)) (ev_modI (ev_modI (ev_intI (ev_powI (ev_addI (ev_addI (ev_mulI (ev_var rfl rfl) ev_int m2) (ev_mulI ev_int (ev_it rfl upd_same (by simp) (j := 2) rfl rfl) m3)) ev_int) ev_int p2)) ev_int z2) (ev_var rfl rfl) hm0') r4 s4 hs4 fun G5 H5 g5 s5 hs5 => ?_
      have hc5 := g5.h _ _ hc4
      have c5 : G5 c = none := g5.owned hc4 c4
      have k5 := k4.trans g5.st ⟨_, hs0⟩ ⟨_, hc0⟩ ⟨_, hs4⟩ ⟨_, hc4⟩ gs gc
      exact k _ G5 _ k5 ⟨ne, s5, c5, cells, a, mm, cnt + 1, hs5, hc5, ha0, Nat.add_le_add_right hcnt 1, hm2, hm3, hcl⟩ (g5.r _ r4) (dw_of (Int.fmod_nonneg_of_pos _ hmp) (Int.fmod_lt_of_pos _ hmp))
end
end Gd

-- part P8
set_option Elab.async false
set_option linter.all false
set_option maxRecDepth 100000
set_option maxHeartbeats 1000000
namespace Gd
open PySem PySem.Spec PyProof.Rows L2
abbrev s_pick : Stmt := topS 26
theorem sc_pick : FnScope ["_law_stream", "_law_some"] ["_law_stream", "_law_some"] (defScope s_pick) := ⟨rfl, rfl, rfl, by decide +kernel, rfl, by decide +kernel, by decide +kernel⟩
abbrev s_mixed : Stmt := topS 27
theorem sc_mixed : FnScope ["_law_stream", "_law_some", "_law_left", "_law_k"] ["_law_stream", "_law_some"] (defScope s_mixed) := ⟨rfl, rfl, rfl, by decide +kernel, rfl, by decide +kernel, by decide +kernel⟩
section
variable {P : Program} {w : World} {K : PySem.W.Frag} {mg : Str → Option Value} {base : Heap} {aL : Addr}
section
variable {s c : Addr} {k m : Nat} {σ : L2.St} {G G' H : Hp} {t ta tb te : TE} {R R' : SR} {α β : Type} {e : α → SR} {D : Ends} {u : TS}
theorem td_ret {nx bk ct : L2.St → Hp → Prop} {Q : VK} {n : Nat} (h : EvD s c k te σ G R) (r : Rel true G H) (d : Dr s c n G H) (hn : n + k ≤ 1000000) (q : ∀ v G2 H2, GoS s c G H G2 H2 → Dr s c (n + k) G2 H2 → Rel true G2 H2 → R.p v G2 → Q v H2) : tRet te ⟨nx, Q, bk, ct⟩ σ H := h.run r d hn q
theorem tdq_set {i n : Nat} (h : EvD s c k te σ G R) (r : Rel true G H) (d : Dr s c n G H) (hn : n + k ≤ 1000000) (q : ∀ v G2 H2, GoS s c G H G2 H2 → Dr s c (n + k) G2 H2 → Rel true G2 H2 → R.p v G2 → u D (σ.set i (some v)) H2) : tSeq (tAsg te (gName i)) u D σ H := h.run r d hn q
theorem EvD.fin {n : Nat} {Q : VK} {v : V} {G1 H1 G2 H2 G3 H3 : Hp} (q : ∀ v G2 H2, GoS s c G1 H1 G2 H2 → Dr s c n G2 H2 → Rel true G2 H2 → R.p v G2 → Q v H2) {n1 : Nat} (d1 : Dr s c n1 G1 H1) (g : GoS s c G1 H1 G2 H2) (d2 : Dr s c n G2 H2) (r2 : Rel true G2 H2) (g3 : Go G2 H2 G3 H3) (p : R.p v G3) : Q v H3 := q v G3 H3 (g.tr g3.st d1 d2) (d2.go g3) (g3.r _ r2) p
end
structure PickI : Type 1 where
  α : Type
  e : α → SR
  xs : List α
def sp_pick (K : PySem.W.Frag) : Sp := spD (fun i : PickI => [Sq K i.e i.xs]) (fun i => i.xs ≠ [] ∧ i.xs.length ≤ 100000) (fun _ => 1) (fun i => ExR (· ∈ i.xs) i.e)
theorem spD_len {ι : Type _} {pre : ι → List SR} {ok : ι → Prop} {cost : ι → Nat} {post : ι → SR} {vs : List V} {H : Hp} {Q : VK} {E : XK} {n : Nat} (h : spD pre ok cost post vs H Q E) (hn : ∀ i, (pre i).length + 1 = n) : vs.length = n := by
  obtain ⟨i, G, s, c, _, rest, rfl, _, _, _, _, al, _⟩ := h
  rw [List.length_cons, alr_len al, hn]
theorem ev_ixSq {b : Bool} {σ : L2.St} {G : Hp} {α : Type} {e : α → SR} {xs : List α} {v : V} {j : Nat} {a : α} (h : (Sq K e xs).p v G) (hx : xs[j]? = some a) : Ev b (tOp (rIx K) (tC v) (tC (.int j))) σ G (e a) := by
  rcases h with h | h
  · exact ev_ixL (ev_cR h) ev_int rfl hx
  · exact ev_ixT (ev_cR h) ev_int rfl hx
theorem ok_pick (F : Fn K mg "_law_pick" s_pick ["_law_stream", "_law_some"]) (T : Txt K mg aL) (c_draw : C8.Cal P w K mg base 1 "_law_draw" sp_draw []) : C8.Cal P w K mg base 2 "_law_pick" (sp_pick K) [] := by
  refine cal_of F sc_pick (fun vs H Q E h => spD_len h fun _ => rfl) (fun f cdv A outer s H vs Q E hr h => ?_)
  obtain ⟨⟨α, e, xs⟩, G, st, c, n, rest, rfl, r, d, hn, ⟨hne, hl⟩, al, k⟩ := h
  obtain ⟨v, rfl, hv⟩ := alr1 al
  refine ⟨_, (pss_one (ps_ret (pe_ix (ix_K (K := K)) (pv 1) (C8.pe_c c_draw hr (by first | decide | omega) rfl (pa_cons (pv 0) (pa_cons (pe_callB (call_lenK (K := K)) rfl T.len PySem.boot_len (pa_cons (pv 1) pa_nil)) pa_nil))) (fun _ _ => rfl)))), ?_⟩
  refine td_ret (s := st) (c := c) (R := ExR (· ∈ xs) e) (fun G1 H1 n a r d hn Q q => ?_) r d hn k
  refine ⟨v, rfl, ?_⟩
  have hv1 : (Sq K e xs).p v G1 := (Sq K e xs).st a hv
  refine EvD.run (ed_call (ι := Nat) xs.length rfl (ea_cons (ev_len (ev_var rfl hv1)) ea_nil) ⟨List.length_pos_iff.mpr hne, by have : xs.length ≤ 100000 := hl; omega⟩) r d hn fun y G2 H2 g d2 r2 ⟨dd, hd, hy⟩ => ?_
  obtain rfl : y = _ := hy
  have hx : xs[dd]? = some xs[dd] := List.getElem?_eq_getElem hd
  exact (ev_ixSq (σ := []) (b := true) ((Sq K e xs).st g.g hv1) hx).run r2 fun u G3 H3 g3 p => EvD.fin q d g d2 r2 g3 ⟨xs[dd], List.getElem_mem hd, p⟩
theorem yesI {σ : L2.St} {A B : Hp → Prop} {H : Hp} (h : A H) : tYes σ H (fun b H3 => if b = true then A H3 else B H3) := h
theorem perm_pick {α : Type} : ∀ (ls : List α) (d : Nat) (x : α), ls[d]? = some x → (x :: ls.eraseIdx d).Perm ls
  | [], d, x, h => by simp at h
  | a :: ls, 0, x, h => by
    simp at h
    subst h
    exact .refl _
  | a :: ls, d + 1, x, h => by
    have ih := perm_pick ls d x (by simpa using h)
    rw [List.eraseIdx_cons_succ]
    exact (List.Perm.swap a x _).trans (ih.cons a)
def sp_mixed (K : PySem.W.Frag) : Sp := spD (fun i : PickI => [Sq K i.e i.xs]) (fun i => i.xs.length ≤ 100000) (fun i => i.xs.length) (fun i => ExR (fun ys => ys.Perm i.xs) (Lst i.e))
theorem ok_mixed (F : Fn K mg "_law_mixed" s_mixed ["_law_stream", "_law_some"]) (T : Txt K mg aL) (c_draw : C8.Cal P w K mg base 1 "_law_draw" sp_draw []) : C8.Cal P w K mg base 2 "_law_mixed" (sp_mixed K) [] := by
  refine cal_of F sc_mixed (fun vs H Q E h => spD_len h fun _ => rfl) (fun f cdv A outer s H vs Q E hr h => ?_)
  obtain ⟨⟨α, e, xs⟩, G, st, c, n, rest, rfl, r, d, hn, hl, al, k⟩ := h
  obtain ⟨v, rfl, hv⟩ := alr1 al
  have hl : xs.length ≤ 100000 := hl
  have hn : n + xs.length ≤ 1000000 := hn
  refine ⟨_, (pss_cons (ps_set (i := 2) sc_mixed.nd rfl (by first | exact Or.inl rfl | exact Or.inr rfl) (pe_callTy (call_listK (K := K)) rfl T.list boot_list (pa_cons (pv 1) pa_nil)))
      (pss_one (ps_ret (pe_lc (own := [("_law_k", 3)]) rfl sc_mixed.nd (pi_range1 rfl T.range (pa_cons (pe_callB (call_lenK (K := K)) rfl T.len PySem.boot_len (pa_cons (pv 2) pa_nil)) pa_nil)) (blkOk_by (by kernel_rfl)) (fun _ _ _ _ _ => (pg_name (i := 3) sc_mixed.nd rfl (by first | exact Or.inl rfl | exact Or.inr rfl))) (fun _ _ _ _ _ => pts_nil) (fun _ _ _ _ _ => (pe_bmK (K := K) PySem.F.plainAttrs_list PySem.F.slot_list_pop PySem.F.type_list_pop mt_popAt (pv 2) (pa_cons (C8.pe_c c_draw hr (by first | decide | omega) rfl (pa_cons (pv 0) (pa_cons (pe_callB (call_lenK (K := K)) rfl T.len PySem.boot_len (pa_cons (pv 2) pa_nil)) pa_nil))) pa_nil))))))), ?_⟩
  refine tq_setN (en_list (ev_var rfl hv)) r fun p G1 H1 g1 o1 => ?_
  have d1 := d.go g1
  have r1 := g1.r _ r
  obtain ⟨us, hp1, al1⟩ := o1.ex
  have nps : p ≠ st := fun z => by obtain ⟨o, h⟩ := d.hs; rw [← z, o1.n0] at h; cases h
  have npc : p ≠ c := fun z => by obtain ⟨o, h⟩ := d.hc; rw [← z, o1.n0] at h; cases h
  have hul : us.length = xs.length := al1.len
  -- range(len(left))
  refine ⟨.ref p, rfl, p, us, rfl, .inl (SqL.of hp1), (us.length : Int), rfl, by omega, by omega, fun D hD => ?_⟩
  have nDp : D ≠ p := fun z => by rw [z, hp1] at hD; cases hD
  have nDs : D ≠ st := fun z => by obtain ⟨o, h⟩ := d1.hs; rw [← z, hD] at h; cases h
  have nDc : D ≠ c := fun z => by obtain ⟨o, h⟩ := d1.hc; rw [← z, hD] at h; cases h
  have hDG : G1 D = none := r1.free hD
  refine ⟨fun i m H' => m = xs.length - i ∧ i ≤ xs.length ∧ ∃ G' left acc ls rs, GoS st c G H G' H' ∧ Dr st c (n + i) G' H' ∧ Rel true G' H' ∧ G' p = none ∧ G' D = none ∧ H' p = some (.lst left) ∧ H' D = some (.lst acc) ∧ Al e ls left G' ∧ Al e rs acc G' ∧ (rs ++ ls).Perm xs ∧ rs.length = i,
    ⟨xs.length, rfl, Nat.zero_le _, G1, us, [], xs, [], (g1.trans (Go.own r1 hD)).st, d1.wr nDs nDc, r1.own hDG, o1.nG, hDG, by rw [upd_ne nDp.symm]; exact hp1, upd_same, al1, .nil, .refl _, rfl⟩, ?_⟩
  rintro i m H' ⟨rfl, hi, G', left, acc, ls, rs, gq, dq, rq, np, nD, hp, hDD, al2, al3, perm, hlen⟩
  have hll : ls.length = xs.length - i := by
    have := perm.length_eq
    rw [List.length_append] at this
    omega
  by_cases hlt : i < xs.length
  · refine .inr ⟨by show i < _; omega, fun H' => ∃ G' left acc ls rs, GoS st c G H G' H' ∧ Dr st c (n + (i + 1)) G' H' ∧ Rel true G' H' ∧ G' p = none ∧ G' D = none ∧ H' p = some (.lst left) ∧ H' D = some (.lst acc) ∧ Al e ls left G' ∧ Al e rs acc G' ∧ (rs ++ ls).Perm xs ∧ rs.length = i + 1, fun H' h' => ⟨xs.length - (i + 1), by omega, rfl, hlt, h'⟩, fun x H'' y => ?_⟩
    obtain ⟨rfl, rfl⟩ := y
    refine ⟨rfl, ?_⟩
    refine yesI ?_
    refine ⟨.ref p, rfl, .inl ⟨rfl, left, SqL.of hp⟩, _, rfl, .ref p, rfl, p, left, rfl, .inl (SqL.of hp), left.length, G', st, c, n + i, [.int left.length], rfl, rq, dq, by show n + i + 1 ≤ 1000000; omega, ⟨by rw [al2.len]; omega, by rw [al2.len]; omega⟩, .cons rfl .nil, fun y G2 H2 g2 d2 r2 ⟨dd, hd, hy⟩ => ?_⟩
    obtain rfl : y = _ := hy
    have hdl : dd < ls.length := by rw [← al2.len]; exact hd
    have hp2 : H2 p = some (.lst left) := g2.h _ _ nps npc hp
    have hD2 : H2 D = some (.lst acc) := g2.h _ _ nDs nDc hDD
    have np2 : G2 p = none := (g2.n _ _ hp).trans np
    have nD2 : G2 D = none := (g2.n _ _ hDD).trans nD
    refine ⟨p, left, dd, dd, left[dd], rfl, rfl, hp2, by omega, by have : xs.length ≤ 100000 := hl; rw [al2.len] at hd; omega, (ixN_seq (by unfold ixN; rw [if_pos (by omega), if_pos (by omega)]; simp)).1, List.getElem?_eq_getElem hd, acc, by rw [upd_ne nDp]; exact hD2, ?_, ?_⟩
    · rw [al3.len]
      have : sizeLine = 16777216 := sizeLine_eq
      omega
    · obtain ⟨a0, ha0, pa0⟩ := al2.get (List.getElem?_eq_getElem hd)
      have k3 := gq.tr g2 d dq
      have w1 : Dr st c (n + (i + 1)) G2 (upd (upd H2 p (.lst (left.eraseIdx dd))) D (.lst (acc ++ [left[dd]]))) := (d2.wr nps npc).wr nDs nDc
      refine ⟨G2, left.eraseIdx dd, acc ++ [left[dd]], ls.eraseIdx dd, rs ++ [a0], ?_, w1, (r2.own np2).own nD2, np2, nD2, by rw [upd_ne nDp.symm]; exact upd_same, upd_same, (al2.st g2.g).erase dd, (al3.st g2.g).snoc ((e a0).st g2.g pa0), ?_, by rw [List.length_append, hlen]; rfl⟩
      · exact (k3.wr o1.n0 np2).wr (g1.free hD) nD2
      · rw [List.append_assoc]
        exact ((perm_pick ls dd a0 ha0).append_left rs).trans perm
  · have e0 : i = xs.length := by omega
    subst e0
    have els : ls = [] := List.length_eq_zero_iff.mp (by omega)
    subst els
    rw [List.append_nil] at perm
    refine .inl ⟨by show us.length ≤ _; omega, ?_⟩
    have hacc : acc.length ≤ sizeLine := by
      have : sizeLine = 16777216 := sizeLine_eq
      rw [al3.len]; omega
    exact k (.ref D) (upd G' D (.lst acc)) H' (gq.give (g1.free hD) nD hDD) (dq.give nDs nDc) (rq.give hDD) ⟨rs, perm, D, acc, rfl, upd_same, hacc, al3.st (Same.new nD)⟩
end
end Gd

-- part P9
set_option Elab.async false
set_option linter.all false
set_option maxRecDepth 100000
set_option maxHeartbeats 1000000
namespace Gd
open PySem PySem.Spec PyProof.Rows L2
abbrev s_d_names : Stmt := topS 30
theorem sc_d_names : FnScope ["_law_stream", "_law_many", "_law_some"] ["_law_stream", "_law_many"] (defScope s_d_names) := ⟨rfl, rfl, rfl, by decide +kernel, rfl, by decide +kernel, by decide +kernel⟩
section
variable {P : Program} {w : World} {K : PySem.W.Frag} {mg : Str → Option Value} {base : Heap} {aL : Addr}
/-- pick, by the very value -/
def sp_pickV (K : PySem.W.Frag) : Sp := fun vs H Q _ => ∃ (G : Hp) (s c : Addr) (n : Nat) (p : Addr) (us : List V), vs = [.ref s, .ref p] ∧ Rel true G H ∧ Dr s c n G H ∧ n + 1 ≤ 1000000 ∧ p ≠ s ∧ p ≠ c ∧ H p = some (.lst us) ∧ us ≠ [] ∧ us.length ≤ 100000 ∧
  ∀ (j : Nat) (u : V) (G2 H2 : Hp), us[j]? = some u → GoS s c G H G2 H2 → Dr s c (n + 1) G2 H2 → Rel true G2 H2 → Q u H2
theorem ok_pickV (F : Fn K mg "_law_pick" s_pick ["_law_stream", "_law_some"]) (T : Txt K mg aL) (c_draw : C8.Cal P w K mg base 1 "_law_draw" sp_draw []) : C8.Cal P w K mg base 2 "_law_pick" (sp_pickV K) [] := by
  refine cal_of F sc_pick (fun vs H Q E h => ?_) (fun f cdv A outer s H vs Q E hr h => ?_)
  · obtain ⟨_, _, _, _, _, _, rfl, _⟩ := h
    rfl
  obtain ⟨G, st, c, n, p, us, rfl, r, d, hn, n1, n2, hp, hne, hl, k⟩ := h
  refine ⟨_, (pss_one (ps_ret (pe_ix (ix_K (K := K)) (pv 1) (C8.pe_c c_draw hr (by first | decide | omega) rfl (pa_cons (pv 0) (pa_cons (pe_callB (call_lenK (K := K)) rfl T.len PySem.boot_len (pa_cons (pv 1) pa_nil)) pa_nil))) (fun _ _ => rfl)))), ?_⟩
  refine ⟨.ref p, rfl, _, rfl, .ref p, rfl, p, us, rfl, .inl (SqL.of hp), us.length, G, st, c, n, [.int us.length], rfl, r, d, hn, ⟨List.length_pos_iff.mpr hne, by omega⟩, .cons rfl .nil, fun y G2 H2 g2 d2 r2 ⟨dd, hd, hy⟩ => ?_⟩
  obtain rfl : y = _ := hy
  have hx : us[dd]? = some us[dd] := List.getElem?_eq_getElem hd
  exact .inl ⟨p, us, dd, us[dd], rfl, rfl, SqL.of (g2.h _ _ n1 n2 hp), atI_nat hx, k dd _ G2 H2 hx g2 d2 r2⟩
def names10 : List Str := ["b", "aa", "c1", "docs", "z9", "a", "m3", "abcdefghijk1", "no", "yes"]
theorem names_ok : ∀ x ∈ names10, isName x = true := by decide +kernel
theorem names_nd : names10.Nodup := by decide +kernel
def goodN (ys : List Str) : Prop := ys.Nodup ∧ ∀ y ∈ ys, y ∈ names10
def sp_d_names : Sp := spD (fun m : Nat => [I m]) (fun m => m ≤ 10) (fun _ => 10) (fun m => ExR (fun ys => goodN ys ∧ ys.length = m) (Lst S))
theorem ok_d_names (F : Fn K mg "_law_d_names" s_d_names ["_law_stream", "_law_many"]) (T : Txt K mg aL) (c_mixed : C8.Cal P w K mg base 2 "_law_mixed" (sp_mixed K) []) : C8.Cal P w K mg base 3 "_law_d_names" sp_d_names [] := by
  refine cal_of F sc_d_names (fun vs H Q E h => spD_len h fun _ => rfl) (fun f cdv A outer s H vs Q E hr h => ?_)
  obtain ⟨m, G, st, c, n, rest, rfl, r, d, hn, hm, al, k⟩ := h
  obtain ⟨v, rfl, hv⟩ := alr1 al
  refine ⟨_, (pss_cons (ps_set (i := 2) sc_d_names.nd rfl (by first | exact Or.inl rfl | exact Or.inr rfl) (pe_lst (pa_cons pe_str (pa_cons pe_str (pa_cons pe_str (pa_cons pe_str (pa_cons pe_str (pa_cons pe_str (pa_cons pe_str (pa_cons pe_str (pa_cons pe_str (pa_cons pe_str pa_nil))))))))))))
      (pss_one (ps_ret (pe_slice (sl_lK (K := K)) (C8.pe_c c_mixed hr (by first | decide | omega) rfl (pa_cons (pv 0) (pa_cons (pv 2) pa_nil))) po_none (po_some (pv 1)))))), ?_⟩
  refine tq_set (EvN.ev (en_lst (e := S) (xs := names10) ?_ (by decide))) r fun u G1 H1 g1 hu => ?_
  · show EvA _ _ _ _ [_, _, _, _, _, _, _, _, _, _]
    exact ea_cons ev_str (ea_cons ev_str (ea_cons ev_str (ea_cons ev_str (ea_cons ev_str (ea_cons ev_str (ea_cons ev_str (ea_cons ev_str (ea_cons ev_str (ea_cons ev_str ea_nil)))))))))
  have d1 := d.go g1
  have r1 := g1.r _ r
  refine td_ret (s := st) (c := c) (k := 10) (R := ExR (fun ys => goodN ys ∧ ys.length = m) (Lst S)) (fun G1' H1' n a r d hn Q q => ?_) r1 d1 hn fun v G2 H2 g2 d2 r2 p => k v G2 H2 (g1.st.tr g2 d d1) d2 r2 p
  refine EvD.run (t := tCall (sp_mixed K) [] C8.E0 (tCons (tVar 0) (tCons (tVar 2) tNil))) (ed_call (ι := PickI) ⟨Str, S, names10⟩ rfl (ea_cons (Ev.sqL (ev_var rfl ((Lst S names10).st a hu))) ea_nil) (by show 10 ≤ 100000; decide)) r d hn fun y G2 H2 g d2 r2 ⟨ys, hperm, hy⟩ => ?_
  have hperm : ys.Perm names10 := hperm
  refine Ev.run (b := true) (t := tSl (rSlL K) (tC y) tNoPart (tPart (tVar 1))) (EvN.ev (en_takeL (n := m) (ev_cR hy) (eo_some (ev_var rfl hv)))) r2 fun u G3 H3 g3 p => EvD.fin q d g d2 r2 g3 ⟨ys.take m, ⟨⟨?_, fun x hx => hperm.mem_iff.mp (List.mem_of_mem_take hx)⟩, by have hm : m ≤ 10 := hm; have e : ys.length = 10 := hperm.length_eq; rw [List.length_take, e]; omega⟩, p⟩
  exact List.Nodup.sublist (List.take_sublist m ys) (hperm.nodup_iff.mpr names_nd)
def lotOf (cs l : List Str) : Prop := Sd PyData.str l ∧ l.Nodup ∧ ∀ x ∈ l, x ∈ cs
abbrev IN : Nat → SR := fun n => I n
def sp_ru_lot (K : PySem.W.Frag) : Sp := spD (fun i : List Str × List Nat => [Lst S i.1, Lst IN i.2]) (fun i => i.1.Nodup ∧ i.1.length ≤ 10 ∧ i.2 ≠ [] ∧ i.2.length ≤ 100) (fun i => 11) (fun i => ExR (lotOf i.1) (Tpl K S))
end
end Gd

-- part P10
set_option Elab.async false
set_option linter.all false
set_option maxRecDepth 100000
set_option maxHeartbeats 1000000
namespace Gd
open PySem PySem.Spec PyProof.Rows L2
section
variable {P : Program} {w : World} {K : PySem.W.Frag} {mg : Str → Option Value} {base : Heap} {aL : Addr}
theorem run1 {rc : List V → Hp → VK → Prop} {y : V} {G H : Hp} {R' : SR} (h : Ev true (tCB rc (tCons (tC y) tNil)) [] G R') (r : Rel true G H) {Q : VK} (k : ∀ u G2 H2, Go G H G2 H2 → R'.p u G2 → Q u H2) : rc [y] H Q := h.run r k
def lotRule (cs : List Str) (p : Rule) : Prop := p.1 ∈ cs ∧ lotOf cs p.2.1 ∧ lotOf cs p.2.2
def bl1 : List (List Nat) := [[0, 1], [0, 0, 1, 2], [1, 2], [0, 1, 1]]
def bl2 : List (List Nat) := [[1], [0, 1, 1, 2], [0, 0, 1], [0]]
theorem ev_lN1 {b : Bool} {σ : L2.St} {G : Hp} {x : Nat} : Ev b (tLst (tCons (tC (.int x)) tNil)) σ G (Lst IN [x]) := EvN.ev (en_lst (xs := [x]) (ea_cons ev_int ea_nil) (by simp))
theorem ev_lN2 {b : Bool} {σ : L2.St} {G : Hp} {x y : Nat} : Ev b (tLst (tCons (tC (.int x)) (tCons (tC (.int y)) tNil))) σ G (Lst IN [x, y]) := EvN.ev (en_lst (xs := [x, y]) (ea_cons ev_int (ea_cons ev_int ea_nil)) (by simp))
theorem ev_lN3 {b : Bool} {σ : L2.St} {G : Hp} {x y z : Nat} : Ev b (tLst (tCons (tC (.int x)) (tCons (tC (.int y)) (tCons (tC (.int z)) tNil)))) σ G (Lst IN [x, y, z]) := EvN.ev (en_lst (xs := [x, y, z]) (ea_cons ev_int (ea_cons ev_int (ea_cons ev_int ea_nil))) (by simp))
theorem ev_lN4 {b : Bool} {σ : L2.St} {G : Hp} {x y z u : Nat} : Ev b (tLst (tCons (tC (.int x)) (tCons (tC (.int y)) (tCons (tC (.int z)) (tCons (tC (.int u)) tNil))))) σ G (Lst IN [x, y, z, u]) := EvN.ev (en_lst (xs := [x, y, z, u]) (ea_cons ev_int (ea_cons ev_int (ea_cons ev_int (ea_cons ev_int ea_nil)))) (by simp))
def sp_ru_rules (K : PySem.W.Frag) : Sp := spD (fun i : List Str × Nat => [Lst S i.1, I i.2]) (fun i => i.1.Nodup ∧ i.1.length ≤ 10 ∧ 0 < i.2 ∧ i.2 ≤ 20) (fun _ => 500) (fun i => ExR (fun rs : List Rule => rs.length ≤ i.2 ∧ ∀ r ∈ rs, lotRule i.1 r) (Lst (RT K)))
def sp_ru_known (K : PySem.W.Frag) : Sp := spD (fun i : Nat × Nat => [I i.1, I i.2]) (fun i => i.1 ≤ 9 ∧ 0 < i.2 ∧ i.2 ≤ 20) (fun _ => 600) (fun i => ExR (fun x : List Str × List Rule => Sd PyData.str x.1 ∧ goodN x.1 ∧ x.1.length ≤ i.1 ∧ x.2.length ≤ i.2 ∧ ∀ r ∈ x.2, lotRule x.1 r) (Pr K (Lst S) (Lst (RT K))))
end
end Gd

-- part P11
set_option Elab.async false
set_option linter.all false
set_option maxRecDepth 100000
set_option maxHeartbeats 1000000
namespace Gd
open PySem PySem.Spec PyProof.Rows L2
section
variable {P : Program} {w : World} {K : PySem.W.Frag} {mg : Str → Option Value} {base : Heap} {aL : Addr}
/-- what may be loosened -/
inductive Lo (K : PySem.W.Frag) : Nat → SR → Nat → Prop
  | s {n m : Nat} (x : Str) : Lo K n (S x) m
  | q {n m : Nat} {α : Type} {e : α → SR} {xs : List α} : (∀ x ∈ xs, Lo K n (e x) m) → Lo K (n + 1) (Sq K e xs) (xs.length * m + 1)
def sp_loose (K : PySem.W.Frag) (n : Nat) : Sp := spD (fun i : SR × Nat => [i.1]) (fun i => Lo K n i.1 i.2) (fun i => i.2) (fun i => i.1)
theorem ed_loose {s c : Addr} {σ : L2.St} {G : Hp} {ta : TE} {E : XK} {i j m : Nat} {R : SR} (hs : σ[i]? = some (some (.ref s))) (h : Ev true ta σ G R) (hl : Lo K j R m) : EvD s c m (tCall (sp_loose K j) [] E (tCons (tVar i) (tCons ta tNil))) σ G R := ed_call (ι := SR × Nat) (pre := fun i => [i.1]) (ok := fun i => Lo K j i.1 i.2) (cost := fun i => i.2) (post := fun i => i.1) (R, m) hs (ea_cons h ea_nil) hl
end
end Gd

-- part Gd20
set_option Elab.async false
set_option linter.all false
set_option maxRecDepth 100000
set_option maxHeartbeats 1000000
/-! ### own errors with one field; defs that raise them; a lambda handed to the def that catches them -/
namespace Gd
open PySem PySem.Spec PyProof.Rows L2
universe u
/-- what the error's __init__ does: self.f = y -/
def sp_exI (C : Addr) (f : Str) : Sp := fun vs H Q _ => ∃ a y, vs = [.ref a, y] ∧ OneEx C f a y H Q
where OneEx (C : Addr) (f : Str) (a : Addr) (y : V) (H : Hp) (Q : VK) : Prop := H a = some (exo a C none) ∧ ∀ dx, H dx = none → dx ≠ a → Q .non (upd (upd H dx (exd dx [(f, y)])) a (exo a C (some dx)))
/-- an own error class x at C with the one field f -/
structure ExC (P : Program) (w : World) (K : PySem.W.Frag) (mg : Str → Option Value) (base : Heap) (x : Str) (C : Addr) (f : Str) : Prop where
  gC : mg x = some (.ref C)
  oex : OexC K C
  xf : XfC K C
  noF : PySem.W.findIn K (.ref C) f = some none
  te : PySem.W.exmOne K (.ref C) (.ref C) = some true
  ini : ∃ fI fd, PySem.W.findIn K (.ref C) "__init__" = some (some (.ref fI)) ∧ PySem.W.typeIn K (.ref fI) = some (.type "function") ∧ FnOk P w K mg base C8.CX0 1 fI fd ["self", f] (sp_exI C f) ∧ Binds K fd ["self", f] []
section
variable {X : Cx} {x f : Str} {C : Addr} {e : Expr} {ta : TA} {p pos : Pos} {j : Nat}
theorem pmk_exc (E : ExC X.prog X.w X.K X.mg X.base x C f) (hr : Room j X.A) (hj : 2 ≤ j) (hg : Gl X x) (ha : PA X [e] ta) (hdb : (x == ("__debug__" : Str)) = false := by decide)
    (he : starEach [e] X.env = (false, eval e X.env) :: starEach [] X.env := by rfl) (hpl : (backTo pos (starEach [] X.env)).any (·.1) = false := by rfl) :
    PMk X (.Call (.Name x p) [e] [] pos) (tMkO C (sp_exI C f) [] ta) := by
  obtain ⟨fI, fd, h1, h2, h3, h4⟩ := E.ini
  exact pmk_oex E.oex h1 h2 h3 (hr.mono hj) h4 .nil C8.pass0 hg E.gC ha hdb he hpl
end
section
variable {P : Program} {w : World} {K : PySem.W.Frag} {mg : Str → Option Value} {base : Heap} {b : Bool} {σ : L2.St} {G G' H : Hp} {te : TE} {ta : TA} {R : SR} {C : Addr} {x f : Str}
theorem ts_exI {D : Ends} {a : Addr} {y : V} {H : Hp} {Q : VK} (hC : OexC K C) (hn : PySem.W.findIn K (.ref C) f = some none) (h : sp_exI.OneEx C f a y H Q) : tOst K f (tVar 0) (tVar 1) { nx := fun _ H' => Q .non H', rt := Q } [some (.ref a), some y] H :=
  ⟨y, rfl, .ref a, rfl, a, C, rfl, hC, hn, .inl ⟨h.1, fun dx h1 h2 => h.2 dx h1 h2⟩⟩
/-- C(e): the error and its dict are new -/
theorem mkO_run (h : Ev b te σ G R) (r : Rel b G H) {Q : XK} (k : ∀ v d G2 H2, Go G H G2 H2 → R.p v G2 → G2 d = none → H d = none → H2 d = some (.xd [(f, v)]) → Q (.ref C) (some d) H2) : tMkO C (sp_exI C f) [] (tCons te tNil) σ H Q := by
  refine (ea_cons h ea_nil).run r fun vs G2 H2 g al => ?_
  obtain ⟨v, rfl, hv⟩ : ∃ v, vs = [v] ∧ R.p v G2 := by
    cases al with
    | cons h1 h2 => cases h2; exact ⟨_, rfl, h1⟩
  refine ⟨by show 1 ≤ 1000; decide, fun a ha => ⟨a, v, rfl, upd_same, fun dx hdx hne => ⟨rfl, dx, [(f, v)], upd_same, by rw [upd_ne hne, upd_same], ?_, ?_⟩⟩⟩
  · rw [upd_ne hne] at hdx; exact hdx
  · have hdx2 : H2 dx = none := by rw [upd_ne hne] at hdx; exact hdx
    have e : upd (del (upd (upd (upd H2 a (exo a C none)) dx (exd dx [(f, v)])) a (exo a C (some dx))) a) dx (.xd [(f, v)]) = upd H2 dx (.xd [(f, v)]) := by
      funext z
      by_cases z1 : z = dx
      · subst z1; rw [upd_same, upd_same]
      · rw [upd_ne z1, upd_ne z1]
        by_cases z2 : z = a
        · subst z2; rw [del_same, ha]
        · rw [del_ne z2, upd_ne z2, upd_ne z1, upd_ne z2]
    rw [e]
    have r2 := g.r _ r
    exact k v dx G2 _ (g.trans (Go.own r2 hdx2)) hv (r2.free hdx2) (g.free hdx2) upd_same
/-- a def that raises -/
def spX {ι : Type u} (b : Bool) (pre : ι → List SR) (ok : ι → Prop) (C : Addr) (f : Str) (val : ι → SR) : Sp := fun vs H _ E => ∃ i G, Rel b G H ∧ ok i ∧ AlR (pre i) vs G ∧
  ∀ v d G2 H2, Go G H G2 H2 → (val i).p v G2 → G2 d = none → H d = none → H2 d = some (.xd [(f, v)]) → E (.ref C) (some d) H2
theorem spX_len {ι : Type u} {pre : ι → List SR} {ok : ι → Prop} {val : ι → SR} {vs : List V} {H : Hp} {Q : VK} {E : XK} {n : Nat} (h : spX b pre ok C f val vs H Q E) (hn : ∀ i, (pre i).length = n) : vs.length = n := by
  obtain ⟨i, G, _, _, al, _⟩ := h
  rw [alr_len al, hn]
def CalX (P : Program) (w : World) (K : PySem.W.Frag) (mg : Str → Option Value) (base : Heap) (k : Nat) (x : Str) (ps : List Str) (sp : Sp) : Prop := ∃ (f : Addr) (fd : FuncData), FnOk P w K mg base (L2.CX P w) k f fd ps sp ∧ mg x = some (.ref f) ∧ PySem.W.keepIn K (.ref f) = true ∧ Binds K fd ps []
theorem calX_of {x : Str} {st : Stmt} {N ps : List Str} {k : Nat} {sp : Sp} (F : Fn K mg x st ps) (S : FnScope N ps (defScope st)) (len : ∀ vs H Q E, sp vs H Q E → vs.length = ps.length)
    (hbody : ∀ (f : Addr) (cdv : Value) (A : Around) (outer : List Env) (s : Shared) (H : Hp) (vs : List V) (Q : VK) (E : XK), Room k (A.deeper (envOfC x (defScope st) s.heap.objs.size f cdv)) → sp vs H Q E →
      ∃ t, PSs (cxOf (L2.CX P w) P w K mg base N x (defScope st) f cdv A outer s H E) (defBody st) t ∧ t { nx := fun _ H' => Q .non H', rt := Q } (start N vs) H) : CalX P w K mg base (k + 1) x ps sp := by
  obtain ⟨f, fd, h1, h2, h3⟩ := F
  exact ⟨f, fd, h1.okX S len (hbody f), h2, h1.kp, h3⟩
/-- such a def, called -/
theorem xr_call {ι : Type u} {pre : ι → List SR} {ok : ι → Prop} {val : ι → SR} {b' : Bool} {E : XK} {Q : VK} (i : ι) (ha : EvA b ta σ G (pre i)) (hok : ok i) (r : Rel b G H) (hb : b' = b ∨ b' = false := by first | exact .inl rfl | exact .inr rfl)
    (k : ∀ v d G2 H2, Go G H G2 H2 → (val i).p v G2 → G2 d = none → H d = none → H2 d = some (.xd [(f, v)]) → E (.ref C) (some d) H2) : tCall (spX b' pre ok C f val) [] E ta σ H Q :=
  ha.run r fun vs G2 H2 g al => ⟨i, G2, by
    rcases hb with e | e
    · rw [e]; exact g.r _ r
    · rw [e]; exact (g.r _ r).low, hok, by rw [List.append_nil]; exact al, fun v d G3 H3 g3 p1 p2 p3 p4 => k v d G3 H3 (g.trans g3) p1 p2 (g.free p3) p4⟩
end
section
variable {X : Cx} {x : Str} {k j : Nat} {sp : Sp} {ps : List Str} {es : List Expr} {e : Expr} {t : TA} {p pos : Pos} {E : XK}
/-- .. where what it raises is passed on -/
theorem pe_cx (c : CalX X.prog X.w X.K X.mg X.base k x ps sp) (hr : Room j X.A) (hk : k ≤ j) (hg : Gl X x) (hx : Passes (L2.CX X.prog X.w) X E) (ha : PA X (e :: es) t)
    (hdb : (x == ("__debug__" : Str)) = false := by decide) (he : starEach (e :: es) X.env = (false, eval e X.env) :: starEach es X.env := by rfl) (hpl : (backTo pos (starEach es X.env)).any (·.1) = false := by rfl) :
    PE X (.Call (.Name x p) (e :: es) [] pos) (tCall sp [] E t) := by
  obtain ⟨f, fd, F, hm, kp, b⟩ := c
  exact pe_call F (hr.mono hk) hg hm kp b .nil hx ha hdb he hpl
end
/-! ### the def that calls what it got, and catches -/
/-- what is known of the slots' number -/
theorem pss_len {X : Cx} {b : List Stmt} {t : TS} (h : PSs X b t) : PSs X b (fun D σ H => σ.length = X.N.length → t D σ H) := ⟨fun pins s σ H D I h' => h.run pins s σ H D I (h' I.len)⟩
def exIn (C : Addr) (f word : Str) (Q : VK) : XK := fun cls d H' => cls = .ref C ∧ ∃ dd v, d = some dd ∧ H' dd = some (.xd [(f, v)]) ∧ ∀ p, H' p = none → Q (.ref p) (upd H' p (.tup [.str word, v]))
/-- try: return (told, a()) / except x as e: return (word, e.f) -/
def TMet (C : Addr) (f told word : Str) : (XK → Hp → VK → Prop) → Hp → VK → Prop := fun tl H Q => tTup (tCons (tC (.str told)) (tCons (fun _ H' Q' => tl (exIn C f word Q) H' Q') tNil)) [] H Q
theorem met_gives {X : Cx} {x a xc f told word q en : Str} {sg : Scope} {g C : Addr} {cdg : Value} {j1 j2 jt jw : Nat} {p1 p2 p3 p4 p5 p6 p7 p8 p9 q1 q2 q3 q4 : Pos} (Ex : ExC X.prog X.w X.K X.mg X.base xc C f) (hge : sg.names.lookup xc = some .globalImplicit) (hde : (xc == ("__debug__" : Str)) = false)
    (hnd : ([a, en] : List Str).Nodup) (hkf : sg.names.lookup en = some .local) (hd1 : (en == ("__debug__" : Str)) = false) (hd2 : (en == ("__classdict__" : Str)) = false) (h0 : ∀ fl : Addr, (L2.start [a, en] [V.ref fl])[0]? = some (some (V.ref fl))) :
    LamX.GivesTo X [a, en] x sg g cdg [.Try [.Return (some (.Tuple [.Constant (.str told) jt p1, .Call (.Name a p2) [] [] p3] j1 p4)) p5] [.ExceptHandler (some (.Name xc p6)) (some en) [.Return (some (.Tuple [.Constant (.str word) jw p7, .Attribute (.Name en p8) f p9] j2 q1)) q2] q3] [] [] q4] a q (TMet C f told word) := by
  intro fl c' s H Q tl act hc h
  have hgl : Gl (cxOf C8.CX0 X.prog X.w X.K X.mg X.base [a, en] x sg g cdg X.A X.stack s H C8.E0).nox xc := hge
  refine ⟨_, pss_one (ps_try_as (X := (cxOf C8.CX0 X.prog X.w X.K X.mg X.base [a, en] x sg g cdg X.A X.stack s H C8.E0).nox) (i := 1) (c := .ref C)
      (tb := fun W D σ H => ∃ Ech : XK, (∀ cls d σ' H', Ech cls d H' → W cls d σ' H') ∧ σ[0]? = some (some (.ref fl)) ∧ H c' = some (LamX.CodeO c' q) ∧ tTup (tCons (tC (.str told)) (tCons (fun _ H' Q' => tl Ech H' Q') tNil)) σ H D.rt)
      (ts := fun a cls d D σ H => σ.length = 2 → tRet (tTup (tCons (tC (.str word)) (tCons (tXf a cls d C f (tVar 1)) tNil))) D σ H)
      (Wout := fun _ _ _ _ => False) rfl rfl hnd rfl hkf ⟨hgl, hde, .inl Ex.gC⟩ LamX.takes0 (fun W pn xe tk _ => ?_) (fun a oe cls d pn hz hf => ?_)), ?_⟩
  · refine ⟨fun pins s' σ H' D I h' => ?_⟩
    obtain ⟨Ech, hW, h1, h2, h3⟩ := h'
    have hp := act W pn xe Ech p2 p3 tk hW
    have hq := pss_one (ps_ret (pos := p5) (pe_tup (x1 := j1) (pos := p4) (pa_cons (pe_str (x := told) (j := jt) (pos := p1)) (pa_cons hp pa_nil))))
    exact hq.run pins s' σ H' D I ⟨h1, h2, h3⟩
  · exact pss_len (pss_one (ps_ret (pe_tup (pa_cons pe_str (pa_cons (pe_xf Ex.xf Ex.noF hz hf (pe_var (i := 1) rfl (.inl hkf) hd1 hd2)) pa_nil)))))
  · refine ⟨exIn C f word Q, fun cls d σ' H' z => ?_, h0 fl, hc, h⟩
    obtain ⟨rfl, dd, v, rfl, e3, e4⟩ := z
    refine ⟨true, Ex.te, fun _ a0 ha0 hlen => ?_, fun z => nomatch z⟩
    have hl2 : 1 < σ'.length := by
      rw [List.length_set] at hlen
      omega
    exact ⟨.ref a0, by rw [List.getElem?_set_self hl2], rfl, rfl, dd, _, v, rfl, e3, by simp [List.lookup], by show 2 ≤ sizeLine; decide, e4⟩
end Gd

-- part Gd21
set_option Elab.async false
set_option linter.all false
set_option maxRecDepth 100000
set_option maxHeartbeats 1000000
/-! ### the ghost heap without tables; a lambda that raises, handed on -/
namespace Gd
open PySem PySem.Spec PyProof.Rows L2
universe u
def noT (G : Hp) : Hp := fun a => match G a with
  | none => none
  | some o => if isTb o = true then none else some o
theorem noT_at {G : Hp} {a : Addr} {o : HO} (h : G a = some o) (n : isTb o = false) : noT G a = some o := by
  unfold noT
  rw [h]
  show (if isTb o = true then none else some o) = _
  rw [n]
  rfl
theorem noT_of {G : Hp} {a : Addr} {o : HO} (h : noT G a = some o) : G a = some o ∧ isTb o = false := by
  unfold noT at h
  cases q : G a with
  | none => rw [q] at h; cases h
  | some u =>
    rw [q] at h
    cases z : isTb u with
    | true => have h2 : (if isTb u = true then none else some u) = some o := h; rw [z] at h2; cases h2
    | false => have h2 : (if isTb u = true then none else some u) = some o := h; rw [z] at h2; cases h2; exact ⟨rfl, z⟩
theorem noT_none {G : Hp} {a : Addr} (h : G a = none) : noT G a = none := by
  unfold noT
  rw [h]
theorem noT_sub (G : Hp) : Same (noT G) G := fun _ _ h => (noT_of h).1
theorem noT_rel {b : Bool} {G H : Hp} (r : Rel b G H) : Rel b (noT G) H := fun a o h => r a o (noT_of h).1
theorem ne_tbl {o : HO} (h : isTb o = false) (ps : Array Value) : o ≠ .tbl ps := fun z => by rw [z] at h; cases h
theorem noT_lam {G H H1 : Hp} (r : Rel true G H) (e : LamX.ExtN H H1) : Rel true (noT G) H1 := fun a o h => .inl (e a o (r.ex (noT_of h).1) (ne_tbl (noT_of h).2))
/-- what no table is needed for -/
def NT (R : SR) : Prop := ∀ v G, R.p v G → R.p v (noT G)
section
variable {K : PySem.W.Frag} {α β γ : Type} {e : α → SR} {f : β → SR} {g : γ → SR}
theorem nt_cst {c : V} : NT (cst c) := fun _ _ h => h
theorem nt_S {s : Str} : NT (S s) := fun _ _ h => h
theorem nt_al (he : ∀ a, NT (e a)) {G : Hp} : ∀ {as : List α} {vs : List V}, Al e as vs G → Al e as vs (noT G)
  | _, _, .nil => .nil
  | _, _, .cons h t => .cons (he _ _ _ h) (nt_al he t)
theorem nt_lst (he : ∀ a, NT (e a)) {xs : List α} : NT (Lst e xs) := fun v G ⟨a, vs, h1, h2, h3, h4⟩ => ⟨a, vs, h1, noT_at h2 rfl, h3, nt_al he h4⟩
theorem nt_seqT {G : Hp} {a : Addr} {xs : List V} (h : SqT K G a xs) : SqT K (noT G) a xs := by
  rcases h with (h | ⟨o, h⟩) | h
  · exact .inl (.inl (noT_at h rfl))
  · exact .inl (.inr ⟨o, noT_at h rfl⟩)
  · exact .inr h
theorem nt_tpl (he : ∀ a, NT (e a)) {xs : List α} : NT (Tpl K e xs) := fun v G ⟨a, vs, h1, h2, h3, h4⟩ => ⟨a, vs, h1, nt_seqT h2, h3, nt_al he h4⟩
theorem nt_sq (he : ∀ a, NT (e a)) {xs : List α} : NT (Sq K e xs) := fun v G h => h.elim (fun h => .inl (nt_lst he v G h)) fun h => .inr (nt_tpl he v G h)
theorem nt_pr (he : ∀ a, NT (e a)) (hf : ∀ a, NT (f a)) {x : α × β} : NT (Pr K e f x) := fun v G ⟨a, v1, v2, h1, h2, h3, h4⟩ => ⟨a, v1, v2, h1, nt_seqT h2, he _ _ _ h3, hf _ _ _ h4⟩
theorem nt_tr (he : ∀ a, NT (e a)) (hf : ∀ a, NT (f a)) (hg : ∀ a, NT (g a)) {x : α × β × γ} : NT (Tr K e f g x) := fun v G ⟨a, v1, v2, v3, h1, h2, h3, h4, h5⟩ => ⟨a, v1, v2, v3, h1, nt_seqT h2, he _ _ _ h3, hf _ _ _ h4, hg _ _ _ h5⟩
end
/-! ### the tables stay well while the stream is drawn from -/
section
variable {s c : Addr} {n m : Nat} {G H G2 H2 : Hp} {T : List (Addr × Str)}
theorem Dr.noT (d : Dr s c n G H) : Dr s c n (noT G) H := ⟨d.ne, noT_none d.gs, noT_none d.gc, d.ex⟩
theorem Dr.lam (d : Dr s c n G H) (e : LamX.ExtN H H2) : Dr s c n G H2 := by
  obtain ⟨h1, h2, h3, cells, a, mm, cnt, e1, e2, e3⟩ := d
  exact ⟨h1, h2, h3, cells, a, mm, cnt, e _ _ e1 (fun ps z => by cases z), e _ _ e2 (fun ps z => by cases z), e3⟩
theorem tabs_go (t : LamX.Tabs T H) (g : Go G H G2 H2) : LamX.Tabs T H2 := t.ext g.h
theorem tabs_gos (t : LamX.Tabs T H) (d : Dr s c n G H) (g : GoS s c G H G2 H2) : LamX.Tabs T H2 := fun p hp => by
  obtain ⟨ps, h1, h2, h3⟩ := t p hp
  obtain ⟨cells, a, mm, cnt, e1, e2, _⟩ := d.ex
  have keep : ∀ b o, H b = some o → (∀ xs, o ≠ .lst xs) → H2 b = some o := fun b o e n => g.h b o (fun z => by rw [z, e1] at e; exact n _ (Option.some.inj e).symm) (fun z => by rw [z, e2] at e; exact n _ (Option.some.inj e).symm) e
  refine ⟨ps, keep _ _ h1 (fun xs z => by cases z), h2, fun pos cv hc => ?_⟩
  obtain ⟨c', r1, r2⟩ := h3 pos cv hc
  exact ⟨c', r1, keep _ _ r2 (fun xs z => by unfold LamX.CodeO at z; cases z)⟩
theorem tabs_upd (t : LamX.Tabs T H) {p : Addr} {o : HO} (n : H p = none) : LamX.Tabs T (upd H p o) := t.ext fun b u e => by rw [upd_ne (ne_of_none e n)]; exact e
/-- one of our own is written -/
theorem tabs_wr (t : LamX.Tabs T H) {p : Addr} {o : HO} {xs : List V} (h : H p = some (.lst xs)) : LamX.Tabs T (upd H p o) := fun q hq => by
  obtain ⟨ps, h1, h2, h3⟩ := t q hq
  have keep : ∀ b u, H b = some u → (∀ xs, u ≠ .lst xs) → upd H p o b = some u := fun b u e n => by
    rw [upd_ne (fun z => by rw [z, h] at e; exact n _ (Option.some.inj e).symm)]
    exact e
  refine ⟨ps, keep _ _ h1 (fun xs z => by cases z), h2, fun pos cv hc => ?_⟩
  obtain ⟨c', r1, r2⟩ := h3 pos cv hc
  exact ⟨c', r1, keep _ _ r2 (fun xs z => by unfold LamX.CodeO at z; cases z)⟩
end
/-! ### the lambda raises: what the catcher tells -/
section
variable {K : PySem.W.Frag} {b' : Bool} {σ : L2.St} {G H : Hp} {ta : TA} {C : Addr} {f told word : Str} {T : List (Addr × Str)}
theorem met_run {ι : Type u} {pre : ι → List SR} {ok : ι → Prop} {val : ι → SR} (i : ι) (r : Rel true G H) (hT : LamX.Tabs T H) (ha : EvA true ta σ (noT G) (pre i)) (hok : ok i) {Q : VK} (hb : b' = true ∨ b' = false := by first | exact .inl rfl | exact .inr rfl)
    (k : ∀ v p H1 G2 H2, LamX.ExtN H H1 → Go (noT G) H1 G2 H2 → LamX.Tabs T H2 → Rel true G2 H2 → G2 p = some (.tup [.str word, v]) → (val i).p v G2 → Q (.ref p) H2) :
    LamX.tLam T (TMet C f told word) (fun E => tCall (spX b' pre ok C f val) [] E ta) σ H Q :=
  ⟨hT, fun H1 e t1 => xr_call (G := noT G) i ha hok (noT_lam r e) hb fun v d G2 H2 g hv nG nH hd => ⟨rfl, d, v, rfl, hd, fun p hp => by
    have r2 := g.r _ (noT_lam r e)
    have gp : Go (noT G) H1 (upd G2 p (.tup [.str word, v])) (upd H2 p (.tup [.str word, v])) := g.trans (Go.new r2 hp)
    exact k v p H1 _ _ e gp (tabs_go t1 gp) (gp.r _ (noT_lam r e)) upd_same ((val i).st (Same.new (r2.free hp)) hv)⟩⟩
end
section
variable {X : Cx}
theorem lam_pass {A : Around} {outer : List Env} {s : Shared} {H : Hp} {E : XK} {scope : Scope} {f c' : Addr} : Passes (L2.CX X.prog X.w) (LamX.lamCx X A outer s H E scope f c') E :=
  passes_call (X := LamX.lamCx X A outer s H E scope f c') (W := fun cls d _ H => E cls d H) (takes_of rfl rfl rfl rfl) (fun _ _ _ _ h => h)
end
/-! ### a def whose code object is told -/
def FnL (K : PySem.W.Frag) (mg : Str → Option Value) (x : Str) (st : Stmt) (ps : List Str) (c : Addr) : Prop := ∃ (f : Addr) (oc : Value) (od : Option Addr) (kV doc pm : Value) (an : Option Addr) (ct : Value) (osl : Array (Option Value)),
  K.lookup f = some ⟨oc, od, .func (PySem.W.fnOf x x (defArgs st) (defBody st) (defScope st) .none kV doc pm an (.ref c) ct), osl⟩ ∧ PySem.W.codeIn K (.ref c) x = true ∧ mg x = some (.ref f) ∧ PySem.W.keepIn K (.ref f) = true ∧
    Binds K (PySem.W.fnOf x x (defArgs st) (defBody st) (defScope st) .none kV doc pm an (.ref c) ct) ps []
section
variable {P : Program} {w : World} {K : PySem.W.Frag} {mg : Str → Option Value} {base : Heap}
theorem calL_of {x : Str} {st : Stmt} {N ps : List Str} {k : Nat} {sp : Sp} {c : Addr} (F : FnL K mg x st ps c) (S : FnScope N ps (defScope st)) (len : ∀ vs H Q E, sp vs H Q E → vs.length = ps.length)
    (hbody : ∀ (f : Addr) (A : Around) (outer : List Env) (s : Shared) (H : Hp) (vs : List V) (Q : VK) (E : XK), Room k (A.deeper (envOfC x (defScope st) s.heap.objs.size f (.ref c))) → sp vs H Q E →
      ∃ t, PSs (cxOf CX0 P w K mg base N x (defScope st) f (.ref c) A outer s H E).nox (defBody st) t ∧ t { nx := fun _ H' => Q .non H', rt := Q } (start N vs) H) : C8.Cal P w K mg base (k + 1) x sp [] := by
  obtain ⟨f, oc, od, kV, doc, pm, an, ct, osl, lk, hcd, h2, kp, h3⟩ := F
  refine ⟨f, _, ps, [], fn_of lk hcd S len fun A outer s H vs Q E hr hsp => ?_, h2, kp, h3, .nil⟩
  obtain ⟨t, h, q⟩ := hbody f A outer s H vs Q E hr hsp
  exact ⟨t, h.nox, q⟩
end
end Gd

-- part Gd22
set_option Elab.async false
set_option linter.all false
set_option maxRecDepth 100000
set_option maxHeartbeats 1000000
/-! ### isinstance(a def's object, ..) -/
namespace PySem
open Sem (wp)
namespace FnT
open PySem.F
theorem sFn : Slot "function" "__getattribute__" "object.__getattribute__" := .of (owner := "object") (n := "__getattribute__") (by rw [typeLookup_type, builtinLookup_eq_fast]; kernel_rfl) (by decide +kernel) (by decide +kernel) (by decide +kernel) (by first | exact .inl (by decide +kernel) | exact .inr (by decide +kernel)) (by rw [isSubtype_type]; kernel_rfl)
theorem eFn : entryFor table "object.__getattribute__" = some Builtin.«object.__getattribute__» := entryFor_of_tree (by kernel_rfl)
theorem lFn : typeLookup (.type "function") "__class__" = pure (some (.builtin "object.__class__")) := by rw [typeLookup_type, builtinLookup_eq_fast]; kernel_rfl
theorem oFn : isSubtype (.type "function") (.type (".".intercalate ("object.__class__".cutAt '.').dropLast)) = pure true := by rw [F.owner_object_class, isSubtype_type]; kernel_rfl
theorem aFn (a b : Value) : argsOk "object.__getattribute__" ⟨[a, b], []⟩ := by unfold argsOk; kernel_rfl
section
variable {prog : Program} {w : World} {A : Around} {E : Value → Shared → Prop} {h : Heap} {g : Array GenState} {d : Drawn} {t : Nat} {os : OsState} {a : Addr} {o : Obj}
theorem clsGet {R : Result → Shared → Prop} (hx : h.get? a = some o) (hc : o.cls = .type "function") (hq : R (.ok (.ret (.type "function"))) ⟨h, g, d, t, os⟩) :
    codeAny (model prog w) A (.call (.builtin "getset_descriptor.__get__") ⟨[.builtin "object.__class__", .ref a, .type "function"], []⟩) R ⟨h, g, d, t, os⟩ := by
  have hT : (⟨h, g, d, t, os⟩ : Shared).TypeIs (.ref a) "function" := ⟨_, hx, hc⟩
  have f9 : (⟨h, g, d, t, os⟩ : Shared).TypeIs (.builtin "object.__class__") "getset_descriptor" := F.typeOf_object_class
  have f8 := oFn
  refine codeAny_call_builtin slot_gs_get.plain entry_gs_get (slot_gs_get.check _ _ _ _ _ _ _ _ f9 (args_gs_get _ _ _) ?_)
  repeat (any_goals (first | assumption | wp_step))
  refine ⟨Code.quiet_builtin _ (by decide +kernel), codeAny_builtin entry_object_class ?_⟩
  repeat (any_goals (first | assumption | wp_step))
theorem clsEntry {tk : Tok} {Q : Fin → Shared → Prop} (hx : h.get? a = some o) (hc : o.cls = .type "function") (hq : Q (.done (.ret (.type "function"))) ⟨h, g, d, t, os⟩) : wpAny (model prog w) A (Builtin.«object.__getattribute__» ⟨[.ref a, .str "__class__" tk], []⟩) Q E ⟨h, g, d, t, os⟩ := by
  have hT : (⟨h, g, d, t, os⟩ : Shared).TypeIs (.ref a) "function" := ⟨_, hx, hc⟩
  have f9 : (⟨h, g, d, t, os⟩ : Shared).TypeIs (.builtin "object.__class__") "getset_descriptor" := F.typeOf_object_class
  have f4 := lFn
  have f5 := typeOf_object_class
  have f6 := slot_gs_get.lookup
  have f7 := slot_gs_set.lookup
  repeat (any_goals (first | assumption | wp_step))
  refine clsGet hx hc ?_
  repeat (any_goals (first | assumption | wp_step))
theorem clsCall {tk : Tok} {R : Result → Shared → Prop} (hx : h.get? a = some o) (hc : o.cls = .type "function") (hq : R (.ok (.ret (.type "function"))) ⟨h, g, d, t, os⟩) : codeAny (model prog w) A (.call (.builtin "object.__getattribute__") ⟨[.ref a, .str "__class__" tk], []⟩) R ⟨h, g, d, t, os⟩ :=
  codeAny_call_builtin sFn.plain eFn (sFn.check _ _ _ _ _ _ _ _ (show (⟨h, g, d, t, os⟩ : Shared).TypeIs (.ref a) "function" from ⟨_, hx, hc⟩) (aFn _ _) (clsEntry hx hc hq))
theorem clsBy {tk : Tok} {Q : Value → Shared → Prop} (hx : h.get? a = some o) (hc : o.cls = .type "function") (hq : Q (.type "function") ⟨h, g, d, t, os⟩) : wpAny (model prog w) A (getAttrBy (.ref a) (.str "__class__" tk) false) Q E ⟨h, g, d, t, os⟩ := by
  have hT : (⟨h, g, d, t, os⟩ : Shared).TypeIs (.ref a) "function" := ⟨_, hx, hc⟩
  have f2 := sFn.lookup
  have f3 := sFn.bind (.ref a)
  repeat (any_goals (first | assumption | wp_step))
  refine clsCall hx hc ?_
  repeat (any_goals (first | assumption | wp_step))
theorem clsAttr {Q : Option Value → Shared → Prop} (hx : h.get? a = some o) (hc : o.cls = .type "function") (hq : Q (some (.type "function")) ⟨h, g, d, t + 1, os⟩) : wpAny (model prog w) A (getAttr? (.ref a) "__class__") Q E ⟨h, g, d, t, os⟩ := by
  unfold getAttr? getAttrBy?
  repeat (any_goals (first | assumption | with_reducible apply clsBy hx hc | wp_step))
end
theorem kitx_fn {K : W.Frag} {a : Addr} : W.KitX K (.ref a) (.type "function") (W.KitAt a "function") := W.kitx_of W.kitAt_ty (fun {_ _ _ _ _ s} p k => by obtain ⟨h, g, d, t, os⟩ := s; obtain ⟨o, h1, h2⟩ := p; exact clsAttr h1 h2 k)
end FnT
end PySem
namespace Gd
open PySem PySem.Spec PyProof.Rows L2
/-- isinstance of a def's object of the written part: none of these classes -/
def rIsF (K : PySem.W.Frag) : List V → Hp → VK → Prop := fun xs H Q => ∃ (g tp : Addr) (oc : Value) (od : Option Addr) (fd : FuncData) (sl : Array (Option Value)) (cs : List V) (us : List Value), xs = [.ref g, .ref tp] ∧ H tp = some (.tup cs) ∧ Paired ClsV cs us ∧ K.lookup g = some ⟨oc, od, .func fd, sl⟩ ∧ oc = .type "function" ∧ PySem.W.kitAny K (.type "function") us = some false ∧ Q (.bl false) H
section
variable {X : Cx}
theorem call_isF : CallR X (.builtin "isinstance") (rIsF X.K) := by
  intro pins s σ H xs us Q I r h
  obtain ⟨g, tp, oc, od, fd, sl', cs, ws, rfl, hT, k, hk, hoc, e, q⟩ := h
  obtain ⟨u1, u2, rfl, r1, r2⟩ := vals2 r
  cases (show u1 = Value.ref g from r1)
  cases (show u2 = Value.ref tp from r2)
  obtain ⟨_, its, rv, o, h1, h2, n, h3⟩ := (show ObjOk X.prog X.w H s.heap tp (.tup cs) from I.hok tp _ hT)
  have e3 := ClsV.all k rv
  subst e3
  obtain ⟨oc', od', dt, sl⟩ := o
  simp only at h2 h3
  subst h2 h3
  exact PySem.W.kia_tup PySem.FnT.kitx_fn I.kIn ⟨_, I.kIn _ _ hk, hoc⟩ h1 e (fun z => nomatch z) fun tk => ⟨.bl false, H, I.tok tk, rfl, q⟩
theorem CallR.or {f : Value} {r1 r2 : List V → Hp → VK → Prop} (h1 : CallR X f r1) (h2 : CallR X f r2) : CallR X f (fun xs H Q => r1 xs H Q ∨ r2 xs H Q) := by
  intro pins s σ H xs us Q I r h
  rcases h with h | h
  · exact h1 pins s σ H xs us Q I r h
  · exact h2 pins s σ H xs us Q I r h
theorem OpR.or {f : Value → Value → Sem Value} {r1 r2 : R2} (h1 : OpR X f r1) (h2 : OpR X f r2) : OpR X f (fun x y H Q => r1 x y H Q ∨ r2 x y H Q) := by
  intro pins s σ H x y v u Q I rx ry h
  rcases h with h | h
  · exact h1 pins s σ H x y v u Q I rx ry h
  · exact h2 pins s σ H x y v u Q I rx ry h
end
end Gd

-- part Gd23
set_option Elab.async false
set_option linter.all false
set_option maxRecDepth 100000
set_option maxHeartbeats 1000000
/-! ### an odd thing in a list of texts: a dict, an instance with its own == -/
namespace PySem
namespace InO
open PySem.SeqAt
open AutoSeq1 (wpAny_loadPart')
open MeetsSeq MeetsSeq2 MeetsSeq3 SeqRoads2
theorem strD (b : Str) (u : Tok) (l : Addr) (c : Value) (es : Array DictEntry) (ep : Nat) (dd : Option Addr) (sl : Array (Option Value)) :
    Meets (Builtin.«str.__eq__» ⟨[.str b u, .ref l], []⟩) (fun _ R s => s.heap.get? l = some { cls := c, dict := dd, data := .dict es ep, slots := sl } ∧ R (.ok (.ret .notImplemented)) s) := .of_wp fun prog w A R s h => by
  obtain ⟨hp, g, d, tk, os⟩ := s
  obtain ⟨hl, h⟩ := h
  wp_walk using wpAny_loadPart' hl, wpAny_load hl
  exact ⟨_, rfl, h⟩
theorem strP (b : Str) (u : Tok) (l : Addr) (c : Value) (dd : Option Addr) (sl : Array (Option Value)) :
    Meets (Builtin.«str.__eq__» ⟨[.str b u, .ref l], []⟩) (fun _ R s => s.heap.get? l = some { cls := c, dict := dd, data := .plain, slots := sl } ∧ R (.ok (.ret .notImplemented)) s) := .of_wp fun prog w A R s h => by
  obtain ⟨hp, g, d, tk, os⟩ := s
  obtain ⟨hl, h⟩ := h
  wp_walk using wpAny_loadPart' hl, wpAny_load hl
  exact ⟨_, rfl, h⟩
theorem dictS (l : Addr) (es : Array DictEntry) (ep : Nat) (dd : Option Addr) (sl : Array (Option Value)) (b : Str) (u : Tok) :
    Meets (Builtin.«dict.__eq__» ⟨[.ref l, .str b u], []⟩) (fun _ R s => s.heap.get? l = some { cls := .type "dict", dict := dd, data := .dict es ep, slots := sl } ∧ R (.ok (.ret .notImplemented)) s) := .of_wp fun prog w A R s h => by
  obtain ⟨hp, g, d, tk, os⟩ := s
  obtain ⟨hl, h⟩ := h
  have f1 : isSubtype (.type "str") (.type "dict") = pure false := by rw [isSubtype_type]; kernel_rfl
  wp_walk using wpAny_loadPart' hl
  exact ⟨_, rfl, h⟩
section
variable {A : Around} {s : Shared}
theorem rcD {l : Addr} {es : Array DictEntry} {ep : Nat} {dd : Option Addr} {sl : Array (Option Value)} (b : Str) (u : Tok) (hl : s.heap.get? l = some { cls := .type "dict", dict := dd, data := .dict es ep, slots := sl }) (hu : A.units < cLine) : RcAt A s (.str b u) (.ref l) false := fun prog w E Q h =>
  rc_eq_decline_or (k := false) (typeIs_str s b u) ⟨_, hl, rfl⟩ (by decide) F.sub_dict_str F.slot_str_eq F.slot_dict_eq_refl (fun _ hq => call_meets F.slot_str_eq (typeIs_str s b u) F.entry_str_eq (F.args_str_eq_2 _ _) (strD b u l (.type "dict") es ep dd sl) ⟨hl, hq⟩)
    (fun _ hq => call_meets F.slot_dict_eq_refl ⟨_, hl, rfl⟩ F.entry_dict_eq (F.args_dict_eq_2 _ _) (dictS l es ep dd sl b u) ⟨hl, hq⟩) (fun _ hq => wpAny_of_eq (rfl : isSame (.str b u) (.ref l) = pure false) hq) (.inr hu) h
theorem eqD {l : Addr} {es : Array DictEntry} {ep : Nat} {dd : Option Addr} {sl : Array (Option Value)} (b : Str) (u : Tok) (hl : s.heap.get? l = some { cls := .type "dict", dict := dd, data := .dict es ep, slots := sl }) (hu : A.units < cLine) : EqAt A s (.str b u) (.ref l) false := fun prog w E Q h => by
  unfold eqBool
  refine wpAny_holding (wpAny_ite_split (fun hab => absurd (eq_of_beq hab) nofun) fun _ => ?_)
  exact wpAny_bind (rcD b u hl hu prog w E _ (wpAny_truthy_bool h))
end
section
variable {prog : Program} {w : World} {A : Around} {E : Value → Shared → Prop} {s : Shared} {K : W.Frag} {x C f : Addr} {od : Obj} {dx : Addr} {t : Str} {tk : Tok}
theorem rcI {Q : Value → Shared → Prop} (X : K.In s.heap) (I : W.InstAt s.heap x (W.instObj C dx) C (some od)) (hu : A.units < cLine) (hsub : W.subIn K (.ref C) (.type "str") = some false) (hs : W.findIn K (.ref C) "__eq__" = some (some (.ref f))) (hf : W.isFn K (.ref f) = true)
    (h : wpAny (model prog w) A (call (.ref f) [.ref x, .str t tk]) (fun v s' => v = .bool false ∧ Q (.bool false) s') E s) : wpAny (model prog w) A (richCompare .Eq (.str t tk) (.ref x)) Q E s := by
  have one : wpAny (model prog w) A (tryCompare (.ref x) (cmpInfo .Eq).2.2 (.str t tk)) (fun r s' => r = some (.bool false) ∧ Q (.bool false) s') E s := by
    unfold tryCompare
    refine wpAny_bind (W.ifBound_K X I hs hf (wpAny_mono h (fun v s' hv => ?_) fun _ _ e => e))
    obtain ⟨rfl, hq⟩ := hv
    exact wpAny_pure ⟨rfl, hq⟩
  have hT : s.TypeIs (.str t tk) "str" := typeIs_str s t tk
  unfold richCompare
  simp only [hT.oneThing_none]
  refine wpAny_holding (wpAny_bind (wpAny_cRoomFor hu ?_))
  refine wpAny_bind (wpAny_typeOf hT (wpAny_bind (I.type.here ?_)))
  have hne : (Value.type "str" != Value.ref C) = true := by rfl
  rw [if_pos hne]
  refine wpAny_bind ((W.looks_subIn X hsub).here ?_)
  simp only [Bool.false_eq_true, if_false, Bool.not_false, if_true]
  refine wpAny_bind (m := tryCompare (.str t tk) _ (.ref x)) (wpAny_tryCompare_declines hT F.slot_str_eq (call_meets F.slot_str_eq hT F.entry_str_eq (F.args_str_eq_2 _ _) (strP t tk x (.ref C) (some dx) #[]) ⟨I.at_, rfl, ?_⟩))
  refine wpAny_bind (m := tryCompare (.ref x) _ (.str t tk)) (wpAny_mono one (fun r s' z => ?_) fun _ _ e => e)
  obtain ⟨rfl, hq⟩ := z
  exact wpAny_pure hq
/-- no item is equal: the state may change -/
theorem loopF {l : Addr} {x : Value} {N : Nat} {J : Shared → Prop} (hj : ∀ s, J s → ∃ (items : Array Value) (n : Nat) (dd : Option Addr) (sl : Array (Option Value)), s.heap.get? l = some { cls := .type "list", dict := dd, data := .seq items n, slots := sl } ∧ items.size = N ∧
      ∀ (i : Nat) (hi : i < items.size) (E : Value → Shared → Prop), wpAny (model prog w) A.in1 (eqBool items[i] x) (fun r s' => r = false ∧ J s') E s) {R : Result → Shared → Prop} (fin : ∀ s, J s → R (.ok (.ret (.bool false))) s) (k : Nat) :
    ∀ i : Nat, N - i = k → ∀ s, J s → wpAny (model prog w) A.in1 (Builtin.«list.__contains__.loop» ⟨[.ref l, x, rawInt i], []⟩) (GQ.FinOf prog w A R) (fun e s' => R (.error e) s') s := by
  induction k with
  | zero =>
    intro i hk s h
    obtain ⟨items, n, dd, sl, hl, hN, _⟩ := hj s h
    have hR := fin s h
    obtain ⟨hp, g, d, tk, os⟩ := s
    wp_walk using wpAny_loadPart' hl
    have hi : items[((i : Nat) : Int).toNat]? = none := by simp; omega
    rw [hi]
    wp_walk
    exact hR
  | succ k ih =>
    intro i hk s h
    obtain ⟨items, n, dd, sl, hl, hN, he⟩ := hj s h
    have hlt : i < items.size := by omega
    have ht := he i hlt (fun e s' => R (.error e) s')
    obtain ⟨hp, g, d, tk, os⟩ := s
    wp_walk using wpAny_loadPart' hl
    have hi : items[((i : Nat) : Int).toNat]? = some items[i] := by simp [hlt]
    rw [hi]
    refine wpAny_bind (wpAny_mono ht (fun r s2 h2 => ?_) fun _ _ x => x)
    obtain ⟨rfl, h2⟩ := h2
    have hc : ((i : Int) + 1) = ((i + 1 : Nat) : Int) := by omega
    have hrec := ih (i + 1) (by omega) s2 h2
    obtain ⟨hp2, g2, d2, tk2, os2⟩ := s2
    wp_walk
    rw [hc]
    refine ⟨plainId_quiet plain_contains_loop _, codeAny_builtin entry_contains_loop ?_⟩
    rw [Around.under_plainId plain_contains_loop _]
    exact hrec
theorem inF {l : Addr} {x : Value} {N : Nat} {J : Shared → Prop} {Q : Value → Shared → Prop} (hj : ∀ s, J s → ∃ (items : Array Value) (n : Nat) (dd : Option Addr) (sl : Array (Option Value)), s.heap.get? l = some { cls := .type "list", dict := dd, data := .seq items n, slots := sl } ∧ items.size = N ∧
      ∀ (i : Nat) (hi : i < items.size) (E : Value → Shared → Prop), wpAny (model prog w) A.in1 (eqBool items[i] x) (fun r s' => r = false ∧ J s') E s) (fin : ∀ s, J s → Q (.bool false) s) (h : J s) : wpAny (model prog w) A (compareOp .In x (.ref l)) Q E s := by
  obtain ⟨items, n, dd, sl, hl, hN, _⟩ := hj s h
  show wpAny _ A (do return .bool (← contains (.ref l) x)) Q E s
  have slot := F.slot_list_contains
  refine wpAny_bind (wpAny_contains_slot ⟨_, hl, rfl⟩ slot (wpAny_mono (Q := fun v s' => v = .bool false ∧ J s') (GQ.call_here slot ⟨_, hl, rfl⟩ F.entry_list_contains (F.args_list_contains_2 _ _) ?_) (fun v s' hv => ?_) fun _ _ e => e))
  · have hrec := loopF (A := A) (R := wants (fun v s' => v = .bool false ∧ J s') E) hj (fun s h => ⟨rfl, h⟩) _ 0 rfl s h
    obtain ⟨hp, g, d, tk, os⟩ := s
    wp_walk using wpAny_loadPart' hl
    refine ⟨plainId_quiet plain_contains_loop _, codeAny_builtin entry_contains_loop ?_⟩
    rw [Around.under_plainId plain_contains_loop _]
    exact hrec
  · obtain ⟨rfl, hq⟩ := hv
    exact wpAny_truthy_bool (wpAny_pure (fin s' hq))
end
end InO
end PySem

-- part Gd24
set_option Elab.async false
set_option linter.all false
set_option maxRecDepth 100000
set_option maxHeartbeats 1000000
namespace Gd
open PySem PySem.Spec PyProof.Rows L2
/-- what the class's own == answers a text -/
def spEqF (C : Addr) : Sp := fun vs H Q _ => ∃ a s dx fs, vs = [.ref a, .str s] ∧ H a = some (.ins C dx fs) ∧ Q (.bl false) H
structure OwnEqC (P : Program) (w : World) (K : PySem.W.Frag) (mg : Str → Option Value) (base : Heap) (k : Nat) (C : Addr) : Prop where
  sub : PySem.W.subIn K (.ref C) (.type "str") = some false
  ex : ∃ f fd, PySem.W.findIn K (.ref C) "__eq__" = some (some (.ref f)) ∧ PySem.W.isFn K (.ref f) = true ∧ FnOk P w K mg base C8.CX0 k f fd ["self", "other"] (spEqF C) ∧ Binds K fd ["self", "other"] []
def rInOd (K : PySem.W.Frag) (C : Addr) : R2 := fun x y H Q => ∃ (p : Addr) (ss : List Str), y = .ref p ∧ SqL K H p (ss.map V.str) ∧ ((∃ a kvs, x = .ref a ∧ H a = some (.dK kvs)) ∨ ∃ a dx fs, x = .ref a ∧ H a = some (.ins C dx fs)) ∧ Q (.bl false) H
section
variable {X : Cx}
theorem strs_at {ss : List Str} {its : List Value} (r : Vals (ss.map V.str) its) {i : Nat} (hi : i < its.length) : ∃ s t, its[i] = .str s t := by
  have hl := Paired.length r
  rw [List.length_map] at hl
  have hs : i < ss.length := by omega
  obtain ⟨u, hu, ru⟩ := r.get (i := i) (x := V.str ss[i]) (by rw [List.getElem?_map, List.getElem?_eq_getElem hs]; rfl)
  rw [List.getElem?_eq_getElem hi] at hu
  cases hu
  obtain ⟨t, e⟩ := (show ∃ t, its[i] = Value.str ss[i] t from ru)
  exact ⟨_, t, e⟩
theorem op_inOd {C : Addr} {k j : Nat} (c : OwnEqC X.prog X.w X.K X.mg X.base k C) (hr : Room j X.A) (hk : k + 1 ≤ j) : OpR X (compareOp .In) (rInOd X.K C) := by
  intro pins s σ H x y v u Q I rx ry h
  obtain ⟨p, ss, rfl, hl, hx, q⟩ := h
  cases (show u = Value.ref p from ry)
  have hr1 : Room k X.A.in1 := (hr.mono hk).in1
  rcases hx with ⟨a, kvs, rfl, ha⟩ | ⟨a, dx, fs, rfl, ha⟩
  · cases (show v = Value.ref a from rx)
    obtain ⟨its, r, pl, hz⟩ := I.list hl
    refine SeqAt.in_listAt (fun _ => false) pl.isList (fun y hy => ?_) ⟨.bl false, H, I, by show Value.bool _ = _; simp, q⟩
    obtain ⟨i, hi, e⟩ := List.getElem_of_mem (show y ∈ its by simpa using hy)
    obtain ⟨t, tk, et⟩ := strs_at r hi
    rw [← e, et]
    obtain ⟨_, _, vs, _, o, es, ep, h1, h2, h3⟩ := (show ObjOk X.prog X.w H s.heap a (.dK kvs) from I.hok a _ ha)
    obtain ⟨oc, od, data, sl⟩ := o
    have hc : oc = .type "dict" := h2.1
    have hd : data = .dict es ep := h3.1
    subst hc hd
    exact PySem.InO.eqD t tk h1 hr1.units0
  · cases (show v = Value.ref a from rx)
    refine PySem.InO.inF (N := ss.length) (J := fun s' => Inv X pins σ H s') (fun s' I' => ?_) (fun s' I' => ⟨.bl false, H, I', rfl, q⟩) I
    obtain ⟨its, r, ⟨⟨cls, dd, data, sl⟩, n, ho, hc, hdn, hdt⟩, hz⟩ := I'.list hl
    simp only at hc hdt
    subst hc hdt
    have hN := Paired.length r
    rw [List.length_map] at hN
    refine ⟨its.toArray, n, dd, sl, ho, by simpa using hN.symm, fun i hi E => ?_⟩
    have hi' : i < its.length := by simpa using hi
    obtain ⟨t, tk, et⟩ := strs_at r hi'
    have et' : its.toArray[i] = .str t tk := by simpa using et
    rw [et']
    obtain ⟨mA, J, _⟩ := ins_get I'.hok ha
    obtain ⟨od, J, _⟩ := J.look
    obtain ⟨f, fd, h1, h2, F, hb⟩ := c.ex
    unfold eqBool
    refine wpAny_holding (wpAny_ite_split (fun hab => absurd (eq_of_beq hab) nofun) fun _ => ?_)
    refine wpAny_bind (PySem.InO.rcI I'.kIn J hr1.units0 c.sub h1 h2 (wpAny_call ?_))
    have e := I'.env0
    have e0 : Env0 X.prog X.w X.K X.mg X.base X.A.in1 X.stack s' H := ⟨e.frames, e.mod, e.bs, e.bsz, e.funs, e.frf, e.hok, e.bare⟩
    have r2 : Vals [V.ref a, V.str t] [Value.ref a, Value.str t tk] := .cons rfl (.cons ⟨tk, rfl⟩ .nil)
    refine codeAny_mono (F.run X.A.in1 X.stack s' H ⟨[.ref a, .str t tk], []⟩ [.ref a, .str t tk] [.ref a, .str t] (fun v H' => v = .bl false ∧ H' = H) (fun _ _ _ => False) hr1 e0 (hb s' [.ref a, .str t tk] I'.kIn rfl) r2 ⟨a, t, dx, fs, rfl, ha, rfl, rfl⟩) fun r s2 hq => ?_
    cases r with
    | error e => exact (show False from hq).elim
    | ok fl =>
      cases fl with
      | ret w =>
        obtain ⟨z, H', I2, rz, ez, rfl⟩ := I'.after hq
        subst ez
        cases rz
        exact ⟨rfl, wpAny_truthy_bool ⟨rfl, I2⟩⟩
      | next => exact False.elim hq
      | brk => exact False.elim hq
      | cont => exact False.elim hq
end
end Gd

-- part Gd25
set_option Elab.async false
set_option linter.all false
set_option maxRecDepth 100000
set_option maxHeartbeats 1000000
namespace Gd
open PySem PySem.Spec PyProof.Rows L2
open PySem.W (dataLe)
/-! ### sorted(a dict) -/
theorem rising_sd : ∀ (ys : List Str) (p : Str), risingS p ys = true → (p :: ys).Pairwise fun a b => dataLe false PyData.str a b = true
  | [], p, _ => by simp
  | x :: r, p, h => by
    have h' : (!ltCps x.cps.toList p.cps.toList && risingS x r) = true := h
    rw [Bool.and_eq_true] at h'
    have ih := rising_sd r x h'.2
    have hxp : dataLe false PyData.str p x = true := by
      show (!PySem.W.dataLt (.str x) (.str p)) = true
      rw [PySem.W.dataLt_str, ← ltCps_eq]
      exact h'.1
    refine List.pairwise_cons.mpr ⟨fun a ha => ?_, ih⟩
    rcases List.mem_cons.mp ha with rfl | ha
    · exact hxp
    · exact (dle_total PyData.str).trans _ _ _ hxp ((List.pairwise_cons.mp ih).1 a ha)
theorem sorted_sd {ys : List Str} (h : sortedS ys = true) : Sd PyData.str ys := by
  cases ys with
  | nil => exact List.Pairwise.nil
  | cons x r => exact rising_sd r x h
def rSrtD : List V → Hp → VK → Prop := fun xs H Q => ∃ (a : Addr) (kvs : List (Key × V)) (ks : List Str), xs = [.ref a] ∧ Rd H a (.dK kvs) ∧ kvs.map (·.1) = ks.map Sum.inr ∧ ks.length < 64 ∧ ∀ ys p, ys.Perm ks → sortedS ys = true → H p = none → Q (.ref p) (upd H p (.lst (ys.map V.str)))
theorem call_srtD {X : Cx} (hc : X.calm = true) : CallR X (.builtin "sorted") rSrtD := call_sortedD hc
section
variable {K : PySem.W.Frag} {b : Bool} {σ : L2.St} {G G' H : Hp} {t ta tb te : TE} {R R' : SR} {α β γ : Type} {e : α → SR}
theorem al_strs {G : Hp} : ∀ {ys : List Str}, (∀ y ∈ ys, okS y = true) → Al S ys (ys.map V.str) G
  | [], _ => .nil
  | y :: ys, h => .cons ⟨rfl, h y (List.mem_cons_self ..)⟩ (al_strs fun z hz => h z (List.mem_cons_of_mem _ hz))
theorem en_sortedK {ks : List Str} (ha : Ev b te σ G (Ks ks)) (hl : ks.length < 64) (hok : ∀ k ∈ ks, okS k = true) : EvN b (tCB rSrtD (tCons te tNil)) σ G S (srt PyData.str ks) := fun G1 H1 a r Q k =>
  ha G1 H1 a r _ fun u G2 H2 g p => by
    obtain ⟨ad, kvs, rfl, h1, h2, h3⟩ := p
    refine ⟨ad, kvs, ks, rfl, (g.r _ r).rd h1, h3, hl, fun ys p hp hs hn => ?_⟩
    have e : ys = srt PyData.str ks := (srt_eq alk_S eqE_S hp.symm (sorted_sd hs)).symm
    have r2 := g.r _ r
    rw [← e] at k
    exact k p (ys.map V.str) G2 _ (g.trans (Go.own r2 hn)) (g.free hn) (r2.free hn) upd_same (by rw [List.length_map, hp.length_eq]; have : sizeLine = 16777216 := sizeLine_eq; omega) (al_strs fun y hy => hok y (hp.mem_iff.mp hy))
/-! ### odd things -/
/-- neither list nor tuple -/
def NoSeq (K : PySem.W.Frag) (R : SR) : Prop := ∀ v b G H, Rel b G H → R.p v G → (∃ t, TyX K H v t ∧ PySem.W.kitAny K t LT2 = some false) ∨ ∃ g oc od fd sl, v = .ref g ∧ K.lookup g = some ⟨oc, od, .func fd, sl⟩ ∧ oc = .type "function"
/-- no text -/
def NoStr (K : PySem.W.Frag) (R : SR) : Prop := ∀ v b G H, Rel b G H → R.p v G → ∃ t, TyX K H v t ∧ PySem.W.kitOne K t (.type "str") = some false
theorem ev_isiN (ha : Ev b ta σ G R) (hn : NoSeq K R) : Ev b (tCB (fun xs H Q => rIsiT K xs H Q ∨ rIsF K xs H Q) (tCons ta (tCons (tTup (tCons (tC (.ty "list")) (tCons (tC (.ty "tuple")) tNil))) tNil))) σ G (B false) := fun G1 H1 a rr Q k =>
  ha G1 H1 a rr _ fun u G2 H2 g p => by
    refine ⟨(by show 2 ≤ sizeLine; decide), fun p' hp => ?_⟩
    have r2 := g.r _ rr
    have gn := Go.new r2 (o := .tup [.ty "list", .ty "tuple"]) hp
    rcases hn u b _ _ (gn.r _ r2) (R.st gn.g p) with ⟨T, h1, h2⟩ | ⟨g0, oc, od, fd, sl, h1, h2, h3⟩
    · exact .inl ⟨u, p', _, T, LT2, false, rfl, upd_same, .cons (.ty _) (.cons (.ty _) .nil), h1, h2, k _ _ _ (g.trans gn) rfl⟩
    · exact .inr ⟨g0, p', oc, od, fd, sl, _, LT2, by rw [h1], upd_same, .cons (.ty _) (.cons (.ty _) .nil), h2, h3, lt2_no, k _ _ _ (g.trans gn) rfl⟩
theorem ev_isiNS (ha : Ev b ta σ G R) (hn : NoStr K R) : Ev b (tCB (rIsi K) (tCons ta (tCons (tC (.ty "str")) tNil))) σ G (B false) := fun G1 H1 a r Q k =>
  ha G1 H1 a r _ fun u G2 H2 g p => by
    obtain ⟨t, h1, h2⟩ := hn u b _ _ (g.r _ r) p
    exact ⟨u, _, t, _, false, rfl, .ty "str", h1, h2, k _ _ _ g rfl⟩
theorem noSeq_ty {T : String} (h : HasTy K R T) (h1 : kitB T "list" = some false := by decide +kernel) (h2 : kitB T "tuple" = some false := by decide +kernel) : NoSeq K R := fun v b G H r p => .inl ⟨_, h v b G H r p, lt2_no h1 h2⟩
theorem noStr_ty {T : String} (h : HasTy K R T) (h1 : kitB T "str" = some false := by decide +kernel) : NoStr K R := fun v b G H r p => ⟨_, h v b G H r p, kit_ty h1⟩
/-- a dict, whatever it holds -/
def DX : SR := ⟨fun u G => ∃ a kvs, u = .ref a ∧ G a = some (.dK kvs), fun s ⟨a, kvs, h1, h2⟩ => ⟨a, kvs, h1, s _ _ h2⟩⟩
theorem hty_DX : HasTy K DX "dict" := fun v b G H r ⟨a, kvs, h1, h2⟩ => by
  subst h1
  rcases r _ _ h2 with h | ⟨_, _, ob, h⟩
  · exact .base (.dK h)
  · exact .fDict h
theorem ev_dnewX : Ev b tDNewK σ G DX := fun G1 H1 a r Q k d hd => k _ _ _ (Go.new r hd) ⟨d, [], rfl, upd_same⟩
end
end Gd

-- part Gd26
set_option Elab.async false
set_option linter.all false
set_option maxRecDepth 100000
set_option maxHeartbeats 1000000
namespace Gd
open PySem PySem.Spec PyProof.Rows L2
section
variable {X : Cx} {K : PySem.W.Frag}
theorem call_isFK (hK : X.K = K := by rfl) : CallR X (.builtin "isinstance") (rIsF K) := by
  subst hK
  exact call_isF
theorem op_inOdK {C : Addr} {k j : Nat} (c : OwnEqC X.prog X.w X.K X.mg X.base k C) (hr : Room j X.A) (hk : k + 1 ≤ j) (hK : X.K = K := by rfl) : OpR X (compareOp .In) (rInOd K C) := by
  subst hK
  exact op_inOd c hr hk
end
section
variable {K : PySem.W.Frag} {b : Bool} {σ : L2.St} {G G' H : Hp} {t ta tb te : TE} {R R' : SR} {α β γ : Type} {e : α → SR}
/-- a list of texts among readings of any kind -/
theorem al_texts {G : Hp} : ∀ {ys : List Str} {vs : List V}, Al (fun R : SR => R) (ys.map S) vs G → Al S ys vs G
  | [], _, .nil => .nil
  | _ :: _, _, .cons h t => .cons h (al_texts t)
theorem sq_texts {ys : List Str} {u : V} {G : Hp} (h : (Sq K (fun R : SR => R) (ys.map S)).p u G) : (Sq K S ys).p u G := by
  rcases h with ⟨a, vs, h1, h2, h3, h4⟩ | ⟨a, vs, h1, h2, h3, h4⟩
  · exact .inl ⟨a, vs, h1, h2, h3, al_texts h4⟩
  · exact .inr ⟨a, vs, h1, h2, h3, al_texts h4⟩
theorem sqv_id {xs : List SR} {u : V} {G : Hp} (h : (Lst (fun R : SR => R) xs).p u G) : (SqV K).p u G := by
  obtain ⟨a, vs, h1, h2, _⟩ := h
  exact ⟨a, vs, h1, .inl h2⟩
end
end Gd

-- part Gd27
set_option Elab.async false
set_option linter.all false
set_option maxRecDepth 100000
set_option maxHeartbeats 1000000
/-! ### repr of a list or tuple of texts, whatever is under way -/
namespace PySem
namespace RpG
open Sem PyProof.Rows
section
variable {M : Model} {prog : Program} {w : World} {A : Around} {E : Value → Shared → Prop} {s : Shared} {a : Addr} {o : Obj} {g : List Code}
/-- the list is under way -/
def lstOn (g : List Code) (a : Addr) : Prop := ∃ v rest kw, Code.builtin "list.__repr__.loop" ⟨v :: rest, kw⟩ ∈ g ∧ Builtin.List.listSameRef v (.ref a) = true
theorem own_lst {Q : Fin → Shared → Prop} {c : Code} {x : Value} {l : List Value} {n : Nat} (hg : A.guards = some g) (hyes : lstOn g a) (hget : s.heap.get? a = some o) (hd : o.data = .seq (x :: l).toArray n) (h : Q (.done (.ret (.str "[...]" s.toks))) { s with toks := s.toks + 1 }) :
    wpOwn M A c (Builtin.listReprAt 0 ⟨[.ref a], []⟩) Q E s := by
  intro Γ p hc hΓ
  unfold Builtin.listReprAt
  simp [slotArgs, Builtin.List.listItems, seqItems?, wp_load_of (h := hget), hd, stack]
  show wp M Γ (if (Γ.below.any _) = true then _ else _) _ _ p s
  rw [if_pos]
  · simp [rule, retStr, ret]
    exact h
  · obtain ⟨v, rest, kw, hm, hs⟩ := hyes
    rw [← hΓ.2.2.2.1 g hg] at hm
    unfold guardsOf at hm
    obtain ⟨⟨c', p'⟩, h1, h2⟩ := List.mem_map.mp (List.mem_filter.mp hm).1
    have h2 : c' = _ := h2
    subst h2
    exact List.any_eq_true.mpr ⟨_, h1, hs⟩
theorem call_lst {Q : Value → Shared → Prop} {x : Value} {l : List Value} {n : Nat} (hTy : s.TypeIs (.ref a) "list") (hg : A.guards = some g) (hyes : lstOn g a) (hget : s.heap.get? a = some o) (hd : o.data = .seq (x :: l).toArray n) (h : ∀ u tk, Q (.str "[...]" u) { s with toks := tk }) :
    wpAny (model prog w) A (call (.builtin "list.__repr__") [.ref a]) Q E s :=
  wpAny_call (codeAny_call_builtin_own (Code.quiet_builtin _ (by decide +kernel)) F.entry_list_repr (F.slot_list_repr.check _ _ _ _ _ _ _ _ hTy (F.args_list_repr_1 _) (own_lst hg hyes hget hd (h _ _))))
theorem call_tup {Q : Value → Shared → Prop} (hTy : s.TypeIs (.ref a) "tuple") (hg : A.guards = some g) (hyes : (g.any fun c => tupGuardF (.ref a) (c, default)) = true) (h : ∀ u tk, Q (.str "(...)" u) { s with toks := tk }) :
    wpAny (model prog w) A (call (.builtin "tuple.__repr__") [.ref a]) Q E s := by
  refine wpAny_call (codeAny_call_builtin_own (Code.quiet_builtin _ (by decide +kernel)) F.entry_tuple_repr (F.slot_tuple_repr.check _ _ _ _ _ _ _ _ hTy (F.args_tuple_repr_1 _) ?_))
  show wpOwn _ _ _ (Builtin.tupleReprAt 0 ⟨[.ref a], []⟩) _ _ s
  rw [tuple_repr_tree, tupleReprUnderWay_eq]
  refine wpOwn_bind (wpOwn_stackTailAny hg (tupGuardF_off _) (tupGuardF_pos _) ?_)
  rw [hyes]
  refine wpOwn_of_wpAny (PySem.W.KFB.if_so rfl (wpAny_bind (wpAny_rule ?_)))
  exact wpAny_bind (wpAny_mkStr (wpAny_pure (h _ _)) (by decide +kernel))
/-- repr(x), by its type's slot -/
theorem rep_l {Q : Value → Shared → Prop} {t : Str} (hTy : s.TypeIs (.ref a) "list") (hu : A.units + 1 < cLine) (hc : wpAny (model prog w) A.in1 (call (.builtin "list.__repr__") [.ref a]) (fun v s' => ∃ u, v = .str t u ∧ Q (.str t u) s') E s) : wpAny (model prog w) A (call (.builtin "repr") [.ref a]) Q E s := by
  refine Calls.call_function_entry F.kind_repr F.plain_repr F.entry_repr (F.args_repr1 _) ?_
  unfold Builtin.«repr»
  refine wpAny_bind (m := oneArg "repr" _) (wpAny_pure (wpAny_bind (wpAny_cRoomFor hu ?_)))
  refine wpAny_bind (wpAny_specialOf (name := Str.ofString "__repr__") hTy F.slot_list_repr.lookup ?_)
  refine wpAny_bind (m := callSpecialIfBound? (.ref a) (Str.ofString "__repr__")) (wpAny_callSpecialIfBound?_slot (name := Str.ofString "__repr__") hTy F.slot_list_repr (wpAny_mono hc (fun v s' hv => ?_) fun _ _ e => e))
  obtain ⟨u, rfl, hq⟩ := hv
  exact wpAny_bind (wpAny_isInstance (T := "str") (b := true) rfl isSubtype_str_str (wpAny_pure ⟨_, rfl, hq⟩))
theorem rep_t {Q : Value → Shared → Prop} {t : Str} (hTy : s.TypeIs (.ref a) "tuple") (hu : A.units + 1 < cLine) (hc : wpAny (model prog w) A.in1 (call (.builtin "tuple.__repr__") [.ref a]) (fun v s' => ∃ u, v = .str t u ∧ Q (.str t u) s') E s) : wpAny (model prog w) A (call (.builtin "repr") [.ref a]) Q E s := by
  refine Calls.call_function_entry F.kind_repr F.plain_repr F.entry_repr (F.args_repr1 _) ?_
  unfold Builtin.«repr»
  refine wpAny_bind (m := oneArg "repr" _) (wpAny_pure (wpAny_bind (wpAny_cRoomFor hu ?_)))
  refine wpAny_bind (wpAny_specialOf (name := Str.ofString "__repr__") hTy F.slot_tuple_repr.lookup ?_)
  refine wpAny_bind (m := callSpecialIfBound? (.ref a) (Str.ofString "__repr__")) (wpAny_callSpecialIfBound?_slotG (name := Str.ofString "__repr__") hTy F.slot_tuple_repr (wpAny_mono hc (fun v s' hv => ?_) fun _ _ e => e))
  obtain ⟨u, rfl, hq⟩ := hv
  exact wpAny_bind (wpAny_isInstance (T := "str") (b := true) rfl isSubtype_str_str (wpAny_pure ⟨_, rfl, hq⟩))
end
end RpG
end PySem

-- part Gd28
set_option Elab.async false
set_option linter.all false
set_option maxRecDepth 100000
set_option maxHeartbeats 1000000
namespace Gd
open PySem PySem.Spec PyProof.Rows L2
open Classical in
noncomputable def repL (g : List Code) (a : Addr) (ss : List Str) : Str := if ss = [] then "[]" else if PySem.RpG.lstOn g a then "[...]" else listText (ss.map reprText)
def repT (g : List Code) (a : Addr) (ss : List Str) : Str := if (g.any fun c => tupGuardF (.ref a) (c, default)) = true then "(...)" else tupleText (ss.map reprText)
/-- texts that repr may show -/
structure RepS (ss : List Str) : Prop where
  sg : ∀ y ∈ ss, ∀ c ∈ y.cps.toList, c < 16 ^ 8
  ct : fmtCost ss + 10 ≤ sizeLine
def rRep (K : PySem.W.Frag) (g : List Code) : List V → Hp → VK → Prop := fun xs H Q => ∃ (a : Addr) (ss : List Str), xs = [.ref a] ∧ RepS ss ∧ ((SqL K H a (ss.map V.str) ∧ Q (.str (repL g a ss)) H) ∨ (SqT K H a (ss.map V.str) ∧ Q (.str (repT g a ss)) H))
theorem repS_each {ss : List Str} (h : RepS ss) : ∀ y ∈ ss, (reprText y).length ≤ sizeLine := fun y hy => by
  have h1 := StrLaws.reprText_len y (h.sg y hy)
  have h2 := fmtCost_mem hy
  have := h.ct
  omega
theorem piled_sum : ∀ ts : List Str, (ts.map (·.length)).sum + 2 * ts.length = piled ts
  | [] => rfl
  | t :: ts => by
    have := piled_sum ts
    rw [piled_cons, List.map_cons, List.sum_cons, List.length_cons]
    omega
theorem reprAll_at {prog : Program} {w : World} : ∀ {l : List Value} {ts : List Str} {i : Nat} {z : Value}, ReprAll prog w l ts → l[i]? = some z → ∃ t, ts[i]? = some t ∧ ReprIs prog w z t
  | _, _, 0, _, .cons h _, e => by cases e; exact ⟨_, rfl, h⟩
  | _, _, i + 1, _, .cons _ h, e => reprAll_at (i := i) h e
theorem call_rep {X : Cx} {g : List Code} {k : Nat} (hg : X.A.guards = some g) (hr : Room k X.A) : CallR X (.builtin "repr") (rRep X.K g) := by
  intro pins s σ H xs us Q I r h
  obtain ⟨a, ss, rfl, hs, h⟩ := h
  obtain ⟨u, rfl, ru⟩ := vals1 r
  cases (show u = Value.ref a from ru)
  have hu := hr.un
  have hp := fmt_piled ss hs.sg
  have hz := hs.ct
  rcases h with ⟨hl, q⟩ | ⟨ht, q⟩
  · obtain ⟨its, rv, ⟨o, n, ho, hc, hd1, hd2⟩, _⟩ := I.list hl
    have hTy : s.TypeIs (.ref a) "list" := ⟨o, ho, hc⟩
    have hall := repr_all (prog := X.prog) (w := X.w) rv (repS_each hs)
    refine PySem.RpG.rep_l (t := repL g a ss) hTy (by omega) ?_
    cases ss with
    | nil =>
      cases rv
      refine call_list_repr_empty hTy ho hd2 ?_
      have e : repL g a [] = "[]" := if_pos rfl
      rw [e] at q ⊢
      exact ⟨_, rfl, .str "[]", H, I.tok _, ⟨_, rfl⟩, q⟩
    | cons y ss =>
      cases rv with
      | @cons _ x _ l rx rl =>
        by_cases hon : PySem.RpG.lstOn g a
        · have e : repL g a (y :: ss) = "[...]" := (if_neg (by simp)).trans (if_pos hon)
          rw [e] at q ⊢
          exact PySem.RpG.call_lst hTy hg hon ho hd2 fun u tk => ⟨_, rfl, .str "[...]", H, I.tok _, ⟨_, rfl⟩, q⟩
        · have e : repL g a (y :: ss) = listText ((y :: ss).map reprText) := (if_neg (by simp)).trans (if_neg hon)
          rw [e] at q ⊢
          have hlen := hall.length_eq
          refine call_list_repr hTy hg (fun v rest kw hm => ?_) ho hd2 (by simpa using hlen) (fun i z hz => ?_) (fun h' u tk hk => ⟨_, rfl, .str _, H, I.kept hk, ⟨_, rfl⟩, q⟩) ?_
          · cases hb : Builtin.List.listSameRef v (.ref a) with
            | false => rfl
            | true => exact absurd ⟨v, rest, kw, hm, hb⟩ hon
          · have hz' : (x :: l)[i]? = some z := by simpa using hz
            exact reprAll_at hall hz'
          · have h1 := listText_len_le ((y :: ss).map reprText)
            have h2 := piled_sum ((y :: ss).map reprText)
            omega
  · obtain ⟨its, rv, ⟨o, ho, hc, n, hd⟩, _⟩ := I.tuple ht
    have hTy : s.TypeIs (.ref a) "tuple" := ⟨o, ho, hc⟩
    have hall := repr_all (prog := X.prog) (w := X.w) rv (repS_each hs)
    refine PySem.RpG.rep_t (t := repT g a ss) hTy (by omega) ?_
    by_cases hon : (g.any fun c => tupGuardF (.ref a) (c, default)) = true
    · have e : repT g a ss = "(...)" := if_pos hon
      rw [e] at q ⊢
      exact PySem.RpG.call_tup hTy hg hon fun u tk => ⟨_, rfl, .str "(...)", H, I.tok _, ⟨_, rfl⟩, q⟩
    · have e : repT g a ss = tupleText (ss.map reprText) := if_neg hon
      rw [e] at q ⊢
      refine call_tuple_repr hTy hg (fun c hc => ?_) ho hd (by simpa using hall) (fun u tk => ⟨_, rfl, .str _, H, I.tok _, ⟨_, rfl⟩, q⟩) ?_
      · cases hb : tupGuardF (.ref a) (c, default) with
        | false => rfl
        | true => exact absurd (List.any_eq_true.mpr ⟨c, hc, hb⟩) hon
      · have h1 := fmt_text (ss.map reprText)
        omega
theorem call_repK {X : Cx} {K : PySem.W.Frag} {g : List Code} {k : Nat} (hg : X.A.guards = some g) (hr : Room k X.A) (hK : X.K = K := by rfl) : CallR X (.builtin "repr") (rRep K g) := by
  subst hK
  exact call_rep hg hr
/-! ### a def, by cases of what is under way around it -/
theorem codeAny_guards {M : Model} {A : Around} {c : Code} {R : Result → Shared → Prop} {s : Shared} (h : ∀ g, codeAny M { A with guards := some g } c R s) : codeAny M A c R s := fun Γ p hc hΓ =>
  h (guardsOf Γ.below) Γ p hc ⟨hΓ.1, hΓ.2.1, hΓ.2.2.1, fun g hg => Option.some.inj hg, hΓ.2.2.2.2⟩
section
variable {P : Program} {w : World} {K : PySem.W.Frag} {mg : Str → Option Value} {base : Heap}
theorem calG_of {x : Str} {st : Stmt} {N ps : List Str} {k : Nat} {sp : Sp} (F : Fn K mg x st ps) (S : FnScope N ps (defScope st)) (len : ∀ vs H Q E, sp vs H Q E → vs.length = ps.length)
    (hbody : ∀ (f : Addr) (cdv : Value) (A : Around) (outer : List Env) (s : Shared) (H : Hp) (vs : List V) (Q : VK) (E : XK) (g : List Code), A.guards = some g → Room k (A.deeper (envOfC x (defScope st) s.heap.objs.size f cdv)) → sp vs H Q E →
      ∃ t, PSs (cxOf CX0 P w K mg base N x (defScope st) f cdv A outer s H E).nox (defBody st) t ∧ t { nx := fun _ H' => Q .non H', rt := Q } (start N vs) H) : CalS P w K mg base (k + 1) x st ps sp := by
  obtain ⟨f, fd, h1, h2, h3⟩ := F
  refine ⟨f, fd, h1, h2, h3, len, fun A outer s H args us vs Q E hr e0 hb r hsp => codeAny_guards fun g => ?_⟩
  obtain ⟨oc, od, kV, doc, pm, an, cdv, ct, osl, rfl, lk, hcd⟩ := h1.ex
  refine LamX.run_ofS (A := { A with guards := some g }) lk hcd S ⟨hr.hd, hr.dp, hr.un⟩ ⟨e0.frames, e0.mod, e0.bs, e0.bsz, e0.funs, e0.frf, e0.hok, e0.bare⟩ hb r (len _ _ _ _ hsp) fun hr' => ?_
  obtain ⟨t, h, q⟩ := hbody f cdv { A with guards := some g } outer s H vs Q E g rfl hr' hsp
  exact ⟨t, h.nox, q⟩
end
end Gd

-- part Gd29
set_option Elab.async false
set_option linter.all false
set_option maxRecDepth 100000
set_option maxHeartbeats 1000000
/-! ### by names in another order; texts that repr tells -/
namespace Gd
open PySem PySem.Spec PyProof.Rows L2
theorem vals_rev : ∀ {xs : List V} {us : List Value}, Vals xs us → Vals xs.reverse us.reverse
  | _, _, .nil => .nil
  | _, _, .cons r t => by
    rw [List.reverse_cons, List.reverse_cons]
    exact (vals_rev t).append (.cons r .nil)
/-- a def that is called by its parameters' names, turned about -/
def CalKR (P : Program) (w : World) (K : PySem.W.Frag) (mg : Str → Option Value) (base : Heap) (k : Nat) (x : Str) (ks : List Str) (sp : Sp) : Prop := ∃ (f : Addr) (fd : FuncData) (ps : List Str), FnOk P w K mg base CX0 k f fd ps sp ∧ mg x = some (.ref f) ∧ PySem.W.keepIn K (.ref f) = true ∧ KBinds K fd ps ks (fun us ws => us ++ ws.reverse) fun us ws => us ++ ws.reverse
section
variable {P : Program} {w : World} {K : PySem.W.Frag} {mg : Str → Option Value} {base : Heap}
theorem CalS.byNameR {k : Nat} {x : Str} {st : Stmt} {ps ks : List Str} {sp : Sp} (h : CalS P w K mg base k x st ps sp)
    (hb : ∀ (kV doc pm : Value) (an : Option Addr) (cdv ct : Value) (us ws : List Value), us.length + ws.length = ps.length → bindArgs (PySem.W.fnOf x x (defArgs st) (defBody st) (defScope st) .none kV doc pm an cdv ct) ⟨us, ks.zip ws⟩ = pure (ps.zip (us ++ ws.reverse))) : CalKR P w K mg base k x ks sp := by
  obtain ⟨f, fd, h1, h2, h3, h4⟩ := h
  refine ⟨f, fd, ps, h4, h2, h1.kp, ⟨fun s us ws _ hl => ?_, fun r1 r2 => r1.append (vals_rev r2)⟩⟩
  obtain ⟨oc, od, kV, doc, pm, an, cdv, ct, osl, rfl, _⟩ := h1.ex
  exact .of_eq (hb kV doc pm an cdv ct us ws (by rw [List.length_append, List.length_reverse] at hl; exact hl))
end
section
variable {X : Cx} {k j : Nat} {x : Str} {sp : Sp} {ks : List Str} {p pos : Pos} {kws : List Keyword} {tk : TA}
theorem pe_ckR (c : CalKR X.prog X.w X.K X.mg X.base k x ks sp) (hr : Room j X.A) (hk : k ≤ j) (hg : Gl X x) (hkw : PK X kws tk) (hall : (backToKw pos (keywordEach kws X.env)).all (·.1.isSome) = true := by rfl) (hks : (backToKw pos (keywordEach kws X.env)).filterMap (·.1) = ks := by rfl)
    (hdb : (x == ("__debug__" : Str)) = false := by decide) (hpl : ((backTo pos (starEach [] X.env)).any (·.1) || (backToKw pos (keywordEach kws X.env)).any (·.1.isNone)) = false := by rfl) :
    PE X (.Call (.Name x p) [] kws pos) (tCallK sp (fun us ws => us ++ ws.reverse) C8.E0 tNil tk) := by
  obtain ⟨f, fd, ps, F, hm, kp, hb⟩ := c
  refine ⟨fun pins s σ H Q I h => ?_⟩
  refine wpAny_Call_Name_kw (ld_glob I hg hm ?_ hdb)
  refine PySem.W.callWith_KW0 (h₀ := X.base) I.ok.mod.kin kp hall (thn (hkw.run pos pins s σ H _ I h) fun ws s2 ⟨zs, H2, I2, rz, q2⟩ => ⟨I2.kIn, ?_⟩) hpl
  rw [hks]
  exact run_fnk (us := []) (vs := []) F (hr.mono hk) hb C8.pass0 I2 .nil rz q2
end
section
variable {K : PySem.W.Frag} {b : Bool} {σ : L2.St} {G H : Hp} {ta tb te : TE}
/-- a text, of any length -/
def Tx (t : Str) : SR := ⟨fun v _ => v = .str t, fun _ h => h⟩
theorem ev_neTx {x y : Str} (ha : Ev b ta σ G (Tx x)) (hb : Ev b tb σ G (Tx y)) : Ev b (tOp rNe ta tb) σ G (B (!decide (x = y))) :=
  ev_opP ha hb fun u v G1 H1 a r p q => by
    obtain rfl : u = _ := p
    obtain rfl : v = _ := q
    refine ⟨_, ?_, fun Q hQ => ⟨rfl, hQ⟩⟩
    show V.bl _ = V.bl _
    rw [dec_str, Bool.beq_eq_decide_eq]
theorem rep_of {g : List Code} {p : List Str} {u : V} (h : (Sq K S p).p u G) (hs : RepS p) : ∃ t : Str, ∀ {b : Bool} {i : Nat} {σ : L2.St} {G' : Hp}, Same G G' → σ[i]? = some (some u) → Ev b (tCB (rRep K g) (tCons (tVar i) tNil)) σ G' (Tx t) := by
  rcases h with ⟨a, vs, rfl, h1, h2, al⟩ | ⟨a, vs, rfl, h1, h2, al⟩
  · obtain rfl := strs_of al
    exact ⟨repL g a p, fun {b i σ G'} s hv G1 H1 s1 r Q k => ⟨_, hv, a, p, rfl, hs, .inl ⟨r.seqL (SqL.of ((s.trans s1) _ _ h1)), k _ G1 H1 (Go.refl _ _) rfl⟩⟩⟩
  · obtain rfl := strs_of al
    exact ⟨repT g a p, fun {b i σ G'} s hv G1 H1 s1 r Q k => ⟨_, hv, a, p, rfl, hs, .inr ⟨r.seqT ((Rel.sq (s.trans s1)).seqT h1), k _ G1 H1 (Go.refl _ _) rfl⟩⟩⟩
end
end Gd

-- part Gd30
set_option Elab.async false
set_option linter.all false
set_option maxRecDepth 100000
set_option maxHeartbeats 1000000
/-! ### draws within arguments -/
namespace Gd
open PySem PySem.Spec PyProof.Rows L2
universe u
section
variable {K : PySem.W.Frag} {s c : Addr} {k m : Nat} {σ : L2.St} {G G' H : Hp} {t ta tb te : TE} {R R' : SR} {α β : Type} {e e1 e2 : α → SR}
theorem ed_cb1 {rc : List V → Hp → VK → Prop} (h : EvD s c k te σ G R) (hr : ∀ v G1, Same G G1 → R.p v G1 → Ev true (tCB rc (tCons (tC v) tNil)) σ G1 R') : EvD s c k (tCB rc (tCons te tNil)) σ G R' := fun G1 H1 n a r d hn Q q =>
  h G1 H1 n a r d hn _ fun v G2 H2 g2 d2 r2 p => (hr v G2 (a.trans g2.g) p) G2 H2 (Same.refl _) r2 Q fun u G3 H3 g3 pu => q u G3 H3 (g2.tr g3.st d d2) (d2.go g3) (g3.r _ r2) pu
/-- a drawing def, of the stream and of one thing that is drawn, too -/
theorem ed_call2 {ι : Type u} {pre : ι → List SR} {ok : ι → Prop} {cost : ι → Nat} {post : ι → SR} {E : XK} {j : Nat} {Pk : α → Prop} (hs : σ[j]? = some (some (.ref s))) (h : EvD s c k te σ G (ExR Pk e)) (hi : ∀ x, Pk x → ∃ i, pre i = [e x] ∧ ok i ∧ cost i ≤ m ∧ ∀ v G, (post i).p v G → R'.p v G) :
    EvD s c (k + m) (tCall (spD pre ok cost post) [] E (tCons (tVar j) (tCons te tNil))) σ G R' := fun G1 H1 n a r d hn Q q =>
  ⟨_, hs, h G1 H1 n a r d (by omega) _ fun v G2 H2 g2 d2 r2 ⟨x, hx, p⟩ => by
    obtain ⟨i, e1, ho, hc, hp⟩ := hi x hx
    exact ⟨i, G2, s, c, n + k, [v], rfl, r2, d2, by omega, ho, by rw [e1]; exact .cons p .nil, fun u G3 H3 g3 d3 r3 pu => q u G3 H3 (g2.tr g3 d d2) (d3.le (by omega)) r3 (hp u G3 pu)⟩⟩
theorem ed_lst2 {P1 P2 : α → Prop} (h1 : EvD s c k ta σ G (ExR P1 e1)) (h2 : EvD s c m tb σ G (ExR P2 e2)) (c1 : ∀ x v G, (e1 x).p v G → (e x).p v G) (c2 : ∀ x v G, (e2 x).p v G → (e x).p v G) :
    EvD s c (k + m) (tLst (tCons ta (tCons tb tNil))) σ G (ExR (fun q : List α => ∃ x y, q = [x, y] ∧ P1 x ∧ P2 y) (Lst e)) := fun G1 H1 n a r d hn Q q =>
  h1 G1 H1 n a r d (by omega) _ fun v G2 H2 g2 d2 r2 ⟨x, hx, p⟩ => h2 G2 H2 (n + k) (a.trans g2.g) r2 d2 (by omega) _ fun w G3 H3 g3 d3 r3 ⟨y, hy, p'⟩ => ⟨by show 2 ≤ sizeLine; decide, fun pp hp => by
    have gn := Go.new r3 (o := .lst [v, w]) hp
    exact q _ _ _ ((g2.tr g3 d d2).tr gn.st d d3) ((d3.go gn).le (by omega)) (gn.r _ r3) ⟨[x, y], ⟨x, y, rfl, hx, hy⟩, pp, [v, w], rfl, upd_same, by show 2 ≤ sizeLine; decide, .cons (c1 _ _ _ ((e1 x).st (g3.g.trans gn.g) p)) (.cons (c2 _ _ _ ((e2 y).st gn.g p')) .nil)⟩⟩
/-- a comprehension over something drawn -/
theorem ed_lc {g : TG} {tt : TT} {vs : List Nat} {Pk : List α → Prop} {er : β → SR} {fn : List α → List β} (h : EvD s c k ta σ G (ExR Pk (fun xs => Sq K e xs))) (hb : ∀ xs, Pk xs → ∀ x G1, Same G G1 → (Sq K e xs).p x G1 → EvN true (tLc (iSeq K (tC x)) g tt te vs) σ G1 er (fn xs)) :
    EvD s c k (tLc (iSeq K ta) g tt te vs) σ G (ExR Pk fun xs => Lst er (fn xs)) := fun G1 H1 n a r d hn Q q =>
  h G1 H1 n a r d hn _ fun v G2 H2 g2 d2 r2 ⟨xs, hx, p⟩ => (hb xs hx v G2 (a.trans g2.g) p).ev G2 H2 (Same.refl _) r2 Q fun u G3 H3 g3 pu => q u G3 H3 (g2.tr g3.st d d2) (d2.go g3) (g3.r _ r2) ⟨xs, hx, pu⟩
/-- x + (something drawn) -/
theorem ed_cat {i : Nat} {v : V} {xs : List α} {Pk : β → Prop} {fn : β → List α} (hv : σ[i]? = some (some v)) (hx : (Lst e xs).p v G) (h : EvD s c k tb σ G (ExR Pk fun ys => Lst e (fn ys))) (hl : ∀ ys, Pk ys → xs.length + (fn ys).length ≤ 100000) : EvD s c k (tOp rCat (tVar i) tb) σ G (ExR Pk fun ys => Lst e (xs ++ fn ys)) := fun G1 H1 n a r d hn Q q =>
  ⟨v, hv, h G1 H1 n a r d hn _ fun w G2 H2 g2 d2 r2 ⟨ys, hy, p⟩ => (en_cat (ta := tC v) (tb := tC w) (σ := σ) (b := true) (ev_cR ((Lst e xs).st (a.trans g2.g) hx)) (ev_cR p) (hl ys hy)).ev G2 H2 (Same.refl _) r2 Q fun u G3 H3 g3 pu => q u G3 H3 (g2.tr g3.st d d2) (d2.go g3) (g3.r _ r2) ⟨ys, hy, pu⟩⟩
theorem ed_is {P1 P2 : α → Prop} (h : EvD s c k t σ G (ExR P1 e1)) (hp : ∀ x, P1 x → P2 x) (hc : ∀ x v G, (e1 x).p v G → (e2 x).p v G) : EvD s c k t σ G (ExR P2 e2) := h.is fun u G2 _ ⟨x, hx, p⟩ => ⟨x, hp x hx, hc x u G2 p⟩
end
end Gd

-- part Gd31
set_option Elab.async false
set_option linter.all false
set_option maxRecDepth 100000
set_option maxHeartbeats 1000000
/-! ### sorted(xs, key=lambda lot: (len(lot), lot)) -/
namespace Gd
open PySem PySem.Spec PyProof.Rows L2 PySem.W
abbrev lotB (p1 p2 p3 p4 p5 : Pos) (j : Nat) : Expr := .Tuple [.Call (.Name "len" p1) [.Name "lot" p2] [] p3, .Name "lot" p4] j p5
section
variable {X : Cx} {pins : List (Addr × Obj)} {σ : L2.St} {H : Hp} {s : Shared}
theorem turn_lam (I : Inv X pins σ H s) (hm : X.mg "len" = none) {f c' a : Addr} {q : Str} {params : Arguments} {scope : Scope} {pm ctv : Value} {p1 p2 p3 p4 p5 : Pos} {j : Nat} {o : Obj} {its : Array Value} {n : Nat}
    (hf : s.heap.get? f = some (PySem.W.kla_obj "<lambda>" q params (lotB p1 p2 p3 p4 p5 j) scope [] pm c' ctv)) (hc : s.heap.CodeRec (.ref c') q) (hk : scope.kind = .function) (hco : scope.isCoroutine = false) (hgen : scope.isGenerator = false) (hnc : ∀ y ∈ scope.names, y.2 ≠ .cell)
    (hl : scope.names.lookup ("lot" : Str) = some .local) (hg : scope.names.lookup ("len" : Str) = some .globalImplicit) (hbind : ∀ v, bindArgs (PySem.W.kla_fn "<lambda>" q params (lotB p1 p2 p3 p4 p5 j) scope [] pm (.ref c') ctv) ⟨[v], []⟩ = pure [(("lot" : Str), v)])
    (ho : s.heap.get? a = some o) (hcl : o.cls = .type "tuple") (hd : o.data = .seq its n) (hsz : its.size ≤ sizeLine) {A2 : Around} (hdep : A2.depth < recursionLimit) {h : Heap} {tk : Nat} (kp : ∀ b o, s.heap.get? b = some o → h.get? b = some o) {R : Value → Shared → Prop}
    (kk : ∀ p h' tk' t, (∀ b o, h.get? b = some o → h'.get? b = some o) → h'.get? p = some { cls := .type "tuple", data := .seq #[.int its.size t, .ref a] } → R (.ref p) { s with heap := h', toks := tk' }) :
    wpAny (model X.prog X.w) A2 (call (.ref f) [.ref a]) R (fun _ _ => False) { s with heap := h, toks := tk } := by
  refine wpAny_call (codeAny_mono (R := fun r s' => ∃ v, r = .ok (.ret v) ∧ R v s') ?_ fun r s' ⟨v, e, hq⟩ => by subst e; exact hq)
  refine PySem.W.kla_callFunE hdep (kp _ _ hf) rfl hco hgen rfl (hc.keeps kp) ?_
  show wpAny _ _ (bindArgs (PySem.W.kla_fn "<lambda>" q params (lotB p1 p2 p3 p4 p5 j) scope [] pm (.ref c') ctv) ⟨[.ref a], []⟩) _ _ _
  rw [hbind]
  refine wpAny_pure (wpAny_newFunctionEnv hnc (fun y hy => ?_) (fun h₁ hns hsb => ⟨(I.nolimit.keeps kp).fresh _ hsb, ?_⟩) hk)
  · rw [List.mem_singleton.mp hy]
    exact hl
  have kp2 : ∀ b o, h.get? b = some o → h₁.get? b = some o := fun b o e => hsb.extBut b o (Nat.ne_of_lt (Heap.lt_size e)) (Heap.get?_push_of_some _ e)
  refine PySem.W.kla_codeExpr (wpAny_Tuple_spliced ?_)
  obtain ⟨mb, b1, b2⟩ := I.mod.blt
  have up : ∀ b o, X.base.get? b = some o → h₁.get? b = some o := fun b o e => kp2 b o (kp b o (I.bk b o e))
  refine Calls.spliced_cons (wpAny_Call_Name_kw (Calls.Name_function_global hk hg (Calls.loadGlobal_builtin (I.mod.glob.keeps up) hm (b1.keeps up) ((b2 "len" (by decide)).trans PySem.boot_len) ?_)))
  refine PyProof.Rows.callWith_builtin1 (Calls.spliced_cons (wpAny_Name (wpAny_loadName_local hk hl hns rfl (Calls.spliced_nil ?_))))
  have pl : IsTup h₁ a its := ⟨o, kp2 _ _ (kp _ _ ho), hcl, n, hd⟩
  have hz := sizeLine_eq
  refine len_tuple pl (by omega) ?_
  refine Calls.spliced_cons (wpAny_Name (wpAny_loadName_local hk hl hns rfl (Calls.spliced_nil ⟨by show 2 ≤ sizeLine; omega, _, rfl, ?_⟩)))
  exact kk _ _ _ _ (fun b o e => Heap.get?_push_of_some _ (kp2 b o e)) (Heap.get?_push_size _ rfl)
theorem seqL_ext {K : PySem.W.Frag} {H H2 : Hp} {a : Addr} {xs : List V} (e : LamX.ExtN H H2) (h : SqL K H a xs) : SqL K H2 a xs := by
  rcases h with (h | ⟨o, h⟩) | h
  · exact .inl (.inl (e _ _ h fun ps z => by cases z))
  · exact .inl (.inr ⟨o, e _ _ h fun ps z => by cases z⟩)
  · exact .inr h
theorem seqT_ext {K : PySem.W.Frag} {H H2 : Hp} {a : Addr} {xs : List V} (e : LamX.ExtN H H2) (h : SqT K H a xs) : SqT K H2 a xs := by
  rcases h with (h | ⟨o, h⟩) | h
  · exact .inl (.inl (e _ _ h fun ps z => by cases z))
  · exact .inl (.inr ⟨o, e _ _ h fun ps z => by cases z⟩)
  · exact .inr h
theorem reads_strs {h : Heap} : ∀ {ss : List Str} {its : List Value}, Vals (ss.map V.str) its → ReadsAll h its (ss.map PyData.str) []
  | [], _, .nil => .nil
  | _ :: _, _, .cons ⟨_, rfl⟩ t => ReadsAll.cons (as := []) (bs := []) (.str _ _) (reads_strs t)
/-- what a lot is sorted by -/
def keyL (ss : List Str) : PyData := .tuple [.int ss.length, .tuple (ss.map PyData.str)]
def tSrtLam (K : PySem.W.Frag) (T : List (Addr × Str)) (te : TE) : TE := fun σ H Q => te σ H fun x H1 => ∃ (a : Addr) (lots : List (List Str)) (vs : List V) (R : V → List Str → Prop), x = .ref a ∧ SqL K H1 a vs ∧ EachIs R vs lots ∧ (∀ v ss, R v ss → ∃ b, v = .ref b ∧ SqT K H1 b (ss.map V.str)) ∧ LamX.Tabs T H1 ∧
  ∀ H2 p ws, LamX.ExtN H1 H2 → LamX.Tabs T H2 → H2 p = none → EachIs R ws (lots.mergeSort (dataLe false keyL)) → Q (.ref p) (upd H2 p (.lst ws))
theorem depth_strs : ∀ ss : List Str, PyData.depthAll (ss.map PyData.str) = 0
  | [] => rfl
  | _ :: ss => by
    simp only [List.map_cons, PyData.depthAll, PyData.depth, depth_strs ss]
    rfl
theorem pe_srtLam {T : List (Addr × Str)} {c Pt : Addr} {params : Arguments} {scope : Scope} {e : Expr} {te : TE} {p p1 p2 p3 p4 p5 lpos kpos pos : Pos} {j k : Nat} (TB : LamX.TabB X.base X.mg c Pt) (hcode : X.env.code = .ref c) (hmT : (Pt, X.env.qual ++ "<lambda>") ∈ T) (hu : ∀ p ∈ T, p.1 = Pt → p.2 = X.env.qual ++ "<lambda>")
    (hr : Room k X.A) (hg : Gl X "sorted") (hm : X.mg "sorted" = none) (hml : X.mg "len" = none) (he : PE X e te) (hk : scope.kind = .function := by rfl) (hco : scope.isCoroutine = false := by rfl) (hgen : scope.isGenerator = false := by rfl) (hnc : ∀ y ∈ scope.names, y.2 ≠ .cell := by decide +kernel) (hnf : ∀ y ∈ scope.names, y.2 ≠ .free := by decide +kernel)
    (hl : scope.names.lookup ("lot" : Str) = some .local := by rfl) (hgl : scope.names.lookup ("len" : Str) = some .globalImplicit := by rfl) (hdef : defaultsOf params X.env = ([], []) := by rfl)
    (hcl : cloFrom X.env.cells scope.names [] = [] := by rfl)
    (hbind : ∀ (q : Str) (pm cv ctv v : Value), bindArgs (PySem.W.kla_fn "<lambda>" q params (lotB p1 p2 p3 p4 p5 j) scope [] pm cv ctv) ⟨[v], []⟩ = pure [(("lot" : Str), v)] := by intros; rfl)
    (hs1 : backTo pos (starEach [e] X.env) = (false, eval e X.env) :: backTo pos (starEach [] X.env) := by rfl) (hs2 : (backTo pos (starEach [e] X.env)).any (·.1) = false := by rfl) :
    PE X (.Call (.Name "sorted" p) [e] [⟨some "key", .Lambda params (lotB p1 p2 p3 p4 p5 j) scope lpos, kpos⟩] pos) (tSrtLam X.K T te) := by
  refine ⟨fun pins s σ H Q I h => ?_⟩
  refine wpAny_Call_Name_kw (ld_blt I hg hm boot_sorted ?_)
  refine PyProof.Rows.callWith_kw ?_ hs1 hs2
  rw [hs1]
  show wpAny _ _ (spliced [(false, eval e X.env)]) _ _ _
  refine Calls.spliced_cons (thn (he.run pins s σ H _ I h) fun u s1 ⟨x, H1, I1, r1, q1⟩ => Calls.spliced_nil ?_)
  obtain ⟨a, lots, vs, R, rfl, hs, ea, hR, hT, k⟩ := q1
  obtain rfl : u = Value.ref a := r1
  show wpAny _ _ (evalAll [do let v ← eval (.Lambda params (lotB p1 p2 p3 p4 p5 j) scope lpos) X.env; standAt pos; pure v]) _ _ _
  refine wpAny_evalAll_cons (wpAny_bind (LamX.lam_make2 I1 TB hcode hmT hu hT hdef (fun y hy e => absurd e (hnf y hy)) fun f c' pm ctv H2 s2 I2 eN T2 hf hfn hfr hc => wpAny_bind (wpAny_standAt (wpAny_pure (wpAny_evalAll_nil ?_)))))
  rw [hcl] at hf
  show wpAny _ _ (call (.builtin "sorted") [.ref a] [(Str.ofString "key", .ref f)]) _ _ s2
  obtain ⟨its, rv, pl, hz⟩ := I2.list (seqL_ext eN hs)
  obtain ⟨⟨oc, vc, tc, hoc, hdc, hvc⟩, _, _⟩ := I2.hok c' _ hc
  have hll : lots.length = vs.length := by rw [ea.length]
  refine sorted_key_data (b := false) keyL pl.isList (each_up rv ea) (AllAlike.of fun x y => by simp [keyL, alike, alikeAll, alkAll alk_S]) (Sortable.tuples fun _ => ⟨_, _, rfl⟩) (by rw [hll]; exact hz) (fun x _ => ?_) (ksk_s1 _ _) (fun _ => ksk_l1 _ _) (fun _ => ksk_t1 _ _) (fun v ss hv _ h tk kp => ?_) fun out cn h' tk kp fresh hD hlo hE => ?_
  · have hd : (keyL x).depth = 2 := by simp [keyL, PyData.depth, PyData.depthAll, depth_strs]
    have := hr.un
    omega
  · obtain ⟨vv, rvv, hRv⟩ := hv
    obtain ⟨b, rfl, hsq⟩ := hR vv ss hRv
    obtain rfl : v = Value.ref b := rvv
    obtain ⟨its2, rv2, ⟨o2, ho2, hc2, n2, hd2⟩, hz2⟩ := I2.tuple (seqT_ext eN hsq)
    have hl2 := rv2.length
    rw [List.length_map] at hl2
    refine turn_lam I2 hml hf ⟨c', oc, vc, tc, rfl, hoc, hdc, hvc⟩ hk hco hgen hnc hl hgl (fun v => hbind _ _ _ _ v) ho2 hc2 hd2 (by rw [List.size_toArray]; rw [List.length_map] at hz2; omega) (by have := hr.dp; show X.A.depth < _; omega) kp fun p h' tk' t kp2 hp => ?_
    refine ⟨h', tk', rfl, kp2, ?_⟩
    refine Reads.tuple (as := []) hp rfl rfl (ReadsAll.cons (as := []) (bs := []) ?_ (ReadsAll.cons (as := []) (bs := []) (Reads.tuple (kp2 _ _ (kp _ _ ho2)) hc2 hd2 (reads_strs rv2)) .nil))
    have e : ((its2.toArray.size : Nat) : Int) = (ss.length : Int) := by rw [List.size_toArray, hl2]
    rw [e]
    exact .int _ _
  · obtain ⟨ws, hv, hw⟩ := each_vals hE
    have hzz : ws.length ≤ sizeLine := by rw [hv.length, hlo, hll]; exact hz
    exact ⟨.ref _, upd H2 (s2.heap.objs.size + 1) (.lst ws), I2.laid (t' := tk) kp (Nat.le_succ _) ⟨hzz, out, cn, hv, hD⟩, rfl, k H2 _ ws eN T2 (I2.hok.fresh (Nat.le_succ _)) hw⟩
end
end Gd

-- part Gd32
set_option Elab.async false
set_option linter.all false
set_option maxRecDepth 100000
set_option maxHeartbeats 1000000
/-! ### readings in which tables of code objects may grow -/
namespace Gd
open PySem PySem.Spec PyProof.Rows L2
universe u
theorem elseX {a b : Prop} (h : b) : if (false = true) then a else b := h
def NoTb (G : Hp) : Prop := ∀ a o, G a = some o → isTb o = false
structure GoX (G H G2 H2 : Hp) : Prop where
  g : Same G G2
  h : ∀ a o, isTb o = false → H a = some o → H2 a = some o
  r0 : ∀ a o, G a = none → G2 a = some o → H2 a = some o
  n : ∀ a o, isTb o = false → H a = some o → G2 a = G a
  t : ∀ a o, G a = none → G2 a = some o → isTb o = false
/-- whether p is new, as far as one can tell -/
def Nw (H : Hp) (p : Addr) : Prop := ∀ o, H p = some o → isTb o = true
section
variable {G H G2 H2 G3 H3 : Hp} {s c : Addr} {n : Nat} {Tb : List (Addr × Str)}
theorem Nw.of {p : Addr} (h : H p = none) : Nw H p := fun o e => by rw [h] at e; cases e
theorem Nw.ne {p a : Addr} {o : HO} (h : Nw H p) (e : H a = some o) (ho : isTb o = false := by rfl) : a ≠ p := fun z => by
  rw [z] at e
  rw [h o e] at ho
  cases ho
theorem NoTb.none : NoTb (fun _ => none) := fun _ _ h => by cases h
theorem NoTb.go (t : NoTb G) (g : Go G H G2 H2) : NoTb G2 := fun a o e => by
  cases z : G a with
  | none => exact g.t a o z e
  | some u =>
    have e2 := g.g a u z
    rw [e] at e2
    cases e2
    exact t a o z
theorem NoTb.gs (t : NoTb G) (g : GoS s c G H G2 H2) : NoTb G2 := fun a o e => by
  cases z : G a with
  | none => exact g.t a o z e
  | some u =>
    have e2 := g.g a u z
    rw [e] at e2
    cases e2
    exact t a o z
theorem NoTb.gx (t : NoTb G) (g : GoX G H G2 H2) : NoTb G2 := fun a o e => by
  cases z : G a with
  | none => exact g.t a o z e
  | some u =>
    have e2 := g.g a u z
    rw [e] at e2
    cases e2
    exact t a o z
theorem NoTb.up (t : NoTb G) {p : Addr} {o : HO} (ho : isTb o = false := by rfl) : NoTb (upd G p o) := fun a u e => by
  by_cases z : a = p
  · subst z; rw [upd_same] at e; cases e; exact ho
  · rw [upd_ne z] at e; exact t a u e
theorem Go.x (g : Go G H G2 H2) : GoX G H G2 H2 := ⟨g.g, fun a o _ e => g.h a o e, g.r0, fun a o _ e => g.n a o e, g.t⟩
theorem GoX.refl (G H : Hp) : GoX G H G H := (Go.refl G H).x
theorem GoX.ext (e : LamX.ExtN H H2) : GoX G H G H2 := ⟨Same.refl G, fun a o h q => e a o q fun ps => ne_tbl h ps, fun a o h q => (by rw [h] at q; cases q), fun _ _ _ _ => rfl, fun a o h q => (by rw [h] at q; cases q)⟩
theorem GoX.trans (a : GoX G H G2 H2) (b : GoX G2 H2 G3 H3) : GoX G H G3 H3 :=
  ⟨a.g.trans b.g, fun x o ho e => b.h x o ho (a.h x o ho e), fun x o q e => by
    cases z : G2 x with
    | none => exact b.r0 x o z e
    | some u =>
      have e2 := b.g x u z
      rw [e] at e2
      cases e2
      exact b.h _ _ (a.t x o q z) (a.r0 x o q z), fun x o ho e => (b.n x o ho (a.h x o ho e)).trans (a.n x o ho e), fun x o q e => by
    cases z : G2 x with
    | none => exact b.t x o z e
    | some u =>
      have e2 := b.g x u z
      rw [e] at e2
      cases e2
      exact a.t x o q z⟩
theorem GoX.r (k : GoX G H G2 H2) (t : NoTb G) (r : Rel true G H) : Rel true G2 H2 := fun a o e => by
  cases q : G a with
  | none => exact .inl (k.r0 a o q e)
  | some u =>
    have e2 := k.g a u q
    rw [e] at e2
    cases e2
    exact .inl (k.h _ _ (t a o q) (r.ex q))
theorem GoX.nw {p : Addr} (g : GoX G H G2 H2) (h : Nw H2 p) : Nw H p := fun o e => by
  cases z : isTb o with
  | true => rfl
  | false =>
    have := h o (g.h _ _ z e)
    rw [z] at this
    cases this
theorem GoX.free {p : Addr} (g : GoX G H G2 H2) (h : H2 p = none) : Nw H p := g.nw (Nw.of h)
theorem GoX.wr (g : GoX G H G2 H2) {p : Addr} {o : HO} (n : Nw H p) (n2 : G2 p = none) : GoX G H G2 (upd H2 p o) :=
  ⟨g.g, fun a u hu e => by rw [upd_ne (n.ne e hu)]; exact g.h a u hu e, fun a u q e => by rw [upd_ne (ne_of_none e n2)]; exact g.r0 a u q e, g.n, g.t⟩
theorem GoX.give (g : GoX G H G2 H2) {p : Addr} {o : HO} (n : Nw H p) (n2 : G2 p = none) (h : H2 p = some o) (ho : isTb o = false := by rfl) : GoX G H (upd G2 p o) H2 :=
  ⟨Same.own g.g (by
      cases q : G p with
      | none => rfl
      | some u => rw [g.g p u q] at n2; cases n2), g.h, fun a u q e => by
      by_cases z : a = p
      · subst z; rw [upd_same] at e; rw [h]; exact e
      · rw [upd_ne z] at e; exact g.r0 a u q e, fun a u hu e => by
      rw [upd_ne (n.ne e hu)]
      exact g.n a u hu e, fun a u q e => by
      by_cases z : a = p
      · subst z; rw [upd_same] at e; cases e; exact ho
      · rw [upd_ne z] at e; exact g.t a u q e⟩
theorem Dr.gx (d : Dr s c n G H) (g : GoX G H G2 H2) : Dr s c n G2 H2 := by
  obtain ⟨h1, h2, h3, cells, a, mm, cnt, e1, e2, e⟩ := d
  exact ⟨h1, (g.n _ _ rfl e1).trans h2, (g.n _ _ rfl e2).trans h3, cells, a, mm, cnt, g.h _ _ rfl e1, g.h _ _ rfl e2, e⟩
end
/-! ### evaluations -/
def EvX (Tb : List (Addr × Str)) (t : TE) (σ : L2.St) (G : Hp) (R : SR) : Prop := ∀ G1 H1, Same G G1 → Rel true G1 H1 → NoTb G1 → LamX.Tabs Tb H1 → ∀ Q : VK, (∀ u G2 H2, GoX G1 H1 G2 H2 → LamX.Tabs Tb H2 → R.p u G2 → Q u H2) → t σ H1 Q
def EvXN (Tb : List (Addr × Str)) (t : TE) (σ : L2.St) (G : Hp) {α : Type} (e : α → SR) (xs : List α) : Prop := ∀ G1 H1, Same G G1 → Rel true G1 H1 → NoTb G1 → LamX.Tabs Tb H1 → ∀ Q : VK,
  (∀ p vs G2 H2, GoX G1 H1 G2 H2 → LamX.Tabs Tb H2 → Nw H1 p → G2 p = none → H2 p = some (.lst vs) → vs.length ≤ sizeLine → Al e xs vs G2 → Q (.ref p) H2) → t σ H1 Q
/-- a def in which tables may grow -/
def spT {ι : Type u} (Tb : List (Addr × Str)) (pre : ι → List SR) (ok : ι → Prop) (post : ι → SR) : Sp := fun vs H Q _ => ∃ i G, Rel true G H ∧ NoTb G ∧ LamX.Tabs Tb H ∧ ok i ∧ AlR (pre i) vs G ∧ ∀ u G2 H2, GoX G H G2 H2 → LamX.Tabs Tb H2 → (post i).p u G2 → Q u H2
def spTN {ι : Type u} {α : Type} (Tb : List (Addr × Str)) (pre : ι → List SR) (ok : ι → Prop) (e : α → SR) (post : ι → List α) : Sp := fun vs H Q _ => ∃ i G, Rel true G H ∧ NoTb G ∧ LamX.Tabs Tb H ∧ ok i ∧ AlR (pre i) vs G ∧
  ∀ p vs G2 H2, GoX G H G2 H2 → LamX.Tabs Tb H2 → Nw H p → G2 p = none → H2 p = some (.lst vs) → vs.length ≤ sizeLine → Al e (post i) vs G2 → Q (.ref p) H2
section
variable {Tb : List (Addr × Str)} {σ : L2.St} {G G' H : Hp} {t ta tb te : TE} {R R' : SR} {α β : Type} {e : α → SR} {xs : List α}
theorem EvX.run (h : EvX Tb t σ G R) (r : Rel true G H) (nt : NoTb G) (tb : LamX.Tabs Tb H) {Q : VK} (k : ∀ v G2 H2, GoX G H G2 H2 → Rel true G2 H2 → NoTb G2 → LamX.Tabs Tb H2 → R.p v G2 → Q v H2) : t σ H Q :=
  h G H (Same.refl G) r nt tb Q fun v G2 H2 g t2 p => k v G2 H2 g (g.r nt r) (nt.gx g) t2 p
theorem EvXN.run (h : EvXN Tb t σ G e xs) (r : Rel true G H) (nt : NoTb G) (tb : LamX.Tabs Tb H) {Q : VK} (k : ∀ p vs G2 H2, GoX G H G2 H2 → Rel true G2 H2 → NoTb G2 → LamX.Tabs Tb H2 → Nw H p → G2 p = none → H2 p = some (.lst vs) → vs.length ≤ sizeLine → Al e xs vs G2 → Q (.ref p) H2) : t σ H Q :=
  h G H (Same.refl G) r nt tb Q fun p vs G2 H2 g t2 n1 n2 n3 n4 n5 => k p vs G2 H2 g (g.r nt r) (nt.gx g) t2 n1 n2 n3 n4 n5
theorem EvX.mono (s : Same G G') (h : EvX Tb t σ G R) : EvX Tb t σ G' R := fun G1 H1 a r nt tb Q k => h G1 H1 (s.trans a) r nt tb Q k
theorem EvX.is (h : EvX Tb t σ G R) (q : ∀ u G2, Same G G2 → R.p u G2 → R'.p u G2) : EvX Tb t σ G R' := fun G1 H1 a r nt tb Q k => h G1 H1 a r nt tb Q fun u G2 H2 g t2 p => k u G2 H2 g t2 (q u G2 (a.trans g.g) p)
theorem EvX.eq (h : EvX Tb t σ G R) (q : R = R') : EvX Tb t σ G R' := q ▸ h
theorem EvXN.eq {ys : List α} (h : EvXN Tb t σ G e xs) (q : xs = ys) : EvXN Tb t σ G e ys := q ▸ h
theorem EvXN.ev (h : EvXN Tb t σ G e xs) : EvX Tb t σ G (Lst e xs) := fun G1 H1 a r nt tb Q k => h G1 H1 a r nt tb Q fun p vs G2 H2 g t2 n1 n2 n3 n4 n5 =>
  k (.ref p) _ H2 (g.give n1 n2 n3) t2 ⟨p, vs, rfl, upd_same, n4, n5.st (Same.new n2)⟩
theorem ex_ev (h : Ev true t σ G R) : EvX Tb t σ G R := fun G1 H1 a r nt tb Q k => h G1 H1 a r Q fun u G2 H2 g p => k u G2 H2 g.x (tabs_go tb g) p
theorem exn_ev (h : EvN true t σ G e xs) : EvXN Tb t σ G e xs := fun G1 H1 a r nt tb Q k => h G1 H1 a r Q fun p vs G2 H2 g n1 n2 n3 n4 n5 => k p vs G2 H2 g.x (tabs_go tb g) (Nw.of n1) n2 n3 n4 n5
/-- what is read first, then the rest with its value at hand -/
theorem ex_bind (F : TE → TE) (h : EvX Tb te σ G R) (hr : ∀ v G1, Same G G1 → R.p v G1 → EvX Tb (F (tC v)) σ G1 R') (hF : ∀ (H : Hp) (Q : VK), (te σ H fun v H1 => F (tC v) σ H1 Q) → F te σ H Q := by exact fun _ _ h => h) : EvX Tb (F te) σ G R' := fun G1 H1 a r nt tb Q k =>
  hF H1 Q (h G1 H1 a r nt tb _ fun v G2 H2 g t2 p => hr v G2 (a.trans g.g) p G2 H2 (Same.refl _) (g.r nt r) (nt.gx g) t2 Q fun u G3 H3 g3 t3 pu => k u G3 H3 (g.trans g3) t3 pu)
theorem exn_bind (F : TE → TE) (h : EvX Tb te σ G R) (hr : ∀ v G1, Same G G1 → R.p v G1 → EvXN Tb (F (tC v)) σ G1 e xs) (hF : ∀ (H : Hp) (Q : VK), (te σ H fun v H1 => F (tC v) σ H1 Q) → F te σ H Q := by exact fun _ _ h => h) : EvXN Tb (F te) σ G e xs := fun G1 H1 a r nt tb Q k =>
  hF H1 Q (h G1 H1 a r nt tb _ fun v G2 H2 g t2 p => hr v G2 (a.trans g.g) p G2 H2 (Same.refl _) (g.r nt r) (nt.gx g) t2 Q fun p' vs G3 H3 g3 t3 n1 n2 n3 n4 n5 => k p' vs G3 H3 (g.trans g3) t3 (g.nw n1) n2 n3 n4 n5)
theorem ex_call {ι : Type u} {pre : ι → List SR} {ok : ι → Prop} {post : ι → SR} {E : XK} {ta : TA} (i : ι) (ha : EvA true ta σ G (pre i)) (hok : ok i) : EvX Tb (tCall (spT Tb pre ok post) [] E ta) σ G (post i) := fun G1 H1 a r nt tb Q k =>
  ha G1 H1 a r _ fun vs G2 H2 g al => ⟨i, G2, g.r _ r, nt.go g, tabs_go tb g, hok, by rw [List.append_nil]; exact al, fun u G3 H3 g3 t3 p => k u G3 H3 (g.x.trans g3) t3 p⟩
theorem exn_call {ι : Type u} {pre : ι → List SR} {ok : ι → Prop} {post : ι → List α} {E : XK} {ta : TA} (i : ι) (ha : EvA true ta σ G (pre i)) (hok : ok i) : EvXN Tb (tCall (spTN Tb pre ok e post) [] E ta) σ G e (post i) := fun G1 H1 a r nt tb Q k =>
  ha G1 H1 a r _ fun vs G2 H2 g al => ⟨i, G2, g.r _ r, nt.go g, tabs_go tb g, hok, by rw [List.append_nil]; exact al, fun p ws G3 H3 g3 t3 n1 n2 n3 n4 n5 => k p ws G3 H3 (g.x.trans g3) t3 (g.x.nw n1) n2 n3 n4 n5⟩
theorem exn_callK {ι : Type u} {pre : ι → List SR} {ok : ι → Prop} {post : ι → List α} {E : XK} {ta tk : TA} {gV : List V → List V → List V} {Rs Ks' : List SR} (i : ι) (ha : EvA true ta σ G Rs) (hk : EvA true tk σ G Ks') (hp : ∀ vs zs G', AlR Rs vs G' → AlR Ks' zs G' → AlR (pre i) (gV vs zs) G') (hok : ok i) : EvXN Tb (tCallK (spTN Tb pre ok e post) gV E ta tk) σ G e (post i) := fun G1 H1 a r nt tb Q k =>
  ha G1 H1 a r _ fun vs G2 H2 g al => hk G2 H2 (a.trans g.g) (g.r _ r) _ fun zs G3 H3 g' al' => ⟨i, G3, g'.r _ (g.r _ r), (nt.go g).go g', tabs_go (tabs_go tb g) g', hok, hp vs zs G3 (al.st g'.g) al', fun p ws G4 H4 g3 t3 n1 n2 n3 n4 n5 => k p ws G4 H4 ((g.trans g').x.trans g3) t3 ((g.trans g').x.nw n1) n2 n3 n4 n5⟩
theorem spT_len {ι : Type u} {pre : ι → List SR} {ok : ι → Prop} {post : ι → SR} {vs : List V} {Q : VK} {E : XK} {n : Nat} (h : spT Tb pre ok post vs H Q E) (hn : ∀ i, (pre i).length = n) : vs.length = n := by
  obtain ⟨i, _, _, _, _, _, al, _⟩ := h
  rw [alr_len al, hn]
theorem spTN_len {ι : Type u} {pre : ι → List SR} {ok : ι → Prop} {post : ι → List α} {vs : List V} {Q : VK} {E : XK} {n : Nat} (h : spTN Tb pre ok e post vs H Q E) (hn : ∀ i, (pre i).length = n) : vs.length = n := by
  obtain ⟨i, _, _, _, _, _, al, _⟩ := h
  rw [alr_len al, hn]
/-! ### statements -/
variable {D : Ends} {u : TS}
theorem tx_set {i : Nat} (h : EvX Tb te σ G R) (r : Rel true G H) (nt : NoTb G) (tb : LamX.Tabs Tb H) (k : ∀ v G2 H2, GoX G H G2 H2 → Rel true G2 H2 → NoTb G2 → LamX.Tabs Tb H2 → R.p v G2 → u D (σ.set i (some v)) H2) : tSeq (tAsg te (gName i)) u D σ H := h.run r nt tb k
theorem tx_setN {i : Nat} (h : EvXN Tb te σ G e xs) (r : Rel true G H) (nt : NoTb G) (tb : LamX.Tabs Tb H) (k : ∀ p vs G2 H2, GoX G H G2 H2 → Rel true G2 H2 → NoTb G2 → LamX.Tabs Tb H2 → Nw H p → G2 p = none → H2 p = some (.lst vs) → vs.length ≤ sizeLine → Al e xs vs G2 → u D (σ.set i (some (.ref p))) H2) : tSeq (tAsg te (gName i)) u D σ H := h.run r nt tb k
theorem tx_ret {nx bk ct : L2.St → Hp → Prop} {Q : VK} (h : EvX Tb te σ G R) (r : Rel true G H) (nt : NoTb G) (tb : LamX.Tabs Tb H) (k : ∀ v G2 H2, GoX G H G2 H2 → Rel true G2 H2 → NoTb G2 → LamX.Tabs Tb H2 → R.p v G2 → Q v H2) : tRet te ⟨nx, Q, bk, ct⟩ σ H := h.run r nt tb k
/-- if not x: ..; x is true -/
theorem tx_not {t : TS} (h : EvX Tb te σ G (B true)) (r : Rel true G H) (nt : NoTb G) (tb : LamX.Tabs Tb H) (k : ∀ G2 H2, GoX G H G2 H2 → Rel true G2 H2 → NoTb G2 → LamX.Tabs Tb H2 → u D σ H2) : tSeq (tIfS (tNot (tB te)) t tNext) u D σ H :=
  h.run r nt tb fun v G2 H2 g r2 n2 t2 p => ⟨true, p, elseX (k G2 H2 g r2 n2 t2)⟩
end
end Gd

-- part Gd33
set_option Elab.async false
set_option linter.all false
set_option maxRecDepth 100000
set_option maxHeartbeats 2000000
/-! ### {k: v for .. in .. for .. in ..}: one lemma for a clause's loop, used for both -/
namespace Gd
open PySem PySem.Spec PyProof.Rows L2 PySem.W
/-- a turn of a clause: an item, its store, the tests, then `yes` or the next turn -/
def clauseM (place : Pos) (tg : Expr) (ifs : List Expr) (it : Value) (env : Env) (yes no : Sem PySem.Fin) : Sem PySem.Fin := do
  standAt place
  match ← pyNext it with
  | none => pure (.done .next)
  | some v => do
    letOwnedTupleGo tg it v
    assign tg env v
    let ok ← forIn ifs true fun c r => (if r = true then do let q ← isTrue c env (eval c env); pure (ForInStep.yield q) else pure (ForInStep.yield r))
    if ok = true then yes else no
/-- what was known of the slots is known still -/
def Kn (a b : L2.St) : Prop := a.length = b.length ∧ ∀ (j : Nat) (v : V), a[j]? = some (some v) → b[j]? = some (some v)
theorem Kn.refl (a : L2.St) : Kn a a := ⟨rfl, fun _ _ e => e⟩
theorem Kn.trans {a b c : L2.St} (x : Kn a b) (y : Kn b c) : Kn a c := ⟨x.1.trans y.1, fun j v e => y.2 j v (x.2 j v e)⟩
theorem Kn.of {a b : L2.St} {vs : List Nat} (h : wipe b vs = a) : Kn a b := by
  subst h
  exact ⟨wipe_length _ _, fun j v e => (wipe_some e).1⟩
section
variable {X : Cx} {kx vx : Expr} {gens : List Comprehension} {scope : Scope} {pos : Pos} {kk : Nat} {it : Addr} {acc : Value} {place : Pos} {tg : Expr} {ifs : List Expr} {yes : Sem PySem.Fin} {fp : List Addr} {tn : Nat → Heap → Prop} {J : It} {pins : List (Addr × Obj)} {σ : L2.St} {g : TG} {tt : TT} {R : Result → Shared → Prop}
theorem clause_ok {Ok : L2.St → Prop} {End : Hp → Prop} {Body : L2.St → Hp → (Hp → Prop) → Prop} {W : Nat → Nat → Hp → Prop} (hx : X.xe = fun _ _ => False) (hc : X.calm = true) (heq : compTurn (.DictComp kx vx gens scope pos) kk (.ref it) acc X.env = clauseM place tg ifs (.ref it) X.env yes (again (.compLoop (.DictComp kx vx gens scope pos) kk (.ref it) acc X.env)))
    (T : Turn X.prog X.w X.K tg J fp it tn) (pg : PG X tg g) (pt : PTs X ifs tt) (stat : ∀ H' : Hp, (∀ b ∈ fp, H' b = none) → ∀ b ∈ fp, FpOk X pins H' b) (hok : ∀ σ2, Ok σ2 → Kn σ σ2)
    (turn : ∀ i m H, W i m H → (J.stop i H ∧ End H) ∨ (J.go i H ∧ ∃ Nx : Hp → Prop, (∀ H', Nx H' → ∃ m', m' < m ∧ W (i + 1) m' H') ∧ ∀ x H', J.yld i H x H' → g x σ H' fun σ2 H2 => Ok σ2 ∧ tt σ2 H2 fun b H3 => if b = true then Body σ2 H3 Nx else Nx H3))
    (body : ∀ (pl : List (Addr × Obj)) (σ2 : L2.St) (H3 : Hp) (Nx : Hp → Prop) (s : Shared), Ok σ2 → Inv X (pins ++ pl) σ2 H3 s → Body σ2 H3 Nx → wpAny (model X.prog X.w) X.A yes (fun f s' => f = .again (.compLoop (.DictComp kx vx gens scope pos) kk (.ref it) acc X.env) ∧ ∃ σ' H', Inv X (pins ++ pl) σ' H' s' ∧ Kn σ σ' ∧ Nx H') (fun _ _ => False) s)
    (fine : ∀ s H, Inv X pins σ H s → End H → R (.ok .next) s) {s : Shared} {m : Nat} {H : Hp} (I : Inv X pins σ H s) (t0 : tn 0 s.heap) (nf : ∀ b ∈ fp, H b = none) (w0 : W 0 m H) : codeAny (model X.prog X.w) X.A (.compLoop (.DictComp kx vx gens scope pos) kk (.ref it) acc X.env) R s := by
  refine codeAny_loop rfl (fun m s => ∃ i H, Inv X pins σ H s ∧ tn i s.heap ∧ (∀ b ∈ fp, H b = none) ∧ W i m H) (fun m s ⟨i, H, I, ti, nf, w⟩ => ?_) m ⟨0, H, I, t0, nf, w0⟩
  show wpAny _ X.A ((compTurn (.DictComp kx vx gens scope pos) kk (.ref it) acc X.env).onRaise fun x => do noteFrame x X.env; theTreesLotGoes x) _ _ s
  refine wpAny_noted ?_
  rw [heq]
  refine wpAny_bind (wpAny_standAt (wpAny_bind ?_))
  rcases turn i m H w with ⟨stop, z⟩ | ⟨go, Nx, next, step⟩
  · refine thnF (T.done X rfl rfl rfl hc i pins s σ H (fun _ _ => False) I (stat H nf) ti stop) fun r s1 ⟨hr, I1⟩ => ?_
    subst hr
    exact wpAny_pure (fine s1 H I1 z)
  refine thnF (T.item X rfl rfl rfl hc i pins s σ H (fun _ _ => False) I (stat H nf) ti go) fun r s1 ⟨u, hr, h1⟩ => ?_
  subst hr
  refine wpAny_bind (thnF h1 fun _ s2 ⟨x, H2, I2, ru, y2, t2, n2⟩ => ?_)
  have P2 := I2.pinned (stat H2 n2) (T.obj _ _ t2)
  have a1 := pg.run _ s2 σ H2 x u _ P2 ru (step x H2 y2)
  rw [hx] at a1
  refine wpAny_bind (thnF a1 fun _ s3 ⟨σ3, H3, I3, ok3, q3⟩ => ?_)
  have a2 := pt.run _ s3 σ3 H3 _ I3 q3
  rw [hx] at a2
  refine wpAny_bind (thnF a2 fun b s4 ⟨H4, I4, q4⟩ => ?_)
  -- the state behind a turn
  have turned : ∀ {σ' : L2.St} {s' : Shared} {H' : Hp}, Inv X (pins ++ pinsAt fp s2.heap) σ' H' s' → Kn σ σ' → Nx H' → ∃ m', m' < m ∧ ∃ i H, Inv X pins σ H s' ∧ tn i s'.heap ∧ (∀ b ∈ fp, H b = none) ∧ W i m' H := fun {σ' s' H'} J' kn nx => by
    obtain ⟨m', hm, w'⟩ := next H' nx
    have keep : ∀ b ∈ fp, ∀ o, s2.heap.get? b = some o → s'.heap.get? b = some o ∧ H' b = none := fun b hb o eo => by
      have z := J'.pin (b, o) (List.mem_append_right _ (List.mem_append_right _ (mem_pinsAt hb eo)))
      exact ⟨z.1, z.2.1⟩
    exact ⟨m', hm, i + 1, H', J'.unpinned.weak kn.1 kn.2, T.keep _ _ _ t2 fun b hb o eo => (keep b hb o eo).1, fun b hb => let ⟨o, eo, _⟩ := T.obj _ _ t2 b hb; (keep b hb o eo).2, w'⟩
  cases b with
  | false =>
    rw [if_neg (by decide)] at q4 ⊢
    exact wpAny_pure ⟨rfl, turned I4 (hok _ ok3) q4⟩
  | true =>
    rw [if_pos rfl] at q4 ⊢
    refine thnF (body _ σ3 H4 Nx s4 ok3 I4 q4) fun f s5 ⟨hf, σ5, H5, I5, kn, nx⟩ => ?_
    subst hf
    exact ⟨rfl, turned I5 kn nx⟩
end
section
variable {kx vx t0 i0 t1 i1 : Expr} {c0 c1 : List Expr} {scope : Scope} {pos : Pos} {it : Value} {D : Addr} {env : Env}
theorem dturn_in : compTurn (.DictComp kx vx [⟨t0, i0, c0, 0⟩, ⟨t1, i1, c1, 0⟩] scope pos) 1 it (.ref D) env = clauseM i1.pos t1 c1 it env ((do
    let a ← eval kx env
    let b ← holding [a] (eval vx env)
    standAt { kx.pos with endLine := vx.pos.endLine, endCol := vx.pos.endCol }
    holding [a, b] (dictSet D a b)) >>= fun _ => again (.compLoop (.DictComp kx vx [⟨t0, i0, c0, 0⟩, ⟨t1, i1, c1, 0⟩] scope pos) 1 it (.ref D) env)) (again (.compLoop (.DictComp kx vx [⟨t0, i0, c0, 0⟩, ⟨t1, i1, c1, 0⟩] scope pos) 1 it (.ref D) env)) := by rfl
theorem dturn_out : compTurn (.DictComp kx vx [⟨t0, i0, c0, 0⟩, ⟨t1, i1, c1, 0⟩] scope pos) 0 it (.ref D) env = clauseM i0.pos t0 c0 it env (do
    let x ← eval i1 env
    standAt i1.pos
    let y ← foldedSetIterable i1 env x
    let _ ← runOwn (.compStart (.DictComp kx vx [⟨t0, i0, c0, 0⟩, ⟨t1, i1, c1, 0⟩] scope pos) 1 (← holding [y] (pyIter y)) (.ref D) env) env
    again (.compLoop (.DictComp kx vx [⟨t0, i0, c0, 0⟩, ⟨t1, i1, c1, 0⟩] scope pos) 0 it (.ref D) env)) (again (.compLoop (.DictComp kx vx [⟨t0, i0, c0, 0⟩, ⟨t1, i1, c1, 0⟩] scope pos) 0 it (.ref D) env)) := by rfl
theorem dstart_in {P : Program} {w : World} {A : Around} {R : Result → Shared → Prop} {s : Shared} {a : Addr} (l : codeAny (model P w) A (.compLoop (.DictComp kx vx [⟨t0, i0, c0, 0⟩, ⟨t1, i1, c1, 0⟩] scope pos) 1 (.ref a) (.ref D) env) R s) (hs : ∀ (Q : Value → Shared → Prop) (E : Value → Shared → Prop), Q (.ref a) s → wpAny (model P w) A (pyIter (.ref a)) Q E s) :
    codeAny (model P w) A (.compStart (.DictComp kx vx [⟨t0, i0, c0, 0⟩, ⟨t1, i1, c1, 0⟩] scope pos) 1 (.ref a) (.ref D) env) R s := by
  refine codeAny_of_tree ?_
  show wpAny _ A ((compStart (.DictComp kx vx [⟨t0, i0, c0, 0⟩, ⟨t1, i1, c1, 0⟩] scope pos) 1 (.ref a) (.ref D) env).onRaise fun x => do noteFrame x env; standAt theWindowsPlace) _ _ s
  refine wpAny_notedAt ?_
  unfold compStart
  show wpAny _ A (ask >>= _) _ _ s
  refine wpAny_bind (wpAny_askSetting (wpAny_ite ?_))
  split
  · first
      | exact wpAny_pure ⟨rfl, l⟩
      | exact wpAny_bind (wpAny_pure (wpAny_pure ⟨rfl, l⟩))
  · refine wpAny_bind (wpAny_rule ?_)
    show wpAny _ A (standAt i1.pos >>= _) _ _ s
    exact wpAny_bind (wpAny_standAt (wpAny_bind (hs _ _ (wpAny_pure ⟨rfl, l⟩))))
end
/-- the reading: W, W1 the loops' states; D the new dict; vs the block's names, vs1 those of the second target -/
def tDc2 (wi : TI) (g : TG) (tt : TT) (wi1 : TI) (g1 : TG) (tt1 : TT) (tk tv : TE) (vs vs1 : List Nat) : TE := fun σ H Q => wi σ H fun J H0 => ∀ D, H0 D = none → ∃ W : Nat → Nat → Hp → Prop, (∃ m, W 0 m (upd H0 D (.dK []))) ∧
  ∀ i m H, W i m H → (J.stop i H ∧ Q (.ref D) H) ∨ (J.go i H ∧ ∃ Nx : Hp → Prop, (∀ H', Nx H' → ∃ m', m' < m ∧ W (i + 1) m' H') ∧ ∀ x H', J.yld i H x H' → g x (wipe σ vs) H' fun σ2 H2 => wipe σ2 vs = wipe σ vs ∧ tt σ2 H2 fun b H3 =>
    if b = true then (wi1 σ2 H3 fun J1 H4 => ∃ W1 : Nat → Nat → Hp → Prop, (∃ m, W1 0 m H4) ∧
      ∀ j k H, W1 j k H → (J1.stop j H ∧ Nx H) ∨ (J1.go j H ∧ ∃ Nx1 : Hp → Prop, (∀ H', Nx1 H' → ∃ k', k' < k ∧ W1 (j + 1) k' H') ∧ ∀ x H', J1.yld j H x H' → g1 x (wipe σ2 vs1) H' fun σ3 H5 => wipe σ3 vs1 = wipe σ2 vs1 ∧ tt1 σ3 H5 fun b H6 =>
        if b = true then (tk σ3 H6 fun y H7 => tv σ3 H7 fun z H8 => ∃ kvs k, y = kV k ∧ H8 D = some (.dK kvs) ∧ kvs.length < sizeLine ∧ Nx1 (upd H8 D (.dK (putK kvs k z)))) else Nx1 H6))
    else Nx H3)
theorem kn_wipe {a b : L2.St} {vs vs1 : List Nat} (h : wipe b vs = wipe a vs) (hv : ∀ i ∈ vs1, i ∈ vs) : Kn (wipe a vs) (wipe b vs1) := by
  refine ⟨?_, fun j v e => ?_⟩
  · rw [← h, wipe_length, wipe_length]
  · rw [← h] at e
    obtain ⟨e1, e2⟩ := wipe_some e
    rw [wipe_out fun z => e2 (hv j z)]
    exact e1
section
variable {X : Cx} {kx vx tg iter tg1 iter1 : Expr} {ifs ifs1 : List Expr} {scope : Scope} {own : List (Str × Nat)} {vs1 : List Nat} {pos : Pos} {wi wi1 : TI} {g g1 : TG} {tt tt1 : TT} {tk tv : TE}
/-- both loops, in the block's context -/
theorem dc2_loops {Y : Cx} {fp : List Addr} {it D : Addr} {tn : Nat → Heap → Prop} {J : It} {R : Result → Shared → Prop} {End : Hp → Prop} {σ : L2.St} {vs : List Nat} {W : Nat → Nat → Hp → Prop} (hx : Y.xe = fun _ _ => False) (hc : Y.calm = true) (T : Turn Y.prog Y.w Y.K tg J fp it tn) (pg : PG Y tg g) (pt : PTs Y ifs tt) (pi : PI Y tg1 iter1 wi1) (pg1 : PG Y tg1 g1) (pt1 : PTs Y ifs1 tt1) (pk : PE Y kx tk) (pv : PE Y vx tv)
    (hs1 : ∀ x, foldedSetIterable iter1 Y.env x = pure x) (hv : ∀ i ∈ vs1, i ∈ vs) (stat : ∀ H' : Hp, (∀ b ∈ fp, H' b = none) → ∀ b ∈ fp, FpOk Y [] H' b)
    (turn : ∀ i m H, W i m H → (J.stop i H ∧ End H) ∨ (J.go i H ∧ ∃ Nx : Hp → Prop, (∀ H', Nx H' → ∃ m', m' < m ∧ W (i + 1) m' H') ∧ ∀ x H', J.yld i H x H' → g x (wipe σ vs) H' fun σ2 H2 => wipe σ2 vs = wipe σ vs ∧ tt σ2 H2 fun b H3 =>
      if b = true then (wi1 σ2 H3 fun J1 H4 => ∃ W1 : Nat → Nat → Hp → Prop, (∃ m, W1 0 m H4) ∧
        ∀ j k H, W1 j k H → (J1.stop j H ∧ Nx H) ∨ (J1.go j H ∧ ∃ Nx1 : Hp → Prop, (∀ H', Nx1 H' → ∃ k', k' < k ∧ W1 (j + 1) k' H') ∧ ∀ x H', J1.yld j H x H' → g1 x (wipe σ2 vs1) H' fun σ3 H5 => wipe σ3 vs1 = wipe σ2 vs1 ∧ tt1 σ3 H5 fun b H6 =>
          if b = true then (tk σ3 H6 fun y H7 => tv σ3 H7 fun z H8 => ∃ kvs k, y = kV k ∧ H8 D = some (.dK kvs) ∧ kvs.length < sizeLine ∧ Nx1 (upd H8 D (.dK (putK kvs k z)))) else Nx1 H6))
      else Nx H3))
    (fine : ∀ s H, Inv Y [] (wipe σ vs) H s → End H → R (.ok .next) s) {s : Shared} {m : Nat} {H : Hp} (I : Inv Y [] (wipe σ vs) H s) (t0 : tn 0 s.heap) (nf : ∀ b ∈ fp, H b = none) (w0 : W 0 m H) :
    codeAny (model Y.prog Y.w) Y.A (.compLoop (.DictComp kx vx [⟨tg, iter, ifs, 0⟩, ⟨tg1, iter1, ifs1, 0⟩] scope pos) 0 (.ref it) (.ref D) Y.env) R s := by
  refine clause_ok (pins := []) (Ok := fun σ2 => wipe σ2 vs = wipe σ vs) (End := End) (W := W) hx hc dturn_out T pg pt stat (fun σ2 h => Kn.of h) turn (fun pl σ2 H3 Nx s ok2 I3 q3 => ?_) fine I t0 nf w0
  have a1 := pi.run _ s σ2 H3 _ I3 q3
  rw [hx] at a1
  refine wpAny_bind (thnF a1 fun x s1 h1 => wpAny_bind (wpAny_standAt (wpAny_bind (wpAny_of_eq (hs1 x) ?_))))
  refine wpAny_bind (wpAny_holding (thnF h1 fun itv s2 h2 => ?_))
  obtain ⟨it1, fp1, tn1, J1, H4, e1, I4, T1, t4, f4, W1, ⟨m1, w1⟩, turn1⟩ := h2
  subst e1
  refine wpAny_bind (wpAny_runOwn ?_)
  rw [Around.mark_none]
  have loop : codeAny (model Y.prog Y.w) Y.A (.compLoop (.DictComp kx vx [⟨tg, iter, ifs, 0⟩, ⟨tg1, iter1, ifs1, 0⟩] scope pos) 1 (.ref it1) (.ref D) Y.env) (fun r s' => ∃ fl, r = .ok fl ∧ ∃ H', Inv Y ([] ++ pl) (wipe σ2 vs1) H' s' ∧ Nx H') s2 := by
    refine clause_ok (pins := [] ++ pl) (Ok := fun σ3 => wipe σ3 vs1 = wipe σ2 vs1) (End := Nx) (W := W1) hx hc dturn_in T1 pg1 pt1 (fun H' hn b hb => ⟨hn b hb, (f4 b hb).2⟩) (fun σ3 h => Kn.of h) turn1 (fun pl2 σ3 H6 Nx1 s6 ok3 I6 q6 => ?_) (fun s7 H7 I7 nx => ⟨_, rfl, H7, I7, nx⟩) (I4.weak (wipe_length _ _) fun j v e => (wipe_some e).1) t4 (fun b hb => (f4 b hb).1) w1
    have b1 := pk.run _ s6 σ3 H6 _ I6 q6
    rw [hx] at b1
    refine wpAny_bind (wpAny_bind (thnF b1 fun u7 s7 ⟨y, H7, I7, r7, q7⟩ => ?_))
    have b2 := pv.run _ s7 σ3 H7 _ I7 q7
    rw [hx] at b2
    refine wpAny_bind (wpAny_holding (thnF b2 fun u8 s8 ⟨z, H8, I8, r8, kvs, k, ek, hD, hz, nx⟩ => ?_))
    subst ek
    exact wpAny_bind (wpAny_standAt (wpAny_holding (d_dictSet I8 hD hz r7 r8 fun s9 I9 => wpAny_pure ⟨rfl, σ3, _, I9, Kn.of ok3, nx⟩)))
  refine codeAny_mono (dstart_in loop fun Q E q => T1.self _ 0 _ _ _ t4 q) fun r s' ⟨fl, er, H', I', nx⟩ => ?_
  subst er
  exact wpAny_pure ⟨rfl, _, H', I', kn_wipe ok2 hv, nx⟩
theorem pe_dc2 (hc : X.calm = true) (hN : X.N.Nodup) (hi : PI X tg iter wi) (ok : BlkOk X.N X.env.scope scope own) (hv : ∀ i ∈ vs1, i ∈ own.map (·.2)) (hg : ∀ s H C cl fp, PG (X.blk s H scope (compEnvC scope cl C X.env) fp) tg g) (ht : ∀ s H C cl fp, PTs (X.blk s H scope (compEnvC scope cl C X.env) fp) ifs tt)
    (hi1 : ∀ s H C cl fp, PI (X.blk s H scope (compEnvC scope cl C X.env) fp) tg1 iter1 wi1) (hg1 : ∀ s H C cl fp, PG (X.blk s H scope (compEnvC scope cl C X.env) fp) tg1 g1) (ht1 : ∀ s H C cl fp, PTs (X.blk s H scope (compEnvC scope cl C X.env) fp) ifs1 tt1)
    (hk : ∀ s H C cl fp, PE (X.blk s H scope (compEnvC scope cl C X.env) fp) kx tk) (he : ∀ s H C cl fp, PE (X.blk s H scope (compEnvC scope cl C X.env) fp) vx tv) (hs : ∀ x, foldedSetIterable iter X.env x = pure x := by intro _; rfl) (hs1 : ∀ env x, foldedSetIterable iter1 env x = pure x := by intro _ _; rfl) :
    PE X (.DictComp kx vx [⟨tg, iter, ifs, 0⟩, ⟨tg1, iter1, ifs1, 0⟩] scope pos) (tDc2 wi g tt wi1 g1 tt1 tk tv (own.map (·.2)) vs1) := by
  refine ⟨fun pins s σ H Q I h => ?_⟩
  rw [arm_eval_DictComp]
  refine wpAny_comprehension_free (use := none) rfl hs (closure_ok fun y hy e => (ok.free y hy e).elim (fun k => I.ok.has _ (.inl k)) fun k => I.ok.has _ (.inr k)) ok.kind (fun y hy e => by rw [ok.uniq y hy]; exact congrArg some e) (thn (hi.run pins s σ H _ I h) fun v1 s1 h1 => thn h1 fun v2 s2 h2 => ?_)
  obtain ⟨it, fp, tn, J, H2, e2, I2, T, t2, f2, q⟩ := h2
  subst e2
  refine wpAny_newObj_type (newEnv_comp ?_)
  have fr := I2.hok.fresh (Nat.le_refl s2.heap.objs.size)
  obtain ⟨W, ⟨m0, w0⟩, turn⟩ := q s2.heap.objs.size fr
  have I3 : Inv X pins σ (upd H2 s2.heap.objs.size (.dK [])) { s2 with heap := s2.heap.push { cls := .type "dict", data := .dict #[] } } := I2.laid (t' := s2.toks) (fun b o e => Heap.get?_push_of_some _ e) (Nat.le_refl _) (dk_empty s2.heap I2.big)
  have old : ∀ b ∈ fp, b < s2.heap.objs.size := fun b hb => let ⟨_, e, _⟩ := T.obj _ _ t2 b hb; Heap.lt_size e
  have f3 : ∀ b ∈ fp, FpOk X pins (upd H2 s2.heap.objs.size (.dK [])) b ∧ b < (s2.heap.push { cls := .type "dict", data := .dict #[] }).objs.size := fun b hb => by
    refine ⟨⟨?_, (f2 b hb).2⟩, by rw [Heap.size_push]; exact Nat.lt_succ_of_lt (old b hb)⟩
    rw [upd_ne (Nat.ne_of_lt (old b hb))]
    exact (f2 b hb).1
  have I4 := block_start I3 ok hN f3
  have kept : ∀ b o, s2.heap.get? b = some o → (pushCells ((s2.heap.push { cls := .type "dict", data := .dict #[] }).push { cls := .type "dict", data := .dict #[] }) scope.names).get? b = some o := fun b o e => pushCells_keeps _ _ _ _ (Heap.get?_push_of_some _ (Heap.get?_push_of_some _ e))
  have t4 := T.keep _ _ _ t2 fun b _ o e => kept b o e
  have fine : ∀ s6 H6, Inv (X.blk { s2 with heap := s2.heap.push { cls := .type "dict", data := .dict #[] } } (upd H2 s2.heap.objs.size (.dK [])) scope (compEnvC scope (cellsFrom ((s2.heap.push { cls := .type "dict", data := .dict #[] }).objs.size + 1) scope.names (cloFrom X.env.cells scope.names [])) (s2.heap.push { cls := .type "dict", data := .dict #[] }).objs.size X.env) fp) [] (wipe σ (own.map (·.2))) H6 s6 → Q (.ref s2.heap.objs.size) H6 → (compPost (model X.prog X.w) X.A X.xe none (EP X pins σ Q) (.ref s2.heap.objs.size) (s2.heap.push { cls := .type "dict", data := .dict #[] }).objs.size) (.ok .next) s6 := fun s6 H6 I6 q6 => by
    have I7 : Inv X pins σ H6 s6 := I3.call' (ch := fp) I6.os I6.base I6.hok I6.bare fun b hb => ⟨(f3 b hb).1.2.2.2.1, (f3 b hb).1.2.1, (f3 b hb).1.2.2.2.2.1, (f3 b hb).1.2.2.2.2.2⟩
    obtain ⟨m, hn, _⟩ := I6.loc
    obtain ⟨e0, e1, _, e3, e4, e5⟩ := I3.fpOk (H' := H6) (Nat.le_refl _) I6.free
    exact ⟨m, hn, fun h' sb => ⟨.ref s2.heap.objs.size, H6, I7.turned (t' := s6.toks) (fun b o hb e => (sb.2 b hb).trans e) e0 e1 e3 e4 e5, rfl, q6⟩⟩
  have L := dc2_loops (iter := iter) (Y := X.blk { s2 with heap := s2.heap.push { cls := .type "dict", data := .dict #[] } } (upd H2 s2.heap.objs.size (.dK [])) scope (compEnvC scope (cellsFrom ((s2.heap.push { cls := .type "dict", data := .dict #[] }).objs.size + 1) scope.names (cloFrom X.env.cells scope.names [])) (s2.heap.push { cls := .type "dict", data := .dict #[] }).objs.size X.env) fp) (kx := kx) (vx := vx) (scope := scope) (pos := pos) (D := s2.heap.objs.size) (R := compPost (model X.prog X.w) X.A X.xe none (EP X pins σ Q) (.ref s2.heap.objs.size) (s2.heap.push { cls := .type "dict", data := .dict #[] }).objs.size) rfl hc T (hg _ _ _ _ _) (ht _ _ _ _ _) (hi1 _ _ _ _ _) (hg1 _ _ _ _ _) (ht1 _ _ _ _ _) (hk _ _ _ _ _) (he _ _ _ _ _) (hs1 _) hv
    (fun H' hn b hb => ⟨hn b hb, (I4.ok.exf b hb).1, I4.ok.exfs b hb, .inl hb, fun x c e => (I4.ok.exf b hb).2 x c e, fun p hp => absurd (show p ∈ ([] : List (Addr × Obj)) ++ [] from hp) (by simp)⟩) turn fine I4 t4 (fun b hb => (f3 b hb).1.1) w0
  exact codeAny_compStart_dict L (T.self X.A 0 _ _ _ t4 L)
end
end Gd

-- part Gd34
set_option Elab.async false
set_option linter.all false
set_option maxRecDepth 100000
set_option maxHeartbeats 1000000
/-! ### the keys of a dict that two clauses fill -/
namespace Gd
open PySem PySem.Spec PyProof.Rows L2
def addS (ks : List Str) (s : Str) : List Str := if s ∈ ks then ks else ks ++ [s]
theorem addS_nodup {ks : List Str} {s : Str} (h : ks.Nodup) : (addS ks s).Nodup := by
  unfold addS
  split
  · exact h
  · rename_i n
    rw [List.nodup_append]
    exact ⟨h, List.pairwise_singleton .., fun a ha b hb e => by rw [List.mem_singleton.mp hb] at e; exact n (e ▸ ha)⟩
theorem mem_addS {ks : List Str} {s x : Str} : x ∈ addS ks s ↔ x ∈ ks ∨ x = s := by
  unfold addS
  split
  · rename_i h
    exact ⟨.inl, fun z => z.elim id fun e => e ▸ h⟩
  · rw [List.mem_append, List.mem_singleton]
theorem adds_nodup : ∀ (xs ks : List Str), ks.Nodup → (xs.foldl addS ks).Nodup
  | [], _, h => h
  | x :: xs, ks, h => adds_nodup xs (addS ks x) (addS_nodup h)
theorem mem_adds {x : Str} : ∀ (xs ks : List Str), x ∈ xs.foldl addS ks ↔ x ∈ ks ∨ x ∈ xs
  | [], ks => by simp
  | y :: xs, ks => by
    rw [List.foldl_cons, mem_adds xs, mem_addS, List.mem_cons, or_assoc]
theorem addS_len (ks : List Str) (s : Str) : (addS ks s).length ≤ ks.length + 1 := by
  unfold addS
  split
  · omega
  · rw [List.length_append]
    simp
theorem adds_len : ∀ (xs ks : List Str), (xs.foldl addS ks).length ≤ ks.length + xs.length
  | [], _ => Nat.le_refl _
  | x :: xs, ks => by
    have h1 := adds_len xs (addS ks x)
    have h2 := addS_len ks x
    rw [List.foldl_cons, List.length_cons]
    omega
theorem keys_put {kvs : List (Key × V)} {ks : List Str} {s : Str} {v : V} (h : kvs.map (·.1) = ks.map Sum.inr) : (putK kvs (Sum.inr s : Key) v).map (·.1) = (addS ks s).map Sum.inr := by
  have any_iff : (kvs.any fun kv => decide (kv.1 = (Sum.inr s : Key))) = true ↔ s ∈ ks := by
    rw [List.any_eq_true]
    constructor
    · rintro ⟨kv, hm, e⟩
      have h1 : kv.1 ∈ kvs.map (·.1) := List.mem_map.mpr ⟨kv, hm, rfl⟩
      rw [h, of_decide_eq_true e] at h1
      obtain ⟨y, hy, e2⟩ := List.mem_map.mp h1
      rw [← Sum.inr.inj e2]
      exact hy
    · intro hs
      have h1 : (Sum.inr s : Key) ∈ kvs.map (·.1) := by rw [h]; exact List.mem_map.mpr ⟨s, hs, rfl⟩
      obtain ⟨kv, hm, e⟩ := List.mem_map.mp h1
      exact ⟨kv, hm, decide_eq_true e⟩
  unfold putK addS
  by_cases hs : s ∈ ks
  · rw [if_pos (any_iff.mpr hs), if_pos hs, ← h, List.map_map]
    refine List.map_congr_left fun kv _ => ?_
    show (if kv.1 = Sum.inr s then (kv.1, v) else kv).1 = kv.1
    split <;> rfl
  · rw [if_neg (fun z => hs (any_iff.mp z)), if_neg hs, List.map_append, h, List.map_append]
    rfl
section
variable {b : Bool} {σ : L2.St} {G : Hp} {α : Type} {e : α → SR}
theorem ev_dc2 {wi wi1 : TI} {xs : List α} {g g1 : TG} {tk tv : TE} {vs vs1 : List Nat} {f : α → List Str} {Rv : SR} (hi : EvI b wi σ G e xs) (hl : (xs.flatMap f).length ≤ 100000)
    (hb : ∀ a, a ∈ xs → ∀ x G', Same G G' → (e a).p x G' → ∃ σ', GTo b g x (wipe σ vs) G' σ' ∧ wipe σ' vs = wipe σ vs ∧ EvI b wi1 σ' G' S (f a) ∧
      ∀ s, s ∈ f a → ∀ y G'', Same G' G'' → (S s).p y G'' → ∃ σ'', GTo b g1 y (wipe σ' vs1) G'' σ'' ∧ wipe σ'' vs1 = wipe σ' vs1 ∧ Ev b tk σ'' G'' (S s) ∧ Ev b tv σ'' G'' Rv) :
    Ev b (tDc2 wi g tYes wi1 g1 tYes tk tv vs vs1) σ G (Ks ((xs.flatMap f).foldl addS [])) := fun G1 H1 a r Q k => by
  refine hi G1 H1 a r _ fun J G2 H2 g2 W D hD => ?_
  have rel := g2.r _ r
  have bound : ∀ (i j : Nat) (x : α), xs[i]? = some x → (((f x).take j).foldl addS (((xs.take i).flatMap f).foldl addS [])).length ≤ 100000 := fun i j x hx => by
    have h1 := adds_len ((f x).take j) (((xs.take i).flatMap f).foldl addS [])
    have h2 := adds_len ((xs.take i).flatMap f) []
    have h3 : ((xs.take i).flatMap f).length + (f x).length ≤ (xs.flatMap f).length := by
      have e1 : xs.take (i + 1) = xs.take i ++ [x] := take_succ hx
      have e2 : xs = xs.take (i + 1) ++ xs.drop (i + 1) := (List.take_append_drop _ _).symm
      have e3 : xs.flatMap f = (xs.take (i + 1)).flatMap f ++ (xs.drop (i + 1)).flatMap f := by rw [← List.flatMap_append, ← e2]
      rw [e3, e1, List.flatMap_append, List.length_append, List.length_append]
      simp only [List.flatMap_cons, List.flatMap_nil, List.append_nil]
      omega
    rw [List.length_take] at h1
    simp only [List.length_nil, Nat.zero_add] at h2
    omega
  refine ⟨fun i m H => m = xs.length - i ∧ i ≤ xs.length ∧ ∃ G' kvs, Go G2 H2 G' H ∧ G' D = none ∧ H D = some (.dK kvs) ∧ kvs.map (·.1) = (((xs.take i).flatMap f).foldl addS []).map Sum.inr, ⟨xs.length, rfl, Nat.zero_le _, G2, [], Go.own rel hD, rel.free hD, upd_same, rfl⟩, ?_⟩
  rintro i m H ⟨rfl, hi2, G', kvs, g3, nD, hk, al⟩
  by_cases hlt : i < xs.length
  · refine .inr ⟨W.goes i G' H hlt g3.g (g3.r _ rel) trivial, fun H' => ∃ G' kvs, Go G2 H2 G' H' ∧ G' D = none ∧ H' D = some (.dK kvs) ∧ kvs.map (·.1) = (((xs.take (i + 1)).flatMap f).foldl addS []).map Sum.inr, fun H' h' => ⟨xs.length - (i + 1), by omega, rfl, hlt, h'⟩, fun x H' y => ?_⟩
    have hxi : xs[i]? = some xs[i] := List.getElem?_eq_getElem hlt
    obtain ⟨G4, g4, pa⟩ := W.yields i xs[i] G' H x H' hxi g3.g (g3.r _ rel) trivial y
    have gA := g3.trans g4
    obtain ⟨σ', h1, h2, h3, h4⟩ := hb xs[i] (List.getElem_mem hlt) x G4 ((a.trans g2.g).trans gA.g) pa
    refine h1 H' (gA.r _ rel) _ ⟨h2, ?_⟩
    show wi1 σ' H' _
    refine h3 G4 H' (Same.refl _) (gA.r _ rel) _ fun J1 G5 H5 g5 W1 => ?_
    have gB := gA.trans g5
    have D5 : H5 D = some (.dK kvs) := g5.h _ _ (g4.h _ _ hk)
    have n5 : G5 D = none := g5.owned (g4.h _ _ hk) (g4.owned hk nD)
    refine ⟨fun j k H => k = (f xs[i]).length - j ∧ j ≤ (f xs[i]).length ∧ ∃ G' kvs, Go G2 H2 G' H ∧ Same G5 G' ∧ G' D = none ∧ H D = some (.dK kvs) ∧ kvs.map (·.1) = (((f xs[i]).take j).foldl addS (((xs.take i).flatMap f).foldl addS [])).map Sum.inr,
      ⟨(f xs[i]).length, rfl, Nat.zero_le _, G5, kvs, gB, Same.refl _, n5, D5, al⟩, ?_⟩
    rintro j k2 H6 ⟨rfl, hj, G6, kvs6, g6, s6, n6, D6, al6⟩
    by_cases hjl : j < (f xs[i]).length
    · refine .inr ⟨W1.goes j G6 H6 hjl s6 (g6.r _ rel) trivial, fun H' => ∃ G' kvs, Go G2 H2 G' H' ∧ Same G5 G' ∧ G' D = none ∧ H' D = some (.dK kvs) ∧ kvs.map (·.1) = (((f xs[i]).take (j + 1)).foldl addS (((xs.take i).flatMap f).foldl addS [])).map Sum.inr, fun H' h' => ⟨(f xs[i]).length - (j + 1), by omega, rfl, hjl, h'⟩, fun z H7 y7 => ?_⟩
      have hzj : (f xs[i])[j]? = some (f xs[i])[j] := List.getElem?_eq_getElem hjl
      obtain ⟨G7, g7, pz⟩ := W1.yields j (f xs[i])[j] G6 H6 z H7 hzj s6 (g6.r _ rel) trivial y7
      have gC := g6.trans g7
      obtain ⟨σ'', q1, q2, q3, q4⟩ := h4 _ (List.getElem_mem hjl) z G7 ((g5.g.trans s6).trans g7.g) pz
      refine q1 H7 (gC.r _ rel) _ ⟨q2, ?_⟩
      show tk σ'' H7 _
      refine q3.run (gC.r _ rel) fun u G8 H8 g8 pu => ?_
      obtain ⟨rfl, _⟩ := pu
      refine (q4.mono g8.g).run ((gC.trans g8).r _ rel) fun v G9 H9 g9 pv => ?_
      have g79 := (g7.trans g8).trans g9
      have D9 : H9 D = some (.dK kvs6) := g79.h _ _ D6
      have n9 : G9 D = none := g79.owned D6 n6
      have hz : kvs6.length < sizeLine := by
        have := bound i j xs[i] hxi
        have e := congrArg List.length al6
        rw [List.length_map, List.length_map] at e
        have := sizeLine_eq
        omega
      refine ⟨kvs6, Sum.inr (f xs[i])[j], rfl, D9, hz, G9, putK kvs6 (Sum.inr (f xs[i])[j]) v, (g6.trans g79).wr hD n9, s6.trans g79.g, n9, upd_same, ?_⟩
      rw [keys_put al6, take_succ hzj, List.foldl_append]
      rfl
    · have ej : j = (f xs[i]).length := by omega
      subst ej
      refine .inl ⟨W1.stops G6 H6 s6 (g6.r _ rel) trivial, G6, kvs6, g6, n6, D6, ?_⟩
      rw [al6, List.take_length, take_succ hxi, List.flatMap_append, List.foldl_append]
      simp only [List.flatMap_cons, List.flatMap_nil, List.append_nil]
  · have e : i = xs.length := by omega
    subst e
    rw [List.take_length] at al
    refine .inl ⟨W.stops G' H g3.g (g3.r _ rel) trivial, k _ _ H ((g2.trans g3).give (g2.free hD) nD hk) ⟨D, kvs, rfl, upd_same, ?_, al⟩⟩
    have e := congrArg List.length al
    rw [List.length_map, List.length_map] at e
    have h2 := adds_len (xs.flatMap f) []
    simp only [List.length_nil, Nat.zero_add] at h2
    have := sizeLine_eq
    omega
end
end Gd

-- part Gd35
set_option Elab.async false
set_option linter.all false
set_option maxRecDepth 100000
set_option maxHeartbeats 1000000
/-! ### walks over a dict that a call made; dicts of lists that are filled -/
namespace Gd
open PySem PySem.Spec PyProof.Rows L2
/-- the dict is nobody else's: locked from here on -/
def iKeysL (td : TE) : TI := fun σ H R => td σ H fun x H1 => ∃ d kvs, x = .ref d ∧ H1 d = some (.dK kvs) ∧ ∀ o, R (Itk d o kvs) (upd H1 d (.frz o (.dK kvs)))
theorem pi_keysL {X : Cx} {tg e : Expr} {td : TE} (he : PE X e td) : PI X tg e (iKeysL td) := by
  refine ⟨fun pins s σ H R I h => thn (he.run pins s σ H _ I h) fun u s1 q => ?_⟩
  obtain ⟨x, H1, I1, rx, d, kvs, ex, hd, k⟩ := q
  subst ex
  obtain rfl : u = Value.ref d := rx
  obtain ⟨od, I2⟩ := I1.lock hd True.intro
  obtain ⟨n1, n2, n3, es, ep, vs, n4, n5, kv, n6⟩ := I2.frzK upd_same
  exact iter_keys n1 n2 n3 n4 (pi_one (tk := s1.toks) I2 _ (turn_keys _ n4) ⟨_, Heap.get?_push_size _ rfl, rfl, by rw [n5] <;> rfl⟩ (k od))
section
variable {K : PySem.W.Frag} {b : Bool} {σ : L2.St} {G H : Hp} {α β : Type} {e : α → SR}
/-- the keys of a locked dict that the ghost heap holds -/
theorem walkR_frz {d : Addr} {o : Obj} {kvs : List (Key × V)} {ks : List Str} (hd : G d = some (.frz o (.dK kvs))) (hl : kvs.length ≤ sizeLine) (ho : ∀ k ∈ ks, okS k = true) (hk : kvs.map (·.1) = ks.map Sum.inr) : WalkR b (Itk d o kvs) S ks G (fun _ => True) := by
  have W := walkR_keys (b := b) (G := G) (o := o) (d := d) hl ho hk
  have z : ∀ G3 H3, Same G G3 → Rel b G3 H3 → H3 d = some (.frz o (.dK kvs)) := fun G3 H3 s r => r.at (s _ _ hd) rfl
  exact ⟨W.len, fun i G3 H3 hi s r _ => W.goes i G3 H3 hi s r (z G3 H3 s r), fun G3 H3 s r _ => W.stops G3 H3 s r (z G3 H3 s r), fun i a G3 H3 x H' ha s r _ y => W.yields i a G3 H3 x H' ha s r (z G3 H3 s r) y⟩
theorem dc_goZ {J : It} {xs : List α} {g : TG} {tk tv : TE} {vs : List Nat} {er : β → SR} {ky : α → Str} {fn : α → β} {Z : Hp → Prop} {D : Addr} {Qd : Hp → Prop} (W : WalkR b J e xs G Z) (rel : Rel b G H) (z0 : Z H) (hZ : ∀ H H', Same H H' → Z H → Z H') (nd : (xs.map ky).Nodup)
    (hb : ∀ a, a ∈ xs → ∀ x G', Same G G' → (e a).p x G' → ∃ σ', GTo b g x (wipe σ vs) G' σ' ∧ wipe σ' vs = wipe σ vs ∧ Ev b tk σ' G' (S (ky a)) ∧ Ev b tv σ' G' (er (fn a))) (hD : H D = none)
    (k : ∀ G2 H2 kvs, Go G H G2 H2 → Z H2 → G2 D = none → H2 D = some (.dK kvs) → kvs.length = xs.length → AlD er (xs.map fun a => (ky a, fn a)) kvs G2 → Qd H2) :
    ∃ W : Nat → Nat → Hp → Prop, (∃ m, W 0 m (upd H D (.dK []))) ∧ ∀ i m H, W i m H → (J.stop i H ∧ Qd H) ∨ (J.go i H ∧ ∃ Nx : Hp → Prop, (∀ H', Nx H' → ∃ m', m' < m ∧ W (i + 1) m' H') ∧ ∀ x H', J.yld i H x H' → g x (wipe σ vs) H' fun σ2 H2 => wipe σ2 vs = wipe σ vs ∧ tYes σ2 H2 fun b H3 =>
      if b = true then tk σ2 H3 fun y H4 => tv σ2 H4 fun z H5 => ∃ kvs k, y = kV k ∧ H5 D = some (.dK kvs) ∧ kvs.length < sizeLine ∧ Nx (upd H5 D (.dK (putK kvs k z))) else Nx H3) := by
  refine ⟨fun i m H' => m = xs.length - i ∧ i ≤ xs.length ∧ ∃ G' kvs, Go G H G' H' ∧ G' D = none ∧ H' D = some (.dK kvs) ∧ AlD er ((xs.take i).map fun a => (ky a, fn a)) kvs G', ⟨xs.length, rfl, Nat.zero_le _, G, [], Go.own rel hD, rel.free hD, upd_same, .nil⟩, ?_⟩
  rintro i m H1 ⟨rfl, hi2, G', kvs, g3, nD, hk, al⟩
  have hlen : kvs.length = i := by
    have := congrArg List.length al.keys
    simp only [List.length_map, List.length_take] at this
    omega
  have z1 := hZ _ _ g3.h z0
  by_cases hlt : i < xs.length
  · refine .inr ⟨W.goes i G' H1 hlt g3.g (g3.r _ rel) z1, fun H' => ∃ G' kvs, Go G H G' H' ∧ G' D = none ∧ H' D = some (.dK kvs) ∧ AlD er ((xs.take (i + 1)).map fun a => (ky a, fn a)) kvs G', fun H' h' => ⟨xs.length - (i + 1), by omega, rfl, hlt, h'⟩, fun x H' y => ?_⟩
    have hxi : xs[i]? = some xs[i] := List.getElem?_eq_getElem hlt
    obtain ⟨G4, g4, pa⟩ := W.yields i xs[i] G' H1 x H' hxi g3.g (g3.r _ rel) z1 y
    have gA := g3.trans g4
    obtain ⟨σ', h1, h2, h3, h4⟩ := hb xs[i] (List.getElem_mem hlt) x G4 gA.g pa
    refine h1 H' (gA.r _ rel) _ ⟨h2, ?_⟩
    show tk σ' H' _
    refine h3.run (gA.r _ rel) fun u G5 H5 g5 pu => ?_
    obtain ⟨rfl, _⟩ := pu
    refine (h4.mono g5.g).run ((gA.trans g5).r _ rel) fun v G6 H6 g6 pv => ?_
    have g46 := (g4.trans g5).trans g6
    have D6 : H6 D = some (.dK kvs) := g46.h _ _ hk
    have n6 : G6 D = none := g46.owned hk nD
    have hz : kvs.length < sizeLine := by
      have := W.len
      omega
    have hnk : (Sum.inr (ky xs[i]) : Key) ∉ kvs.map (·.1) := by
      rw [al.keys, List.map_map]
      intro q
      obtain ⟨s, hs, e1⟩ := List.mem_map.mp q
      have e2 : s.1 = ky xs[i] := Sum.inr.inj e1
      obtain ⟨a0, ha0, rfl⟩ := List.mem_map.mp hs
      have hs' : ky xs[i] ∈ (xs.take i).map ky := List.mem_map.mpr ⟨a0, ha0, e2⟩
      have nd2 := nd
      rw [← List.take_append_drop i xs, List.map_append] at nd2
      have := (List.nodup_append.mp nd2).2.2 _ hs' (ky xs[i]) (List.mem_map.mpr ⟨xs[i], by
        rw [List.drop_eq_getElem_cons hlt]; exact List.mem_cons_self .., rfl⟩)
      exact this rfl
    refine ⟨kvs, Sum.inr (ky xs[i]), rfl, D6, hz, G6, kvs ++ [(Sum.inr (ky xs[i]), v)], (g3.trans g46).wr hD n6, n6, ?_, ?_⟩
    · rw [upd_same, putK_new _ (valV_none hnk)]
    · rw [take_succ hxi, List.map_append]
      exact (al.st g46.g).snoc pv
  · have e : i = xs.length := by omega
    subst e
    rw [List.take_length] at al
    exact .inl ⟨W.stops G' H1 g3.g (g3.r _ rel) z1, k G' H1 kvs g3 z1 nD hk hlen al⟩
/-- {k: v for k in d}, d a name that holds a dict of texts; the dict is locked meanwhile -/
theorem ev_dcK {i : Nat} {d : Addr} {kvs : List (Key × V)} {xs : List Str} {g : TG} {tk tv : TE} {vs : List Nat} {er : β → SR} {fn : Str → β} (hv : σ[i]? = some (some (.ref d))) (hd : G d = some (.dK kvs)) (hl : kvs.length ≤ sizeLine) (ho : ∀ k ∈ xs, okS k = true) (hk : kvs.map (·.1) = xs.map Sum.inr) (nd : xs.Nodup)
    (hb : ∀ a, a ∈ xs → ∀ x G', Same G G' → (S a).p x G' → ∃ σ', GTo false g x (wipe σ vs) G' σ' ∧ wipe σ' vs = wipe σ vs ∧ Ev false tk σ' G' (S a) ∧ Ev false tv σ' G' (er (fn a))) :
    Ev true (tLockE (tDc (iKeys (tVar i)) g tYes tk tv vs)) σ G (Dct er (xs.map fun a => (a, fn a))) := fun G1 H1 a r Q k => by
  have hG := a _ _ hd
  have hH := r.ex hG
  refine ⟨d, .dK kvs, hH, trivial, fun od => ⟨.ref d, hv, d, od, rfl, .inl ⟨kvs, upd_same, fun D hD => ?_⟩⟩⟩
  have hDd : D ≠ d := fun z => by rw [z, upd_same] at hD; cases hD
  have hD1 : H1 D = none := by rw [upd_ne hDd] at hD; exact hD
  refine dc_goZ (ky := fun a => a) (walkR_keys hl ho hk) (r.lock hG rfl) upd_same (fun _ _ s z => s _ _ z) (by rw [List.map_id']; exact nd) (fun a' ha x G' s pa => hb a' ha x G' (a.trans s) pa) hD fun G3 H3 kv3 g3 z n3 h3 l3 al => ⟨z, ?_⟩
  have g4 := g3.unlock hG hH
  refine k (.ref D) (upd G3 D (.dK kv3)) _ (g4.give hD1 n3 (by rw [upd_ne hDd]; exact h3)) ⟨D, kv3, rfl, upd_same, ?_, al.st (Same.new n3)⟩
  have e := congrArg List.length hk
  rw [List.length_map, List.length_map] at e
  omega
end
/-! ### a dict of lists, all of our own -/
structure OwnM (K : PySem.W.Frag) (D : Addr) (cs : List Str) (acc : Str → List (List Str)) (pl : Str → Addr) (G H H0 : Hp) : Prop where
  n0 : H0 D = none
  nG : G D = none
  hD : H D = some (.dK (cs.map fun c => (Sum.inr c, V.ref (pl c))))
  ne : ∀ c ∈ cs, pl c ≠ D
  inj : ∀ c ∈ cs, ∀ c' ∈ cs, pl c = pl c' → c = c'
  l0 : ∀ c ∈ cs, H0 (pl c) = none
  lG : ∀ c ∈ cs, G (pl c) = none
  ex : ∀ c ∈ cs, ∃ us, H (pl c) = some (.lst us) ∧ Al (Tpl K S) (acc c) us G
section
variable {K : PySem.W.Frag} {D : Addr} {cs : List Str} {acc : Str → List (List Str)} {pl : Str → Addr} {G H H0 G2 H2 : Hp}
theorem OwnM.go (o : OwnM K D cs acc pl G H H0) (g : Go G H G2 H2) : OwnM K D cs acc pl G2 H2 H0 :=
  ⟨o.n0, g.owned o.hD o.nG, g.h _ _ o.hD, o.ne, o.inj, o.l0, fun c hc => let ⟨us, h1, _⟩ := o.ex c hc; g.owned h1 (o.lG c hc), fun c hc => let ⟨us, h1, h2⟩ := o.ex c hc; ⟨us, g.h _ _ h1, h2.st g.g⟩⟩
theorem OwnM.put (o : OwnM K D cs acc pl G H H0) {c : Str} (hc : c ∈ cs) {us : List V} {l : List Str} {v : V} (hp : H (pl c) = some (.lst us)) (al : Al (Tpl K S) (acc c) us G) (pv : (Tpl K S l).p v G) : OwnM K D cs (fun x => if x = c then acc c ++ [l] else acc x) pl G (upd H (pl c) (.lst (us ++ [v]))) H0 := by
  refine ⟨o.n0, o.nG, by rw [upd_ne (o.ne c hc).symm]; exact o.hD, o.ne, o.inj, o.l0, o.lG, fun x hx => ?_⟩
  by_cases e : x = c
  · subst e
    exact ⟨us ++ [v], upd_same, by rw [if_pos rfl]; exact al.snoc pv⟩
  · obtain ⟨ws, h1, h2⟩ := o.ex x hx
    exact ⟨ws, by rw [upd_ne fun z => e (o.inj x hx c hc z)]; exact h1, by rw [if_neg e]; exact h2⟩
theorem OwnM.val (o : OwnM K D cs acc pl G H H0) {c : Str} (hc : c ∈ cs) : valV (cs.map fun c => ((Sum.inr c : Key), V.ref (pl c))) (Sum.inr c : Key) = some (V.ref (pl c)) := by
  clear o
  induction cs with
  | nil => cases hc
  | cons x xs ih =>
    rw [List.map_cons]
    by_cases e : x = c
    · subst e
      exact valV_pos rfl
    · rw [valV_neg fun z => e (Sum.inr.inj z)]
      exact ih ((List.mem_cons.mp hc).resolve_left fun z => e z.symm)
end
end Gd

-- part Gd36
set_option Elab.async false
set_option linter.all false
set_option maxRecDepth 100000
set_option maxHeartbeats 1000000
/-! ### {c: [] for c in cs} -/
namespace Gd
open PySem PySem.Spec PyProof.Rows L2
section
variable {K : PySem.W.Frag} {σ : L2.St} {G H : Hp}
theorem om_new {wi : TI} {xs : List Str} {g : TG} {tk : TE} {vs : List Nat} (hi : EvI true wi σ G S xs) (nd : xs.Nodup) (hb : ∀ a, a ∈ xs → ∀ x G', Same G G' → (S a).p x G' → ∃ σ', GTo true g x (wipe σ vs) G' σ' ∧ wipe σ' vs = wipe σ vs ∧ Ev true tk σ' G' (S a)) (r : Rel true G H) {Q : VK}
    (k : ∀ D pl G2 H2, Go G H G2 H2 → OwnM K D xs (fun _ => []) pl G2 H2 H → Q (.ref D) H2) : tDc wi g tYes tk (tLst tNil) vs σ H Q := by
  refine hi G H (Same.refl G) r _ fun J G2 H2 g2 W D hD => ?_
  have rel := g2.r _ r
  have hD0 := g2.free hD
  refine ⟨fun i m H' => m = xs.length - i ∧ i ≤ xs.length ∧ ∃ G' pl, Go G H G' H' ∧ Same G2 G' ∧ OwnM K D (xs.take i) (fun _ => []) pl G' H' H, ⟨xs.length, rfl, Nat.zero_le _, G2, fun _ => 0, g2.trans (Go.own rel hD), Same.refl _, ?_⟩, ?_⟩
  · have no : ∀ c ∈ xs.take 0, False := fun c h => by cases h
    exact ⟨hD0, rel.free hD, upd_same, fun c h => (no c h).elim, fun c h => (no c h).elim, fun c h => (no c h).elim, fun c h => (no c h).elim, fun c h => (no c h).elim⟩
  rintro i m H1 ⟨rfl, hi2, G1, pl, g3, s3, o⟩
  by_cases hlt : i < xs.length
  · refine .inr ⟨W.goes i G1 H1 hlt s3 (g3.r _ r) trivial, fun H' => ∃ G' pl, Go G H G' H' ∧ Same G2 G' ∧ OwnM K D (xs.take (i + 1)) (fun _ => []) pl G' H' H, fun H' h' => ⟨xs.length - (i + 1), by omega, rfl, hlt, h'⟩, fun x H' y => ?_⟩
    have hxi : xs[i]? = some xs[i] := List.getElem?_eq_getElem hlt
    obtain ⟨G4, g4, pa⟩ := W.yields i xs[i] G1 H1 x H' hxi s3 (g3.r _ r) trivial y
    have gA := g3.trans g4
    obtain ⟨σ', h1, h2, h3⟩ := hb xs[i] (List.getElem_mem hlt) x G4 gA.g pa
    refine h1 H' (gA.r _ r) _ ⟨h2, ?_⟩
    show tk σ' H' _
    refine h3.run (gA.r _ r) fun u G5 H5 g5 pu => ?_
    obtain ⟨rfl, _⟩ := pu
    have gB := gA.trans g5
    have o5 := o.go (g4.trans g5)
    refine ⟨Nat.zero_le _, fun p hp => ?_⟩
    have hpD : p ≠ D := fun z => by rw [z, o5.hD] at hp; cases hp
    have hpl : ∀ c ∈ xs.take i, pl c ≠ p := fun c hc z => by
      obtain ⟨us, q, _⟩ := o5.ex c hc
      rw [z, hp] at q
      cases q
    have hn : xs[i] ∉ xs.take i := nodup_take nd hxi
    have hz : (xs.take i).length < sizeLine := by
      rw [List.length_take]
      have := W.len
      omega
    refine ⟨(xs.take i).map fun c => (Sum.inr c, V.ref (pl c)), Sum.inr xs[i], rfl, by rw [upd_ne hpD.symm]; exact o5.hD, by rw [List.length_map]; exact hz, G5, fun c => if c = xs[i] then p else pl c, ?_, s3.trans (g4.g.trans g5.g), ?_⟩
    · exact (gB.trans (Go.own (gB.r _ r) hp)).wr hD0 o5.nG
    have hnk : (Sum.inr xs[i] : Key) ∉ ((xs.take i).map fun c => ((Sum.inr c : Key), V.ref (pl c))).map (·.1) := fun q => by
      rw [List.map_map] at q
      obtain ⟨c, hc, e⟩ := List.mem_map.mp q
      exact hn (Sum.inr.inj e ▸ hc)
    have tk1 : xs.take (i + 1) = xs.take i ++ [xs[i]] := take_succ hxi
    have memS : ∀ c, c ∈ xs.take (i + 1) → (c ∈ xs.take i ∧ c ≠ xs[i]) ∨ c = xs[i] := fun c hc => by
      rw [tk1] at hc
      rcases List.mem_append.mp hc with h | h
      · exact .inl ⟨h, fun e => hn (e ▸ h)⟩
      · exact .inr (List.mem_singleton.mp h)
    refine ⟨hD0, o5.nG, ?_, fun c hc => ?_, fun c hc c' hc' e => ?_, fun c hc => ?_, fun c hc => ?_, fun c hc => ?_⟩
    · rw [upd_same, putK_new _ (valV_none hnk), tk1, List.map_append]
      have e1 : (xs.take i).map (fun c => ((Sum.inr c : Key), V.ref (if c = xs[i] then p else pl c))) = (xs.take i).map fun c => (Sum.inr c, V.ref (pl c)) := List.map_congr_left fun c hc => by
        show ((Sum.inr c : Key), V.ref (if c = xs[i] then p else pl c)) = _
        have ne : ¬ c = xs[i] := fun e => hn (by rw [← e]; exact hc)
        rw [if_neg ne]
      rw [e1, List.map_cons, List.map_nil, if_pos rfl]
    · rcases memS c hc with ⟨h, n⟩ | rfl
      · rw [if_neg n]; exact o5.ne c h
      · rw [if_pos rfl]; exact hpD
    · rcases memS c hc with ⟨h, n⟩ | h <;> rcases memS c' hc' with ⟨h', n'⟩ | h'
      · rw [if_neg n, if_neg n'] at e
        exact o5.inj c h c' h' e
      · rw [if_neg n, if_pos h'] at e
        exact absurd e (hpl c h)
      · rw [if_pos h, if_neg n'] at e
        exact absurd e.symm (hpl c' h')
      · rw [h, h']
    · rcases memS c hc with ⟨h, n⟩ | h
      · rw [if_neg n]; exact o5.l0 c h
      · rw [if_pos h]; exact gB.free hp
    · rcases memS c hc with ⟨h, n⟩ | h
      · rw [if_neg n]; exact o5.lG c h
      · rw [if_pos h]; exact (gB.r _ r).free hp
    · rcases memS c hc with ⟨h, n⟩ | h
      · obtain ⟨us, q1, q2⟩ := o5.ex c h
        exact ⟨us, by rw [if_neg n, upd_ne (o5.ne c h), upd_ne (hpl c h)]; exact q1, q2⟩
      · exact ⟨[], by rw [if_pos h, upd_ne hpD, upd_same], .nil⟩
  · have e : i = xs.length := by omega
    subst e
    rw [List.take_length] at o
    exact .inl ⟨W.stops G1 H1 s3 (g3.r _ r) trivial, k D pl G1 H1 g3 o⟩
end
/-! ### all of it frozen -/
section
variable {K : PySem.W.Frag} {D : Addr} {pl : Str → Addr} {acc : Str → List (List Str)} {H H0 G0 : Hp}
theorem OwnM.freeze : ∀ {cs : List Str} {G : Hp}, OwnM K D cs acc pl G H H0 → cs.Nodup → (∀ c ∈ cs, (acc c).length ≤ 100000) → cs.length ≤ 100000 → Go G0 H0 G H → ∃ G2, Go G0 H0 G2 H ∧ Same G G2 ∧ G2 D = some (.dK (cs.map fun c => (Sum.inr c, V.ref (pl c)))) ∧ ∀ c ∈ cs, (Lst (Tpl K S) (acc c)).p (.ref (pl c)) G2 := by
  intro cs G o nd hl hcs g0
  -- the lists, one by one
  have lists : ∀ (done : List Str), (∀ c ∈ done, c ∈ cs) → done.Nodup → ∃ G2, Go G0 H0 G2 H ∧ Same G G2 ∧ G2 D = none ∧ (∀ c ∈ cs, c ∉ done → G2 (pl c) = none) ∧ ∀ c ∈ done, (Lst (Tpl K S) (acc c)).p (.ref (pl c)) G2 := by
    intro done
    induction done with
    | nil => intro _ _; exact ⟨G, g0, Same.refl G, o.nG, fun c hc _ => o.lG c hc, fun c h => by cases h⟩
    | cons c done ih =>
      intro hd hnd
      obtain ⟨G2, g2, s2, n2, f2, l2⟩ := ih (fun c h => hd c (List.mem_cons_of_mem _ h)) (List.nodup_cons.mp hnd).2
      have hc := hd c (List.mem_cons_self ..)
      obtain ⟨us, h1, h2⟩ := o.ex c hc
      have nc := f2 c hc (List.nodup_cons.mp hnd).1
      refine ⟨upd G2 (pl c) (.lst us), g2.give (o.l0 c hc) nc h1, s2.trans (Same.new nc), by rw [upd_ne (o.ne c hc).symm]; exact n2, fun x hx hn => ?_, fun x hx => ?_⟩
      · rw [upd_ne fun z => hn (by rw [o.inj x hx c hc z]; exact List.mem_cons_self ..)]
        exact f2 x hx fun z => hn (List.mem_cons_of_mem _ z)
      · rcases List.mem_cons.mp hx with rfl | hx
        · refine ⟨pl x, us, rfl, upd_same, ?_, h2.st (s2.trans (Same.new nc))⟩
          rw [h2.len]
          exact Nat.le_trans (hl x hc) (by decide)
        · exact (Lst (Tpl K S) (acc x)).st (Same.new nc) (l2 x hx)
  obtain ⟨G2, g2, s2, n2, _, l2⟩ := lists cs (fun _ h => h) nd
  exact ⟨upd G2 D _, g2.give o.n0 n2 o.hD, s2.trans (Same.new n2), upd_same, fun c hc => (Lst (Tpl K S) (acc c)).st (Same.new n2) (l2 c hc)⟩
end
end Gd

-- part Gd37
set_option Elab.async false
set_option linter.all false
set_option maxRecDepth 100000
set_option maxHeartbeats 1000000
/-! ### loops whose walk is known; what is owned while tables grow -/
namespace Gd
open PySem PySem.Spec PyProof.Rows L2
def FI (g : TG) (tb : TS) (D : Ends) (σ : L2.St) (J : It) (H1 : Hp) : Prop := ∃ W : Nat → Nat → L2.St → Hp → Prop, (∃ m, W 0 m σ H1) ∧ ∀ i m σ H, W i m σ H → (J.stop i H ∧ D.nx σ H) ∨ (J.go i H ∧ ∃ N : L2.St → Hp → Prop, (∀ σ' H', N σ' H' → ∃ m', m' < m ∧ W (i + 1) m' σ' H') ∧ ∀ x H', J.yld i H x H' → g x σ H' fun σ2 H2 => tb { D with nx := N, ct := N, bk := D.nx } σ2 H2)
section
variable {K : PySem.W.Frag} {σ : L2.St} {G H H0 : Hp} {D : Ends} {u : TS} {g : TG} {tb : TS} {te : TE}
theorem tq_forS (h : te σ H fun x H1 => ∃ a, x = .ref a ∧ (((∃ xs, SqL K H1 a xs) ∧ FI g tb { D with nx := u D } σ (Itl K a) H1) ∨ ((∃ xs, SqT K H1 a xs) ∧ FI g tb { D with nx := u D } σ (Itt K a) H1))) : tSeq (tFor (iSeq K te) g tb) u D σ H := h
theorem ts_forL (h : te σ H fun x H1 => ∃ d kvs, x = .ref d ∧ H1 d = some (.dK kvs) ∧ ∀ o, FI g tb D σ (Itk d o kvs) (upd H1 d (.frz o (.dK kvs)))) : tFor (iKeysL te) g tb D σ H := h
theorem fi_go {b : Bool} {α : Type} {e : α → SR} {J : It} {xs : List α} (W : WalkR b J e xs G (fun _ => True)) (Iv : Nat → L2.St → Hp → Hp → Prop) (h0 : ∃ G', Iv 0 σ G' H) (hI : ∀ i σ' G' H', Iv i σ' G' H' → Same G G' ∧ Rel b G' H')
    (hs : ∀ (i : Nat) (a : α) x σ' G' H' G2 H2, xs[i]? = some a → Iv i σ' G' H' → Go G' H' G2 H2 → (e a).p x G2 → g x σ' H2 fun σ2 H3 => tb { D with nx := fun σ H => ∃ G, Iv (i + 1) σ G H, ct := fun σ H => ∃ G, Iv (i + 1) σ G H, bk := D.nx } σ2 H3)
    (hd : ∀ σ' G' H', Iv xs.length σ' G' H' → D.nx σ' H') : FI g tb D σ J H := for_go W Iv h0 hI hs hd
theorem ev_dgetM {b : Bool} {i : Nat} {d : Addr} {kvs : List (Key × V)} {k : Str} {v : V} {R : SR} {ty : TE} (hv : σ[i]? = some (some (.ref d))) (hd : G d = some (.dK kvs)) (hb : Ev b ty σ G (S k)) (hk : valV kvs (Sum.inr k : Key) = some v) (pv : R.p v G) : Ev b (tDGet (tVar i) ty) σ G R := fun G1 H1 a r Q kk =>
  ⟨_, hv, hb G1 H1 a r _ fun y G3 H3 g q => by
    obtain ⟨rfl, _⟩ := q
    exact ⟨d, v, rfl, .inl ⟨kvs, Sum.inr k, (g.r _ r).rd (g.g _ _ (a _ _ hd)), rfl, hk.symm⟩, kk v G3 H3 g (R.st (a.trans g.g) pv)⟩⟩
variable {M : Addr} {cs : List Str} {acc : Str → List (List Str)} {pl : Str → Addr} {G2 H2 G0 : Hp}
theorem OwnM.gx (o : OwnM K M cs acc pl G H H0) (g : GoX G H G2 H2) : OwnM K M cs acc pl G2 H2 H0 :=
  ⟨o.n0, (g.n _ _ rfl o.hD).trans o.nG, g.h _ _ rfl o.hD, o.ne, o.inj, o.l0, fun c hc => let ⟨us, h1, _⟩ := o.ex c hc; (g.n _ _ rfl h1).trans (o.lG c hc), fun c hc => let ⟨us, h1, h2⟩ := o.ex c hc; ⟨us, g.h _ _ rfl h1, h2.st g.g⟩⟩
/-- a test over the dict and one of its lists -/
theorem OwnM.evT (o : OwnM K M cs acc pl G H H0) {b : Bool} (r : Rel b G H) {c : Str} (hc : c ∈ cs) (hl : (acc c).length ≤ 100000) {tt : TT} {v : Bool} (h : ∀ G1, Same G G1 → G1 M = some (.dK (cs.map fun c => (Sum.inr c, V.ref (pl c)))) → (Lst (Tpl K S) (acc c)).p (.ref (pl c)) G1 → EvT b tt σ G1 v) {Q : Bool → Hp → Prop} (k : ∀ G2 H2, Go G H G2 H2 → Q v H2) : tt σ H Q := by
  obtain ⟨us, h1, h2⟩ := o.ex c hc
  have nD : upd G M (.dK (cs.map fun c => (Sum.inr c, V.ref (pl c)))) (pl c) = none := by rw [upd_ne (o.ne c hc)]; exact o.lG c hc
  have s2 := (Same.new (o := .dK (cs.map fun c => (Sum.inr c, V.ref (pl c)))) o.nG).trans (Same.new (o := .lst us) nD)
  refine (h _ s2 (by rw [upd_ne (o.ne c hc).symm]; exact upd_same) ⟨pl c, us, rfl, upd_same, by rw [h2.len]; exact Nat.le_trans hl (by decide), h2.st s2⟩).lend (r.give o.hD) nD h1 fun G2 H2 g _ _ => k _ H2 (unlend g o.nG o.hD).1
/-- all of it frozen, at a def's end -/
theorem OwnM.freezeX (o : OwnM K M cs acc pl G H H0) (nd : cs.Nodup) (hl : ∀ c ∈ cs, (acc c).length ≤ 100000) (g0 : GoX G0 H0 G H) : ∃ G2, GoX G0 H0 G2 H ∧ Same G G2 ∧ G2 M = some (.dK (cs.map fun c => (Sum.inr c, V.ref (pl c)))) ∧ ∀ c ∈ cs, (Lst (Tpl K S) (acc c)).p (.ref (pl c)) G2 := by
  have lists : ∀ (done : List Str), (∀ c ∈ done, c ∈ cs) → done.Nodup → ∃ G2, GoX G0 H0 G2 H ∧ Same G G2 ∧ G2 M = none ∧ (∀ c ∈ cs, c ∉ done → G2 (pl c) = none) ∧ ∀ c ∈ done, (Lst (Tpl K S) (acc c)).p (.ref (pl c)) G2 := by
    intro done
    induction done with
    | nil => intro _ _; exact ⟨G, g0, Same.refl G, o.nG, fun c hc _ => o.lG c hc, fun c h => by cases h⟩
    | cons c done ih =>
      intro hd hnd
      obtain ⟨G2, g2, s2, n2, f2, l2⟩ := ih (fun c h => hd c (List.mem_cons_of_mem _ h)) (List.nodup_cons.mp hnd).2
      have hc := hd c (List.mem_cons_self ..)
      obtain ⟨us, h1, h2⟩ := o.ex c hc
      have nc := f2 c hc (List.nodup_cons.mp hnd).1
      refine ⟨upd G2 (pl c) (.lst us), g2.give (Nw.of (o.l0 c hc)) nc h1, s2.trans (Same.new nc), by rw [upd_ne (o.ne c hc).symm]; exact n2, fun x hx hn => ?_, fun x hx => ?_⟩
      · rw [upd_ne fun z => hn (by rw [o.inj x hx c hc z]; exact List.mem_cons_self ..)]
        exact f2 x hx fun z => hn (List.mem_cons_of_mem _ z)
      · rcases List.mem_cons.mp hx with rfl | hx
        · refine ⟨pl x, us, rfl, upd_same, ?_, h2.st (s2.trans (Same.new nc))⟩
          rw [h2.len]
          exact Nat.le_trans (hl x hc) (by decide)
        · exact (Lst (Tpl K S) (acc x)).st (Same.new nc) (l2 x hx)
  obtain ⟨G2, g2, s2, n2, _, l2⟩ := lists cs (fun _ h => h) nd
  exact ⟨upd G2 M _, g2.give (Nw.of o.n0) n2 o.hD, s2.trans (Same.new n2), upd_same, fun c hc => (Lst (Tpl K S) (acc c)).st (Same.new n2) (l2 c hc)⟩
end
end Gd

-- part Gd40
set_option Elab.async false
set_option linter.all false
set_option maxRecDepth 100000
set_option maxHeartbeats 1000000
/-! ### one judgement: draws, tables that grow, what is owned -/
namespace Gd
open PySem PySem.Spec PyProof.Rows L2
universe u
/-- what is told of an owned object -/
structure OR where
  p : HO → Hp → Prop
  st : ∀ {o : HO} {G G' : Hp}, Same G G' → p o G → p o G'
def OL {α : Type} (e : α → SR) (xs : List α) : OR := ⟨fun o G => ∃ vs, o = .lst vs ∧ vs.length ≤ sizeLine ∧ Al e xs vs G, fun s ⟨vs, h1, h2, h3⟩ => ⟨vs, h1, h2, h3.st s⟩⟩
def OKs (ks : List Str) : OR := ⟨fun o _ => ∃ kvs, o = .dK kvs ∧ kvs.length ≤ sizeLine ∧ kvs.map (·.1) = ks.map Sum.inr, fun _ h => h⟩
def ODct {α : Type} (e : α → SR) (xs : List (Str × α)) : OR := ⟨fun o G => ∃ kvs, o = .dK kvs ∧ kvs.length ≤ sizeLine ∧ AlD e xs kvs G, fun s ⟨vs, h1, h2, h3⟩ => ⟨vs, h1, h2, h3.st s⟩⟩
/-- what is no list and no dict is never owned -/
def isTT : HO → Bool
  | .tbl _ => true
  | .tup _ => true
  | _ => false
theorem tt_tb {o : HO} (h : isTT o = false) : isTb o = false := by cases o <;> first | rfl | cases h
structure SC where
  s : Addr
  c : Addr
  tb : List (Addr × Str)
def isLD : HO → Bool
  | .lst _ => true
  | .dK _ => true
  | .dT _ => true
  | .ins _ _ _ => true
  | _ => false
abbrev Own := List (Addr × OR)
structure Wd (W : SC) (n : Nat) (O : Own) (G H : Hp) : Prop where
  r : Rel true G H
  nt : NoTb G
  tb : LamX.Tabs W.tb H
  d : Dr W.s W.c n G H
  nd : (O.map (·.1)).Nodup
  o : ∀ q ∈ O, q.1 ≠ W.s ∧ q.1 ≠ W.c ∧ G q.1 = none ∧ ∃ ho, H q.1 = some ho ∧ isTT ho = false ∧ q.2.p ho G
section
variable {W : SC} {n m k : Nat} {O O' : Own} {G H G2 H2 : Hp} {p : Addr} {o : HO} {R R' : OR}
theorem Wd.go (w : Wd W n O G H) (g : Go G H G2 H2) : Wd W n O G2 H2 :=
  ⟨g.r _ w.r, w.nt.go g, tabs_go w.tb g, w.d.go g, w.nd, fun q hq => by
    obtain ⟨h1, h2, h3, ho, h4, h5, h6⟩ := w.o q hq
    exact ⟨h1, h2, (g.n _ _ h4).trans h3, ho, g.h _ _ h4, h5, q.2.st g.g h6⟩⟩
theorem Wd.gx (w : Wd W n O G H) (g : GoX G H G2 H2) (tb : LamX.Tabs W.tb H2) : Wd W n O G2 H2 :=
  ⟨g.r w.nt w.r, w.nt.gx g, tb, w.d.gx g, w.nd, fun q hq => by
    obtain ⟨h1, h2, h3, ho, h4, h5, h6⟩ := w.o q hq
    exact ⟨h1, h2, (g.n _ _ (tt_tb h5) h4).trans h3, ho, g.h _ _ (tt_tb h5) h4, h5, q.2.st g.g h6⟩⟩
theorem Wd.gs (w : Wd W n O G H) (g : GoS W.s W.c G H G2 H2) (d2 : Dr W.s W.c m G2 H2) (r2 : Rel true G2 H2) : Wd W m O G2 H2 :=
  ⟨r2, w.nt.gs g, tabs_gos w.tb w.d g, d2, w.nd, fun q hq => by
    obtain ⟨h1, h2, h3, ho, h4, h5, h6⟩ := w.o q hq
    exact ⟨h1, h2, (g.n _ _ h4).trans h3, ho, g.h _ _ h1 h2 h4, h5, q.2.st g.g h6⟩⟩
theorem Wd.le (w : Wd W n O G H) (h : n ≤ m) : Wd W m O G H := ⟨w.r, w.nt, w.tb, w.d.le h, w.nd, w.o⟩
theorem Wd.eq (w : Wd W n O G H) (h : n = m) : Wd W m O G H := h ▸ w
theorem Wd.drop (w : Wd W n O G H) (h : O'.Sublist O) : Wd W n O' G H := ⟨w.r, w.nt, w.tb, w.d, w.nd.sublist (h.map _), fun q hq => w.o q (h.subset hq)⟩
theorem Wd.perm (w : Wd W n O G H) (h : O'.Perm O) : Wd W n O' G H := ⟨w.r, w.nt, w.tb, w.d, ((h.map _).nodup_iff).mpr w.nd, fun q hq => w.o q (h.mem_iff.mp hq)⟩
theorem Wd.weak (w : Wd W n ((p, R) :: O) G H) (h : ∀ o, R.p o G → R'.p o G) : Wd W n ((p, R') :: O) G H := ⟨w.r, w.nt, w.tb, w.d, w.nd, fun q hq => by
  rcases List.mem_cons.mp hq with rfl | hq
  · obtain ⟨h1, h2, h3, ho, h4, h5, h6⟩ := w.o _ (List.mem_cons_self ..)
    exact ⟨h1, h2, h3, ho, h4, h5, h _ h6⟩
  · exact w.o q (List.mem_cons_of_mem _ hq)⟩
theorem Wd.fresh (w : Wd W n O G H) (w2 : Wd W m O G2 H2) (h1 : Nw H p) (h2 : G2 p = none) (h3 : H2 p = some o) (ho : isTT o = false) (hR : R.p o G2) : Wd W m ((p, R) :: O) G2 H2 := by
  obtain ⟨_, _, _, _, _, _, _, es, ec, _⟩ := w.d
  refine ⟨w2.r, w2.nt, w2.tb, w2.d, List.nodup_cons.mpr ⟨fun hm => ?_, w2.nd⟩, fun q hq => ?_⟩
  · obtain ⟨q, hq, e⟩ := List.mem_map.mp hm
    obtain ⟨_, _, _, u, h4, h5, _⟩ := w.o q hq
    exact h1.ne h4 (tt_tb h5) e
  · rcases List.mem_cons.mp hq with rfl | hq
    · exact ⟨fun z => h1.ne es rfl z.symm, fun z => h1.ne ec rfl z.symm, h2, o, h3, ho, hR⟩
    · exact w2.o q hq
/-- a new object, owned -/
theorem Wd.own (w : Wd W n O G H) (hp : H p = none) (ho : isTT o = false) (hR : R.p o G) : Wd W n ((p, R) :: O) G (upd H p o) := by
  exact w.fresh (w.go (Go.own (o := o) w.r hp)) (Nw.of hp) (w.r.free hp) upd_same ho hR
/-- .. frozen at once -/
theorem Wd.new (w : Wd W n O G H) (hp : H p = none) (ho : isTb o = false) : Wd W n O (upd G p o) (upd H p o) := w.go (Go.new w.r hp ho)
/-- what is owned is frozen -/
theorem Wd.freeze (w : Wd W n ((p, R) :: O) G H) : ∃ o, H p = some o ∧ R.p o G ∧ Same G (upd G p o) ∧ Wd W n O (upd G p o) H := by
  obtain ⟨h1, h2, h3, o, h4, h5, h6⟩ := w.o _ (List.mem_cons_self ..)
  refine ⟨o, h4, h6, Same.new h3, w.r.give h4, w.nt.up (tt_tb h5), w.tb, w.d.give h1 h2, (List.nodup_cons.mp w.nd).2, fun q hq => ?_⟩
  obtain ⟨q1, q2, q3, ho, q4, q5, q6⟩ := w.o q (List.mem_cons_of_mem _ hq)
  have ne : q.1 ≠ p := fun z => (List.nodup_cons.mp w.nd).1 (List.mem_map.mpr ⟨q, hq, z⟩)
  exact ⟨q1, q2, by rw [upd_ne ne]; exact q3, ho, q4, q5, q.2.st (Same.new h3) q6⟩
/-- .. is written -/
theorem Wd.put (w : Wd W n ((p, R) :: O) G H) (hl : ∀ u, R.p u G → isLD u = true) (ho : isTT o = false) (hR : R'.p o G) : Wd W n ((p, R') :: O) G (upd H p o) := by
  obtain ⟨h1, h2, h3, u, h4, h5, h6⟩ := w.o _ (List.mem_cons_self ..)
  refine ⟨w.r.own h3, w.nt, fun q hq => ?_, w.d.wr h1 h2, w.nd, fun q hq => ?_⟩
  · obtain ⟨ps, e1, e2, e3⟩ := w.tb q hq
    have ne : q.1 ≠ p := fun z => by
      have e4 : H p = some (.tbl ps) := by rw [← z]; exact e1
      rw [h4] at e4
      cases e4
      cases h5
    refine ⟨ps, by rw [upd_ne ne]; exact e1, e2, fun pos cv hc => ?_⟩
    obtain ⟨c, e5, e6⟩ := e3 pos cv hc
    have ne2 : c ≠ p := fun z => by
      rw [z, h4] at e6
      have := hl u h6
      rw [Option.some.inj e6] at this
      cases this
    exact ⟨c, e5, by rw [upd_ne ne2]; exact e6⟩
  · rcases List.mem_cons.mp hq with rfl | hq
    · exact ⟨h1, h2, h3, o, upd_same, ho, hR⟩
    · obtain ⟨q1, q2, q3, ho', q4, q5, q6⟩ := w.o q (List.mem_cons_of_mem _ hq)
      have ne : q.1 ≠ p := fun z => (List.nodup_cons.mp w.nd).1 (List.mem_map.mpr ⟨q, hq, z⟩)
      exact ⟨q1, q2, q3, ho', by rw [upd_ne ne]; exact q4, q5, q6⟩
end
/-! ### the slots -/
abbrev RL := List (Option SR)
structure Slots (G : Hp) (σ : L2.St) (Rs : RL) : Prop where
  len : σ.length = Rs.length
  get : ∀ (i : Nat) (R : SR), Rs[i]? = some (some R) → ∃ v, σ[i]? = some (some v) ∧ R.p v G
section
variable {G G2 : Hp} {σ : L2.St} {Rs Rs' : RL} {R : SR} {v : V} {i : Nat}
theorem Slots.st (h : Slots G σ Rs) (s : Same G G2) : Slots G2 σ Rs := ⟨h.len, fun i R e => let ⟨v, h1, h2⟩ := h.get i R e; ⟨v, h1, R.st s h2⟩⟩
theorem Slots.set (h : Slots G σ Rs) (p : R.p v G) : Slots G (σ.set i (some v)) (Rs.set i (some R)) :=
  ⟨by rw [List.length_set, List.length_set]; exact h.len, fun j R' e => by
    by_cases q : i = j
    · subst q
      have hl : i < Rs.length := by
        have := (List.getElem?_eq_some_iff.mp e).1
        rwa [List.length_set] at this
      rw [List.getElem?_set_self hl] at e
      cases e
      exact ⟨v, List.getElem?_set_self (by rw [h.len]; exact hl), p⟩
    · rw [List.getElem?_set_ne q] at e ⊢
      exact h.get j R' e⟩
theorem Slots.unset (h : Slots G σ Rs) : Slots G σ (Rs.set i none) :=
  ⟨by rw [List.length_set]; exact h.len, fun j R' e => by
    by_cases q : i = j
    · subst q
      have hl : i < Rs.length := by
        have := (List.getElem?_eq_some_iff.mp e).1
        rwa [List.length_set] at this
      rw [List.getElem?_set_self hl] at e
      cases e
    · rw [List.getElem?_set_ne q] at e
      exact h.get j R' e⟩
/-- one slot told otherwise -/
theorem Slots.conv (h : Slots G σ Rs) {R' : SR} (e : Rs[i]? = some (some R)) (q : ∀ v, R.p v G → R'.p v G) : Slots G σ (Rs.set i (some R')) :=
  ⟨by rw [List.length_set]; exact h.len, fun j R2 e2 => by
    by_cases z : i = j
    · subst z
      have hl : i < Rs.length := (List.getElem?_eq_some_iff.mp e).1
      rw [List.getElem?_set_self hl] at e2
      cases e2
      obtain ⟨v, h1, h2⟩ := h.get i R e
      exact ⟨v, h1, q v h2⟩
    · rw [List.getElem?_set_ne z] at e2
      exact h.get j R2 e2⟩
def wipeR (Rs : RL) : List Nat → RL
  | [] => Rs
  | v :: vs => (wipeR Rs vs).set v none
theorem Slots.wset (h : Slots G σ Rs) : Slots G (σ.set i none) (Rs.set i none) :=
  ⟨by rw [List.length_set, List.length_set]; exact h.len, fun j R' e => by
    by_cases q : i = j
    · subst q
      have hl : i < Rs.length := by
        have := (List.getElem?_eq_some_iff.mp e).1
        rwa [List.length_set] at this
      rw [List.getElem?_set_self hl] at e
      cases e
    · rw [List.getElem?_set_ne q] at e ⊢
      exact h.get j R' e⟩
theorem Slots.wipe (h : Slots G σ Rs) : ∀ vs : List Nat, Slots G (L2.wipe σ vs) (wipeR Rs vs)
  | [] => h
  | v :: vs => (Slots.wipe h vs).wset
/-- what is told of the slots that are told -/
inductive Slk (G : Hp) : RL → RL → Prop
  | nil : Slk G [] []
  | no {r : Option SR} {as bs : RL} : Slk G as bs → Slk G (r :: as) (none :: bs)
  | eq {R : SR} {as bs : RL} : Slk G as bs → Slk G (some R :: as) (some R :: bs)
  | cv {R R' : SR} {as bs : RL} : (∀ v, R.p v G → R'.p v G) → Slk G as bs → Slk G (some R :: as) (some R' :: bs)
theorem Slk.len {as bs : RL} (k : Slk G as bs) : as.length = bs.length := by
  induction k with
  | nil => rfl
  | no _ ih => rw [List.length_cons, List.length_cons, ih]
  | eq _ ih => rw [List.length_cons, List.length_cons, ih]
  | cv _ _ ih => rw [List.length_cons, List.length_cons, ih]
theorem Slk.get {as bs : RL} (k : Slk G as bs) : ∀ (i : Nat) (R' : SR), bs[i]? = some (some R') → ∃ R, as[i]? = some (some R) ∧ ∀ v, R.p v G → R'.p v G := by
  induction k with
  | nil => intro i R' e; cases e
  | no _ ih =>
    intro i R' e
    cases i with
    | zero => cases e
    | succ i => exact ih i R' e
  | eq _ ih =>
    intro i R' e
    cases i with
    | zero => cases e; exact ⟨_, rfl, fun _ h => h⟩
    | succ i => exact ih i R' e
  | cv h _ ih =>
    intro i R' e
    cases i with
    | zero => cases e; exact ⟨_, rfl, h⟩
    | succ i => exact ih i R' e
theorem Slots.weak (h : Slots G σ Rs) (k : Slk G Rs Rs') : Slots G σ Rs' := ⟨h.len.trans k.len, fun i R' e => by
  obtain ⟨R, e1, e2⟩ := k.get i R' e
  obtain ⟨v, h1, h2⟩ := h.get i R e1
  exact ⟨v, h1, e2 v h2⟩⟩
end
/-! ### what a reading evaluates to -/
def EG (W : SC) (O : Own) (k : Nat) {ρ : Type} (t : L2.St → Hp → (ρ → Hp → Prop) → Prop) (Rs : RL) (P : ρ → Hp → Prop) : Prop := ∀ (σ : L2.St) (G H : Hp) (n : Nat) (Q : ρ → Hp → Prop), Slots G σ Rs → Wd W n O G H → n + k ≤ 1000000 → (∀ v G2 H2, Same G G2 → Wd W (n + k) O G2 H2 → P v G2 → Q v H2) → t σ H Q
abbrev EL (W : SC) (O : Own) (k : Nat) (t : TE) (Rs : RL) (R : SR) : Prop := EG W O k t Rs R.p
abbrev ETL (W : SC) (O : Own) (k : Nat) (t : TT) (Rs : RL) (b : Bool) : Prop := EG W O k t Rs (fun c _ => c = b)
abbrev EAL (W : SC) (O : Own) (k : Nat) (t : TA) (Rs : RL) (Ls : List SR) : Prop := EG W O k t Rs (fun vs G => AlR Ls vs G)
abbrev EIL (W : SC) (O : Own) (k : Nat) (t : TI) (Rs : RL) {α : Type} (e : α → SR) (xs : List α) : Prop := EG W O k t Rs (fun J G => WalkR true J e xs G (fun _ => True))
abbrev EOL (W : SC) (O : Own) (k : Nat) (t : TO) (Rs : RL) (o : Option Int) : Prop := EG W O k t Rs (fun x _ => x = o)
/-- a new list, owned by who asked for it -/
def ELO (W : SC) (O : Own) (k : Nat) (t : TE) (Rs : RL) (R : OR) : Prop := ∀ (σ : L2.St) (G H : Hp) (n : Nat) (Q : VK), Slots G σ Rs → Wd W n O G H → n + k ≤ 1000000 → (∀ p G2 H2, Same G G2 → Wd W (n + k) ((p, R) :: O) G2 H2 → Q (.ref p) H2) → t σ H Q
abbrev ELN (W : SC) (O : Own) (k : Nat) (t : TE) (Rs : RL) {α : Type} (e : α → SR) (xs : List α) : Prop := ELO W O k t Rs (OL e xs)
section
variable {W : SC} {O : Own} {k m n : Nat} {ρ : Type} {Rs : RL} {R R1 R2 R' : SR} {te ta tb : TE} {α β : Type} {e : α → SR} {xs : List α}
theorem EG.le {t : L2.St → Hp → (ρ → Hp → Prop) → Prop} {P : ρ → Hp → Prop} (h : EG W O k t Rs P) (q : k ≤ m) : EG W O m t Rs P := fun σ G H n Q sl w hn kk => h σ G H n Q sl w (by omega) fun v G2 H2 s2 w2 p => kk v G2 H2 s2 (w2.le (by omega)) p
theorem EG.is {t : L2.St → Hp → (ρ → Hp → Prop) → Prop} {P P' : ρ → Hp → Prop} (h : EG W O k t Rs P) (q : ∀ v G, P v G → P' v G) : EG W O k t Rs P' := fun σ G H n Q sl w hn kk => h σ G H n Q sl w hn fun v G2 H2 s2 w2 p => kk v G2 H2 s2 w2 (q v G2 p)
theorem ELO.le {R : OR} (h : ELO W O k te Rs R) (q : k ≤ m) : ELO W O m te Rs R := fun σ G H n Q sl w hn kk => h σ G H n Q sl w (by omega) fun p G2 H2 s2 w2 => kk p G2 H2 s2 (w2.le (by omega))
theorem ELN.eq {ys : List α} (h : ELN W O k te Rs e xs) (q : xs = ys) : ELN W O k te Rs e ys := q ▸ h
theorem ELO.is {xs ys : List α} (h : ELO W O k te Rs (OL e xs)) (q : xs = ys) : ELO W O k te Rs (OL e ys) := q ▸ h
theorem EL.eq (h : EL W O k te Rs R) (q : R = R') : EL W O k te Rs R' := q ▸ h
theorem ETL.eq {tt : TT} {b b' : Bool} (h : ETL W O k tt Rs b) (q : b = b') : ETL W O k tt Rs b' := q ▸ h
/-- nothing is drawn, no table grows -/
theorem el_ev (h : ∀ (σ : L2.St) (G : Hp), Slots G σ Rs → Ev true te σ G R) : EL W O 0 te Rs R := fun σ G H n Q sl w hn kk => (h σ G sl).run w.r fun u G2 H2 g p => kk u G2 H2 g.g (w.go g) p
theorem etl_ev {tt : TT} {b : Bool} (h : ∀ (σ : L2.St) (G : Hp), Slots G σ Rs → EvT true tt σ G b) : ETL W O 0 tt Rs b := fun σ G H n Q sl w hn kk => (h σ G sl).run w.r fun G2 H2 g => kk b G2 H2 g.g (w.go g) rfl
theorem eln_ev (h : ∀ (σ : L2.St) (G : Hp), Slots G σ Rs → EvN true te σ G e xs) : ELN W O 0 te Rs e xs := fun σ G H n Q sl w hn kk => (h σ G sl).run w.r fun p vs G2 H2 g h1 h2 h3 h4 h5 =>
  kk p G2 H2 g.g (w.fresh (w.go g) (Nw.of h1) h2 h3 rfl ⟨vs, rfl, h4, h5⟩)
theorem eil_ev {ti : TI} (h : ∀ (σ : L2.St) (G : Hp), Slots G σ Rs → EvI true ti σ G e xs) : EIL W O 0 ti Rs e xs := fun σ G H n Q sl w hn kk => (h σ G sl).run w.r fun J G2 H2 g p => kk J G2 H2 g.g (w.go g) p
theorem ev_slot {b : Bool} {σ : L2.St} {G : Hp} {i : Nat} (sl : Slots G σ Rs) (h : Rs[i]? = some (some R)) : Ev b (tVar i) σ G R := by
  obtain ⟨v, h1, h2⟩ := sl.get i R h
  exact ev_var h1 h2
theorem el_var {i : Nat} (h : Rs[i]? = some (some R)) : EL W O 0 (tVar i) Rs R := fun σ G H n Q sl w hn kk => by
  obtain ⟨v, h1, h2⟩ := sl.get i R h
  exact ⟨v, h1, kk v G H (Same.refl G) w h2⟩
theorem el_cR {v : V} (q : ∀ G, R.p v G) : EL W O 0 (tC v) Rs R := fun σ G H n Q sl w hn kk => kk v G H (Same.refl G) w (q G)
theorem el_c {v : V} : EL W O 0 (tC v) Rs (cst v) := el_cR fun _ => rfl
theorem el_int {i : Int} : EL W O 0 (tC (.int i)) Rs (I i) := el_cR fun _ => rfl
theorem el_bl {i : Bool} : EL W O 0 (tC (.bl i)) Rs (B i) := el_cR fun _ => rfl
theorem el_str {i : Str} (h : okS i = true := by decide +kernel) : EL W O 0 (tC (.str i)) Rs (S i) := el_cR fun _ => ⟨rfl, h⟩
theorem el_non : EL W O 0 (tC .non) Rs N := el_cR fun _ => rfl
/-! lists of arguments -/
theorem eal_nil : EAL W O 0 tNil Rs [] := fun σ G H n Q sl w hn kk => kk [] G H (Same.refl G) w .nil
theorem eal_cons {tr : TA} {Ls : List SR} (h : EL W O k ta Rs R) (hr : EAL W O m tr Rs Ls) : EAL W O (k + m) (tCons ta tr) Rs (R :: Ls) := fun σ G H n Q sl w hn kk =>
  h σ G H n _ sl w (by omega) fun v G2 H2 s2 w2 p => hr σ G2 H2 (n + k) _ (sl.st s2) w2 (by omega) fun vs G3 H3 s3 w3 al => kk _ G3 H3 (s2.trans s3) (w3.eq (by omega)) (.cons (R.st s3 p) al)
/-! strict operations, from the rule for values at hand -/
theorem el_f1 (F : TE → TE) (h : EL W O k te Rs R1) (hr : ∀ (v : V) (σ : L2.St) (G : Hp), R1.p v G → Ev true (F (tC v)) σ G R) (hF : ∀ (σ : L2.St) (H : Hp) (Q : VK), (te σ H fun v H1 => F (tC v) σ H1 Q) → F te σ H Q := by exact fun _ _ _ h => h) : EL W O k (F te) Rs R := fun σ G H n Q sl w hn kk =>
  hF _ _ _ (h σ G H n _ sl w hn fun v G2 H2 s2 w2 p => (hr v σ G2 p).run w2.r fun u G3 H3 g3 pu => kk u G3 H3 (s2.trans g3.g) (w2.go g3) pu)
theorem eln_f1 (F : TE → TE) (h : EL W O k te Rs R1) (hr : ∀ (v : V) (σ : L2.St) (G : Hp), R1.p v G → EvN true (F (tC v)) σ G e xs) (hF : ∀ (σ : L2.St) (H : Hp) (Q : VK), (te σ H fun v H1 => F (tC v) σ H1 Q) → F te σ H Q := by exact fun _ _ _ h => h) : ELN W O k (F te) Rs e xs := fun σ G H n Q sl w hn kk =>
  hF _ _ _ (h σ G H n _ sl w hn fun v G2 H2 s2 w2 p => (hr v σ G2 p).run w2.r fun q vs G3 H3 g3 h1 h2 h3 h4 h5 => kk q G3 H3 (s2.trans g3.g) (w2.fresh (w2.go g3) (Nw.of h1) h2 h3 rfl ⟨vs, rfl, h4, h5⟩))
theorem el_f2 (F : TE → TE → TE) (ha : EL W O k ta Rs R1) (hb : EL W O m tb Rs R2) (hr : ∀ (x y : V) (σ : L2.St) (G : Hp), R1.p x G → R2.p y G → Ev true (F (tC x) (tC y)) σ G R) (hF : ∀ (σ : L2.St) (H : Hp) (Q : VK), (ta σ H fun x H1 => tb σ H1 fun y H2 => F (tC x) (tC y) σ H2 Q) → F ta tb σ H Q := by exact fun _ _ _ h => h) : EL W O (k + m) (F ta tb) Rs R := fun σ G H n Q sl w hn kk =>
  hF _ _ _ (ha σ G H n _ sl w (by omega) fun x G2 H2 s2 w2 px => hb σ G2 H2 (n + k) _ (sl.st s2) w2 (by omega) fun y G3 H3 s3 w3 py => (hr x y σ G3 (R1.st s3 px) py).run w3.r fun u G4 H4 g4 pu => kk u G4 H4 ((s2.trans s3).trans g4.g) ((w3.go g4).eq (by omega)) pu)
theorem eln_f2 (F : TE → TE → TE) (ha : EL W O k ta Rs R1) (hb : EL W O m tb Rs R2) (hr : ∀ (x y : V) (σ : L2.St) (G : Hp), R1.p x G → R2.p y G → EvN true (F (tC x) (tC y)) σ G e xs) (hF : ∀ (σ : L2.St) (H : Hp) (Q : VK), (ta σ H fun x H1 => tb σ H1 fun y H2 => F (tC x) (tC y) σ H2 Q) → F ta tb σ H Q := by exact fun _ _ _ h => h) : ELN W O (k + m) (F ta tb) Rs e xs := fun σ G H n Q sl w hn kk =>
  hF _ _ _ (ha σ G H n _ sl w (by omega) fun x G2 H2 s2 w2 px => hb σ G2 H2 (n + k) _ (sl.st s2) w2 (by omega) fun y G3 H3 s3 w3 py => (hr x y σ G3 (R1.st s3 px) py).run w3.r fun q vs G4 H4 g4 h1 h2 h3 h4 h5 => kk q G4 H4 ((s2.trans s3).trans g4.g) ((w3.fresh (R := OL e xs) (w3.go g4) (Nw.of h1) h2 h3 rfl ⟨vs, rfl, h4, h5⟩).eq (by omega)))
theorem ELN.el (h : ELN W O k te Rs e xs) : EL W O k te Rs (Lst e xs) := fun σ G H n Q sl w hn kk => h σ G H n _ sl w hn fun p G2 H2 s2 w2 => by
  obtain ⟨o, h1, ⟨vs, rfl, h2, h3⟩, s3, w3⟩ := w2.freeze
  exact kk (.ref p) _ H2 (s2.trans s3) w3 ⟨p, vs, rfl, upd_same, h2, h3.st s3⟩
/-- a new list and its content read anew -/
theorem el_sqL {K : PySem.W.Frag} (h : EL W O k te Rs (Lst e xs)) : EL W O k te Rs (Sq K e xs) := h.is fun _ _ p => .inl p
theorem el_sqT {K : PySem.W.Frag} (h : EL W O k te Rs (Tpl K e xs)) : EL W O k te Rs (Sq K e xs) := h.is fun _ _ p => .inr p
theorem el_ks {xs : List (Str × α)} (h : EL W O k te Rs (Dct e xs)) : EL W O k te Rs (Ks (xs.map (·.1))) := h.is fun _ _ ⟨a, kvs, h1, h2, h3, h4⟩ => ⟨a, kvs, h1, h2, h3, h4.keys⟩
/-! ### tests -/
theorem etl_test {c : Bool} (h : EL W O k te Rs (B c)) : ETL W O k (tTest te) Rs c := fun σ G H n Q sl w hn kk => h σ G H n _ sl w hn fun v G2 H2 s2 w2 p => ⟨c, p, kk c G2 H2 s2 w2 rfl⟩
theorem etl_B {c : Bool} (h : EL W O k te Rs (B c)) : ETL W O k (tB te) Rs c := fun σ G H n Q sl w hn kk => h σ G H n _ sl w hn fun v G2 H2 s2 w2 p => ⟨c, p, kk c G2 H2 s2 w2 rfl⟩
theorem etl_not {t : TT} {c : Bool} (h : ETL W O k t Rs c) : ETL W O k (tNot t) Rs (!c) := fun σ G H n Q sl w hn kk => h σ G H n _ sl w hn fun v G2 H2 s2 w2 e => by
  subst e
  exact kk (!v) G2 H2 s2 w2 rfl
theorem etl_and {t u : TT} {c d : Bool} (h1 : ETL W O k t Rs c) (h2 : c = true → ETL W O m u Rs d) : ETL W O (k + m) (tAnd t u) Rs (c && d) := fun σ G H n Q sl w hn kk => h1 σ G H n _ sl w (by omega) fun v G2 H2 s2 w2 e => by
  subst e
  cases v with
  | true => exact h2 rfl σ G2 H2 (n + k) Q (sl.st s2) w2 (by omega) fun b G3 H3 s3 w3 e => kk b G3 H3 (s2.trans s3) (w3.le (by omega)) (by rw [e]; rfl)
  | false => exact kk false G2 H2 s2 (w2.le (by omega)) rfl
theorem etl_or {t u : TT} {c d : Bool} (h1 : ETL W O k t Rs c) (h2 : c = false → ETL W O m u Rs d) : ETL W O (k + m) (tOr t u) Rs (c || d) := fun σ G H n Q sl w hn kk => h1 σ G H n _ sl w (by omega) fun v G2 H2 s2 w2 e => by
  subst e
  cases v with
  | false => exact h2 rfl σ G2 H2 (n + k) Q (sl.st s2) w2 (by omega) fun b G3 H3 s3 w3 e => kk b G3 H3 (s2.trans s3) (w3.le (by omega)) (by rw [e]; rfl)
  | true => exact kk true G2 H2 s2 (w2.le (by omega)) rfl
/-- of two tests, both false -/
theorem etl_orF {t u : TT} (h1 : ETL W O k t Rs false) (h2 : ETL W O m u Rs false) : ETL W O (k + m) (tOr t u) Rs false := etl_or h1 fun _ => h2
theorem etl_andT {t u : TT} (h1 : ETL W O k t Rs true) (h2 : ETL W O m u Rs true) : ETL W O (k + m) (tAnd t u) Rs true := etl_and h1 fun _ => h2
theorem etl_notT {t : TT} (h : ETL W O k t Rs true) : ETL W O k (tNot t) Rs false := etl_not h
theorem etl_notF {t : TT} (h : ETL W O k t Rs false) : ETL W O k (tNot t) Rs true := etl_not h
theorem etl_yes : ETL W O 0 tYes Rs true := etl_ev fun _ _ _ => et_yes
theorem el_and {c d : Bool} (h1 : EL W O k ta Rs (B c)) (h2 : c = true → EL W O m tb Rs (B d)) : EL W O (k + m) (tAndV ta tb) Rs (B (c && d)) := fun σ G H n Q sl w hn kk => h1 σ G H n _ sl w (by omega) fun v G2 H2 s2 w2 p => by
  obtain rfl : v = .bl c := p
  refine ⟨c, rfl, ?_⟩
  cases c with
  | true => exact h2 rfl σ G2 H2 (n + k) Q (sl.st s2) w2 (by omega) fun b G3 H3 s3 w3 e => kk b G3 H3 (s2.trans s3) (w3.le (by omega)) e
  | false => exact kk (.bl false) G2 H2 s2 (w2.le (by omega)) rfl
theorem el_or {c d : Bool} (h1 : EL W O k ta Rs (B c)) (h2 : c = false → EL W O m tb Rs (B d)) : EL W O (k + m) (tOrV ta tb) Rs (B (c || d)) := fun σ G H n Q sl w hn kk => h1 σ G H n _ sl w (by omega) fun v G2 H2 s2 w2 p => by
  obtain rfl : v = .bl c := p
  refine ⟨c, rfl, ?_⟩
  cases c with
  | true => exact kk (.bl true) G2 H2 s2 (w2.le (by omega)) rfl
  | false => exact h2 rfl σ G2 H2 (n + k) Q (sl.st s2) w2 (by omega) fun b G3 H3 s3 w3 e => kk b G3 H3 (s2.trans s3) (w3.le (by omega)) e
theorem el_not {c : Bool} (h : EL W O k te Rs (B c)) : EL W O k (tNotV te) Rs (B (!c)) := fun σ G H n Q sl w hn kk => h σ G H n _ sl w hn fun v G2 H2 s2 w2 p => ⟨c, p, kk _ G2 H2 s2 w2 rfl⟩
theorem el_if {t : TT} {c : Bool} (h : ETL W O k t Rs c) (h1 : c = true → EL W O m ta Rs R) (h2 : c = false → EL W O m tb Rs R) : EL W O (k + m) (tIf t ta tb) Rs R := fun σ G H n Q sl w hn kk => h σ G H n _ sl w (by omega) fun b G2 H2 s2 w2 e => by
  subst e
  cases b with
  | true => exact h1 rfl σ G2 H2 (n + k) Q (sl.st s2) w2 (by omega) fun v G3 H3 s3 w3 p => kk v G3 H3 (s2.trans s3) (w3.eq (by omega)) p
  | false => exact h2 rfl σ G2 H2 (n + k) Q (sl.st s2) w2 (by omega) fun v G3 H3 s3 w3 p => kk v G3 H3 (s2.trans s3) (w3.eq (by omega)) p
end
end Gd

-- part Gd41
set_option Elab.async false
set_option linter.all false
set_option maxRecDepth 100000
set_option maxHeartbeats 1000000
/-! ### calls, comprehensions, statements -/
namespace Gd
open PySem PySem.Spec PyProof.Rows L2
universe u
/-! ### contracts -/
/-- a def, the world told; with the stream as its first argument -/
def spL {ι : Type u} (Tb : List (Addr × Str)) (pre : ι → List SR) (ok : ι → Prop) (cost : ι → Nat) (post : ι → SR) : Sp := fun vs H Q _ => ∃ (i : ι) (s c : Addr) (n : Nat) (O : Own) (G : Hp) (rest : List V), vs = .ref s :: rest ∧ Wd ⟨s, c, Tb⟩ n O G H ∧ n + cost i ≤ 1000000 ∧ ok i ∧ AlR (pre i) rest G ∧ ∀ v G2 H2, Same G G2 → Wd ⟨s, c, Tb⟩ (n + cost i) O G2 H2 → (post i).p v G2 → Q v H2
/-- .. without it -/
def spM {ι : Type u} (Tb : List (Addr × Str)) (pre : ι → List SR) (ok : ι → Prop) (post : ι → SR) : Sp := fun vs H Q _ => ∃ (i : ι) (s c : Addr) (n : Nat) (O : Own) (G : Hp), Wd ⟨s, c, Tb⟩ n O G H ∧ n ≤ 1000000 ∧ ok i ∧ AlR (pre i) vs G ∧ ∀ v G2 H2, Same G G2 → Wd ⟨s, c, Tb⟩ n O G2 H2 → (post i).p v G2 → Q v H2
/-- .. what it hands back is new -/
def spMO {ι : Type u} (Tb : List (Addr × Str)) (pre : ι → List SR) (ok : ι → Prop) (post : ι → OR) : Sp := fun vs H Q _ => ∃ (i : ι) (s c : Addr) (n : Nat) (O : Own) (G : Hp), Wd ⟨s, c, Tb⟩ n O G H ∧ n ≤ 1000000 ∧ ok i ∧ AlR (pre i) vs G ∧ ∀ p G2 H2, Same G G2 → Wd ⟨s, c, Tb⟩ n ((p, post i) :: O) G2 H2 → Q (.ref p) H2
section
variable {W : SC} {O : Own} {k m n : Nat} {Rs : RL} {R R1 R2 R' : SR} {te ta tb : TE} {tr : TA} {α β : Type} {e : α → SR} {xs : List α} {ι : Type u} {pre : ι → List SR} {ok : ι → Prop} {post : ι → SR} {E : XK}
theorem spL_len {Tb : List (Addr × Str)} {cost : ι → Nat} {vs : List V} {H : Hp} {Q : VK} {l : Nat} (h : spL Tb pre ok cost post vs H Q E) (hn : ∀ i, (pre i).length = l) : vs.length = l + 1 := by
  obtain ⟨i, s, c, n, O, G, rest, rfl, _, _, _, al, _⟩ := h
  rw [List.length_cons, alr_len al, hn]
theorem spM_len {Tb : List (Addr × Str)} {vs : List V} {H : Hp} {Q : VK} {l : Nat} (h : spM Tb pre ok post vs H Q E) (hn : ∀ i, (pre i).length = l) : vs.length = l := by
  obtain ⟨i, s, c, n, O, G, _, _, _, al, _⟩ := h
  rw [alr_len al, hn]
theorem spMO_len {Tb : List (Addr × Str)} {post : ι → OR} {vs : List V} {H : Hp} {Q : VK} {l : Nat} (h : spMO Tb pre ok post vs H Q E) (hn : ∀ i, (pre i).length = l) : vs.length = l := by
  obtain ⟨i, s, c, n, O, G, _, _, _, al, _⟩ := h
  rw [alr_len al, hn]
theorem rel_any {b : Bool} {G H : Hp} (r : Rel true G H) : Rel b G H := fun a o h => .inl (r.ex h)
/-! ### calls -/
theorem el_call {ι : Type} {pre : ι → List SR} {ok : ι → Prop} {post : ι → SR} {b' : Bool} (i : ι) (ha : EAL W O k tr Rs (pre i)) (hok : ok i) : EL W O k (tCall (spF b' pre ok post) [] E tr) Rs (post i) := fun σ G H n Q sl w hn kk => ha σ G H n _ sl w hn fun vs G2 H2 s2 w2 al =>
  ⟨i, G2, rel_any w2.r, hok, by rw [List.append_nil]; exact al, fun u G3 H3 g p => kk u G3 H3 (s2.trans g.g) (w2.go g) p⟩
theorem eln_call {ι : Type} {pre : ι → List SR} {ok : ι → Prop} {b' : Bool} {post : ι → List α} (i : ι) (ha : EAL W O k tr Rs (pre i)) (hok : ok i) : ELN W O k (tCall (spN b' pre ok e post) [] E tr) Rs e (post i) := fun σ G H n Q sl w hn kk => ha σ G H n _ sl w hn fun vs G2 H2 s2 w2 al =>
  ⟨i, G2, rel_any w2.r, hok, by rw [List.append_nil]; exact al, fun p vs G3 H3 g h1 h2 h3 h4 h5 => kk p G3 H3 (s2.trans g.g) (w2.fresh (w2.go g) (Nw.of h1) h2 h3 rfl ⟨vs, rfl, h4, h5⟩)⟩
theorem el_calld {cost : ι → Nat} {j : Nat} (i : ι) (hs : Rs[j]? = some (some (cst (.ref W.s)))) (ha : EAL W O k tr Rs (pre i)) (hok : ok i) : EL W O (k + cost i) (tCall (spD pre ok cost post) [] E (tCons (tVar j) tr)) Rs (post i) := fun σ G H n Q sl w hn kk => by
  obtain ⟨v, h1, h2⟩ := sl.get j _ hs
  obtain rfl : v = .ref W.s := h2
  exact ⟨_, h1, ha σ G H n _ sl w (by omega) fun vs G2 H2 s2 w2 al => ⟨i, G2, W.s, W.c, n + k, vs, by rw [List.append_nil], w2.r, w2.d, by omega, hok, al, fun v G3 H3 g d3 r3 p => kk v G3 H3 (s2.trans g.g) ((w2.gs g d3 r3).eq (by omega)) p⟩⟩
theorem el_calll {cost : ι → Nat} {j : Nat} (i : ι) (hs : Rs[j]? = some (some (cst (.ref W.s)))) (ha : EAL W O k tr Rs (pre i)) (hok : ok i) : EL W O (k + cost i) (tCall (spL W.tb pre ok cost post) [] E (tCons (tVar j) tr)) Rs (post i) := fun σ G H n Q sl w hn kk => by
  obtain ⟨v, h1, h2⟩ := sl.get j _ hs
  obtain rfl : v = .ref W.s := h2
  exact ⟨_, h1, ha σ G H n _ sl w (by omega) fun vs G2 H2 s2 w2 al => ⟨i, W.s, W.c, n + k, O, G2, vs, by rw [List.append_nil], w2, by omega, hok, al, fun v G3 H3 s3 w3 p => kk v G3 H3 (s2.trans s3) (w3.eq (by omega)) p⟩⟩
theorem el_callt (i : ι) (ha : EAL W O k tr Rs (pre i)) (hok : ok i) : EL W O k (tCall (spT W.tb pre ok post) [] E tr) Rs (post i) := fun σ G H n Q sl w hn kk => ha σ G H n _ sl w hn fun vs G2 H2 s2 w2 al =>
  ⟨i, G2, w2.r, w2.nt, w2.tb, hok, by rw [List.append_nil]; exact al, fun u G3 H3 g tb p => kk u G3 H3 (s2.trans g.g) (w2.gx g tb) p⟩
theorem eln_callt {post : ι → List α} (i : ι) (ha : EAL W O k tr Rs (pre i)) (hok : ok i) : ELN W O k (tCall (spTN W.tb pre ok e post) [] E tr) Rs e (post i) := fun σ G H n Q sl w hn kk => ha σ G H n _ sl w hn fun vs G2 H2 s2 w2 al =>
  ⟨i, G2, w2.r, w2.nt, w2.tb, hok, by rw [List.append_nil]; exact al, fun p vs G3 H3 g tb h1 h2 h3 h4 h5 => kk p G3 H3 (s2.trans g.g) (w2.fresh (w2.gx g tb) h1 h2 h3 rfl ⟨vs, rfl, h4, h5⟩)⟩
theorem el_callm (i : ι) (ha : EAL W O k tr Rs (pre i)) (hok : ok i) : EL W O k (tCall (spM W.tb pre ok post) [] E tr) Rs (post i) := fun σ G H n Q sl w hn kk => ha σ G H n _ sl w hn fun vs G2 H2 s2 w2 al =>
  ⟨i, W.s, W.c, n + k, O, G2, w2, by omega, hok, by rw [List.append_nil]; exact al, fun v G3 H3 s3 w3 p => kk v G3 H3 (s2.trans s3) w3 p⟩
theorem elo_callm {post : ι → OR} (i : ι) (ha : EAL W O k tr Rs (pre i)) (hok : ok i) : ELO W O k (tCall (spMO W.tb pre ok post) [] E tr) Rs (post i) := fun σ G H n Q sl w hn kk => ha σ G H n _ sl w hn fun vs G2 H2 s2 w2 al =>
  ⟨i, W.s, W.c, n + k, O, G2, w2, by omega, hok, by rw [List.append_nil]; exact al, fun p G3 H3 s3 w3 => kk p G3 H3 (s2.trans s3) w3⟩
/-! by names -/
def kArgs (Ls : List SR) (gV : List V → List V → List V) (Rl Kl : List SR) : Prop := ∀ vs zs G', AlR Rl vs G' → AlR Kl zs G' → AlR Ls (gV vs zs) G'
theorem ktail {W : SC} {O : Own} {k m : Nat} {Rs : RL} {tr tk : TA} {Rl Kl : List SR} (ha : EAL W O k tr Rs Rl) (hk : EAL W O m tk Rs Kl) (σ : L2.St) (G H : Hp) (n : Nat) (Q : List V → List V → Hp → Prop) (sl : Slots G σ Rs) (w : Wd W n O G H) (hn : n + (k + m) ≤ 1000000)
    (kk : ∀ vs zs G2 H2, Same G G2 → Wd W (n + (k + m)) O G2 H2 → AlR Rl vs G2 → AlR Kl zs G2 → Q vs zs H2) : tr σ H fun vs H1 => tk σ H1 fun zs H2 => Q vs zs H2 :=
  ha σ G H n _ sl w (by omega) fun vs G2 H2 s2 w2 al => hk σ G2 H2 (n + k) _ (sl.st s2) w2 (by omega) fun zs G3 H3 s3 w3 al2 => kk vs zs G3 H3 (s2.trans s3) (w3.eq (by omega)) (al.st s3) al2
theorem el_callk {ι : Type} {pre : ι → List SR} {ok : ι → Prop} {post : ι → SR} {b' : Bool} {tk : TA} {gV : List V → List V → List V} {Rl Kl : List SR} (i : ι) (ha : EAL W O k tr Rs Rl) (hk : EAL W O m tk Rs Kl) (hp : kArgs (pre i) gV Rl Kl) (hok : ok i) : EL W O (k + m) (tCallK (spF b' pre ok post) gV E tr tk) Rs (post i) := fun σ G H n Q sl w hn kk =>
  ktail ha hk σ G H n _ sl w hn fun vs zs G2 H2 s2 w2 a1 a2 => ⟨i, G2, rel_any w2.r, hok, hp _ _ _ a1 a2, fun u G3 H3 g p => kk u G3 H3 (s2.trans g.g) (w2.go g) p⟩
theorem eln_callk {ι : Type} {pre : ι → List SR} {ok : ι → Prop} {b' : Bool} {post : ι → List α} {tk : TA} {gV : List V → List V → List V} {Rl Kl : List SR} (i : ι) (ha : EAL W O k tr Rs Rl) (hk : EAL W O m tk Rs Kl) (hp : kArgs (pre i) gV Rl Kl) (hok : ok i) : ELN W O (k + m) (tCallK (spN b' pre ok e post) gV E tr tk) Rs e (post i) := fun σ G H n Q sl w hn kk =>
  ktail ha hk σ G H n _ sl w hn fun vs zs G2 H2 s2 w2 a1 a2 => ⟨i, G2, rel_any w2.r, hok, hp _ _ _ a1 a2, fun p vs G3 H3 g h1 h2 h3 h4 h5 => kk p G3 H3 (s2.trans g.g) (w2.fresh (w2.go g) (Nw.of h1) h2 h3 rfl ⟨vs, rfl, h4, h5⟩)⟩
theorem el_callmk {tk : TA} {gV : List V → List V → List V} {Rl Kl : List SR} (i : ι) (ha : EAL W O k tr Rs Rl) (hk : EAL W O m tk Rs Kl) (hp : kArgs (pre i) gV Rl Kl) (hok : ok i) : EL W O (k + m) (tCallK (spM W.tb pre ok post) gV E tr tk) Rs (post i) := fun σ G H n Q sl w hn kk =>
  ktail ha hk σ G H n _ sl w hn fun vs zs G2 H2 s2 w2 a1 a2 => ⟨i, W.s, W.c, _, O, G2, w2, by omega, hok, hp _ _ _ a1 a2, fun v G3 H3 s3 w3 p => kk v G3 H3 (s2.trans s3) w3 p⟩
theorem elo_callmk {post : ι → OR} {tk : TA} {gV : List V → List V → List V} {Rl Kl : List SR} (i : ι) (ha : EAL W O k tr Rs Rl) (hk : EAL W O m tk Rs Kl) (hp : kArgs (pre i) gV Rl Kl) (hok : ok i) : ELO W O (k + m) (tCallK (spMO W.tb pre ok post) gV E tr tk) Rs (post i) := fun σ G H n Q sl w hn kk =>
  ktail ha hk σ G H n _ sl w hn fun vs zs G2 H2 s2 w2 a1 a2 => ⟨i, W.s, W.c, _, O, G2, w2, by omega, hok, hp _ _ _ a1 a2, fun p G3 H3 s3 w3 => kk p G3 H3 (s2.trans s3) w3⟩
end
/-! ### targets -/
theorem wipe_get (σ : L2.St) : ∀ (vs : List Nat) (j : Nat), (L2.wipe σ vs)[j]? = if j ∈ vs then (if j < σ.length then some none else none) else σ[j]?
  | [], j => by simp [L2.wipe]
  | v :: vs, j => by
    show ((L2.wipe σ vs).set v none)[j]? = _
    by_cases h : v = j
    · subst h
      rw [if_pos (List.mem_cons_self ..)]
      by_cases hl : v < σ.length
      · rw [if_pos hl, List.getElem?_set_self (by rw [wipe_length]; exact hl)]
      · rw [if_neg hl, List.getElem?_eq_none (by rw [List.length_set, wipe_length]; omega)]
    · rw [List.getElem?_set_ne h, wipe_get σ vs j]
      have : (j ∈ v :: vs) = (j ∈ vs) := by
        rw [List.mem_cons]
        exact propext ⟨fun z => z.elim (fun q => absurd q.symm h) id, .inr⟩
      simp only [this]
theorem wipe_set {σ : L2.St} {vs : List Nat} {i : Nat} {x : V} (h : i ∈ vs) : L2.wipe (σ.set i (some x)) vs = L2.wipe σ vs := by
  apply List.ext_getElem?
  intro j
  rw [wipe_get, wipe_get, List.length_set]
  by_cases hj : j ∈ vs
  · rw [if_pos hj, if_pos hj]
  · rw [if_neg hj, if_neg hj, List.getElem?_set_ne fun z => hj (by rw [← z]; exact h)]
structure GL (g : TG) (R : SR) (Rs Rs' : RL) (is : List Nat) : Prop where
  h : ∀ (x : V) (σ : L2.St) (G : Hp), Slots G σ Rs → R.p x G → ∃ σ', (∀ (H : Hp) (Q : L2.St → Hp → Prop), Rel true G H → Q σ' H → g x σ H Q) ∧ Slots G σ' Rs' ∧ ∀ vs : List Nat, (∀ i ∈ is, i ∈ vs) → L2.wipe σ' vs = L2.wipe σ vs
theorem gl_name {i : Nat} {R : SR} {Rs : RL} : GL (gName i) R Rs (Rs.set i (some R)) [i] := ⟨fun x σ G sl p => ⟨σ.set i (some x), fun H Q _ q => q, sl.set p, fun vs hv => wipe_set (hv i (List.mem_singleton.mpr rfl))⟩⟩
theorem gl_pr {K : PySem.W.Frag} {α β : Type} {e : α → SR} {f : β → SR} {x : α × β} {g1 g2 : TG} {Rs R1 R2 : RL} {is js : List Nat} (h1 : GL g1 (e x.1) Rs R1 is) (h2 : GL g2 (f x.2) R1 R2 js) : GL (gTup K 2 (gCons g1 (gCons g2 gNil))) (Pr K e f x) Rs R2 (is ++ js) := ⟨fun u σ G sl ⟨a, v, w, e1, e2, e3, e4⟩ => by
  obtain ⟨σ1, q1, s1, w1⟩ := h1.h v σ G sl e3
  obtain ⟨σ2, q2, s2, w2⟩ := h2.h w σ1 G s1 e4
  subst e1
  exact ⟨σ2, fun H Q r q => ⟨a, [v, w], rfl, r.seqT e2, rfl, v, [w], rfl, q1 H _ r ⟨w, [], rfl, q2 H _ r ⟨rfl, q⟩⟩⟩, s2, fun vs hv => (w2 vs fun i hi => hv i (List.mem_append_right _ hi)).trans (w1 vs fun i hi => hv i (List.mem_append_left _ hi))⟩⟩
theorem gl_tr {K : PySem.W.Frag} {α β γ : Type} {e : α → SR} {f : β → SR} {g : γ → SR} {x : α × β × γ} {g1 g2 g3 : TG} {Rs R1 R2 R3 : RL} {is js ks : List Nat} (h1 : GL g1 (e x.1) Rs R1 is) (h2 : GL g2 (f x.2.1) R1 R2 js) (h3 : GL g3 (g x.2.2) R2 R3 ks) : GL (gTup K 3 (gCons g1 (gCons g2 (gCons g3 gNil)))) (Tr K e f g x) Rs R3 (is ++ (js ++ ks)) := ⟨fun u σ G sl ⟨a, v, w, z, e1, e2, e3, e4, e5⟩ => by
  obtain ⟨σ1, q1, s1, w1⟩ := h1.h v σ G sl e3
  obtain ⟨σ2, q2, s2, w2⟩ := h2.h w σ1 G s1 e4
  obtain ⟨σ3, q3, s3, w3⟩ := h3.h z σ2 G s2 e5
  subst e1
  exact ⟨σ3, fun H Q r q => ⟨a, [v, w, z], rfl, r.seqT e2, rfl, v, [w, z], rfl, q1 H _ r ⟨w, [z], rfl, q2 H _ r ⟨z, [], rfl, q3 H _ r ⟨rfl, q⟩⟩⟩⟩, s3, fun vs hv => (w3 vs fun i hi => hv i (List.mem_append_right _ (List.mem_append_right _ hi))).trans ((w2 vs fun i hi => hv i (List.mem_append_right _ (List.mem_append_left _ hi))).trans (w1 vs fun i hi => hv i (List.mem_append_left _ hi)))⟩⟩
/-! ### comprehensions -/
section
variable {W : SC} {O : Own} {k m m2 n : Nat} {Rs : RL} {R R1 R2 R' : SR} {te ta tb : TE} {tr : TA} {α β : Type} {e : α → SR} {xs : List α}
theorem eln_lc {wi : TI} {g : TG} {tt : TT} {vs is : List Nat} {er : β → SR} {fn : α → β} {p : α → Bool} {Ra : α → RL} (hi : EIL W O k wi Rs e xs) (hg : ∀ a, a ∈ xs → GL g (e a) (wipeR Rs vs) (Ra a) is) (ht : ∀ a, a ∈ xs → ∀ O', ETL W O' m tt (Ra a) (p a)) (hb : ∀ a, a ∈ xs → p a = true → ∀ O', EL W O' m2 te (Ra a) (er (fn a))) (his : ∀ i ∈ is, i ∈ vs := by decide) :
    ELN W O (k + xs.length * (m + m2)) (tLc wi g tt te vs) Rs er ((xs.filter p).map fn) := fun σ G H n Q sl w hn kk => by
  refine hi σ G H n _ sl w (by omega) fun J G2 H2 s2 w2 WR D hD => ?_
  have sl2 := (sl.st s2).wipe vs
  refine ⟨fun i z H => z = xs.length - i ∧ i ≤ xs.length ∧ ∃ G', Same G2 G' ∧ Wd W (n + k + i * (m + m2)) ((D, OL er (((xs.take i).filter p).map fn)) :: O) G' H, ⟨xs.length, rfl, Nat.zero_le _, G2, Same.refl _, (w2.own (R := OL er []) hD rfl ⟨[], rfl, Nat.zero_le _, .nil⟩).eq (by omega)⟩, ?_⟩
  rintro i z H ⟨rfl, hi2, G', s', w'⟩
  by_cases hlt : i < xs.length
  · refine .inr ⟨WR.goes i G' H hlt s' w'.r trivial, fun H' => ∃ G', Same G2 G' ∧ Wd W (n + k + (i + 1) * (m + m2)) ((D, OL er (((xs.take (i + 1)).filter p).map fn)) :: O) G' H', fun H' h' => ⟨xs.length - (i + 1), by omega, rfl, hlt, h'⟩, fun x H' y => ?_⟩
    have hxi : xs[i]? = some xs[i] := List.getElem?_eq_getElem hlt
    obtain ⟨G4, g4, pa⟩ := WR.yields i xs[i] G' H x H' hxi s' w'.r trivial y
    have w4 := w'.go g4
    have hm1 : (i + 1) * (m + m2) ≤ xs.length * (m + m2) := Nat.mul_le_mul_right (m + m2) hlt
    have hm2 : (i + 1) * (m + m2) = i * (m + m2) + (m + m2) := by rw [Nat.add_mul, Nat.one_mul]
    obtain ⟨σ', q1, q2, q3⟩ := (hg xs[i] (List.getElem_mem hlt)).h x (L2.wipe σ vs) G4 (sl2.st (s'.trans g4.g)) pa
    refine q1 H' _ w4.r ⟨?_, ?_⟩
    · have : L2.wipe (L2.wipe σ vs) vs = L2.wipe σ vs := by
        apply List.ext_getElem?
        intro j
        rw [wipe_get, wipe_get, wipe_length]
        split <;> rfl
      rw [q3 vs his, this]
    refine ht xs[i] (List.getElem_mem hlt) _ σ' G4 H' _ _ q2 w4 (by omega) fun b G5 H5 s5 w5 eb => ?_
    subst eb
    by_cases hp : p xs[i] = true
    · rw [if_pos hp]
      refine hb xs[i] (List.getElem_mem hlt) hp _ σ' G5 H5 _ _ (q2.st s5) w5 (by omega) fun u G6 H6 s6 w6 pu => ?_
      obtain ⟨_, _, _, ho, h4, _, acc, rfl, h7, h8⟩ := w6.o _ (List.mem_cons_self ..)
      have hl := h8.len
      have hx := WR.len
      have hft : (((xs.take i).filter p).map fn).length ≤ i := by
        rw [List.length_map]
        exact Nat.le_trans (List.length_filter_le _ _) (by rw [List.length_take]; omega)
      have e6 : ((xs.take (i + 1)).filter p).map fn = ((xs.take i).filter p).map fn ++ [fn xs[i]] := by
        rw [take_succ hxi, List.filter_append, List.map_append, List.filter_cons_of_pos hp]
        rfl
      refine ⟨acc, h4, by omega, G6, ((s'.trans g4.g).trans s5).trans s6, ?_⟩
      rw [e6]
      exact (w6.put (R' := OL er (((xs.take i).filter p).map fn ++ [fn xs[i]])) (o := .lst (acc ++ [u])) (fun u ⟨_, e, _⟩ => by rw [e]; rfl) rfl ⟨_, rfl, by rw [List.length_append, List.length_singleton]; omega, h8.snoc pu⟩).eq (by omega)
    · rw [if_neg hp]
      have e6 : ((xs.take (i + 1)).filter p).map fn = ((xs.take i).filter p).map fn := by
        rw [take_succ hxi, List.filter_append, List.filter_cons_of_neg hp, List.filter_nil, List.append_nil]
      refine ⟨G5, (s'.trans g4.g).trans s5, ?_⟩
      rw [e6]
      exact w5.le (by omega)
  · have e0 : i = xs.length := by omega
    subst e0
    rw [List.take_length] at w'
    exact .inl ⟨WR.stops G' H s' w'.r trivial, kk D G' H (s2.trans s') (w'.eq (by omega))⟩
theorem eln_map {wi : TI} {g : TG} {vs is : List Nat} {er : β → SR} {fn : α → β} {Ra : α → RL} (hi : EIL W O k wi Rs e xs) (hg : ∀ a, a ∈ xs → GL g (e a) (wipeR Rs vs) (Ra a) is) (hb : ∀ a, a ∈ xs → ∀ O', EL W O' m2 te (Ra a) (er (fn a))) (his : ∀ i ∈ is, i ∈ vs := by decide) :
    ELN W O (k + xs.length * (0 + m2)) (tLc wi g tYes te vs) Rs er (xs.map fn) := by
  have h := eln_lc (m := 0) (p := fun _ => true) hi hg (fun _ _ _ => etl_yes) (fun a ha _ => hb a ha) his
  rwa [filter_true] at h
theorem eln_lc0 {wi : TI} {g : TG} {tt : TT} {vs is : List Nat} {er : β → SR} {fn : α → β} {p : α → Bool} {Ra : α → RL} (hi : EIL W O k wi Rs e xs) (hg : ∀ a, a ∈ xs → GL g (e a) (wipeR Rs vs) (Ra a) is) (ht : ∀ a, a ∈ xs → ∀ O', ETL W O' 0 tt (Ra a) (p a)) (hb : ∀ a, a ∈ xs → p a = true → ∀ O', EL W O' 0 te (Ra a) (er (fn a))) (his : ∀ i ∈ is, i ∈ vs := by decide) :
    ELN W O k (tLc wi g tt te vs) Rs er ((xs.filter p).map fn) := ELO.le (eln_lc hi hg ht hb his) (by rw [Nat.add_zero, Nat.mul_zero]; exact Nat.le_refl _)
theorem eln_map0 {wi : TI} {g : TG} {vs is : List Nat} {er : β → SR} {fn : α → β} {Ra : α → RL} (hi : EIL W O k wi Rs e xs) (hg : ∀ a, a ∈ xs → GL g (e a) (wipeR Rs vs) (Ra a) is) (hb : ∀ a, a ∈ xs → ∀ O', EL W O' 0 te (Ra a) (er (fn a))) (his : ∀ i ∈ is, i ∈ vs := by decide) :
    ELN W O k (tLc wi g tYes te vs) Rs er (xs.map fn) := ELO.le (eln_map hi hg hb his) (by rw [Nat.add_zero, Nat.mul_zero]; exact Nat.le_refl _)
end
end Gd

-- part Gd42
set_option Elab.async false
set_option linter.all false
set_option maxRecDepth 100000
set_option maxHeartbeats 1000000
/-! ### statements -/
namespace Gd
open PySem PySem.Spec PyProof.Rows L2
universe u
/-- where the code stands -/
def At (W : SC) (G0 : Hp) (n : Nat) (O : Own) (Rs : RL) (σ : L2.St) (H : Hp) : Prop := ∃ G, Same G0 G ∧ Slots G σ Rs ∧ Wd W n O G H
def HL (W : SC) (G0 : Hp) (n : Nat) (O : Own) (Rs : RL) (t : TS) (D : Ends) : Prop := ∀ σ H, At W G0 n O Rs σ H → t D σ H
section
variable {W : SC} {G0 : Hp} {n k m : Nat} {O O' : Own} {Rs Rs' : RL} {R R1 R2 : SR} {te ta tb : TE} {t u : TS} {D : Ends} {α β : Type} {e : α → SR} {xs : List α} {p : Addr} {i j : Nat}
theorem At.le (a : At W G0 n O Rs σ H) (h : n ≤ m) : At W G0 m O Rs σ H := let ⟨G, h1, h2, h3⟩ := a; ⟨G, h1, h2, h3.le h⟩
theorem At.weak {σ : L2.St} {H : Hp} (a : At W G0 n O Rs σ H) (h : ∀ G, Slk G Rs Rs') : At W G0 n O Rs' σ H := let ⟨G, h1, h2, h3⟩ := a; ⟨G, h1, h2.weak (h G), h3⟩
theorem At.drop {σ : L2.St} {H : Hp} (a : At W G0 n O Rs σ H) (h : O'.Sublist O) : At W G0 n O' Rs σ H := let ⟨G, h1, h2, h3⟩ := a; ⟨G, h1, h2, h3.drop h⟩
theorem HL.le (h : HL W G0 m O Rs t D) (q : n ≤ m) : HL W G0 n O Rs t D := fun σ H a => h σ H (a.le q)
theorem HL.weak (h : HL W G0 n O Rs' t D) (q : ∀ G, Slk G Rs Rs') : HL W G0 n O Rs t D := fun σ H a => h σ H (a.weak q)
theorem HL.drop (h : HL W G0 n O' Rs t D) (q : O'.Sublist O) : HL W G0 n O Rs t D := fun σ H a => h σ H (a.drop q)
theorem HL.perm (h : HL W G0 n O' Rs t D) (q : O'.Perm O) : HL W G0 n O Rs t D := fun σ H ⟨G, h1, h2, h3⟩ => h σ H ⟨G, h1, h2, h3.perm q⟩
theorem hl_nx (h : ∀ σ H, At W G0 n O Rs σ H → D.nx σ H) : HL W G0 n O Rs tNext D := h
theorem hl_last (h : HL W G0 n O Rs (tSeq t tNext) D) : HL W G0 n O Rs t D := h
theorem hl_seq (h : HL W G0 n O Rs t { D with nx := u D }) : HL W G0 n O Rs (tSeq t u) D := h
theorem hl_set (h : EL W O k te Rs R) (q : HL W G0 (n + k) O (Rs.set i (some R)) u D) (hn : n + k ≤ 1000000 := by omega) : HL W G0 n O Rs (tSeq (tAsg te (gName i)) u) D := fun σ H ⟨G, s, sl, w⟩ =>
  h σ G H n _ sl w hn fun v G2 H2 s2 w2 p => q _ _ ⟨G2, s.trans s2, (sl.st s2).set p, w2⟩
theorem hl_setX {P : α → Prop} (h : EL W O k te Rs (ExR P e)) (q : ∀ a, P a → HL W G0 (n + k) O (Rs.set i (some (e a))) u D) (hn : n + k ≤ 1000000 := by omega) : HL W G0 n O Rs (tSeq (tAsg te (gName i)) u) D := fun σ H ⟨G, s, sl, w⟩ =>
  h σ G H n _ sl w hn fun v G2 H2 s2 w2 ⟨a, ha, p⟩ => q a ha _ _ ⟨G2, s.trans s2, (sl.st s2).set p, w2⟩
theorem hl_setN {R : OR} (h : ELO W O k te Rs R) (q : ∀ p, HL W G0 (n + k) ((p, R) :: O) (Rs.set i (some (cst (.ref p)))) u D) (hn : n + k ≤ 1000000 := by omega) : HL W G0 n O Rs (tSeq (tAsg te (gName i)) u) D := fun σ H ⟨G, s, sl, w⟩ =>
  h σ G H n _ sl w hn fun p G2 H2 s2 w2 => q p _ _ ⟨G2, s.trans s2, (sl.st s2).set (R := cst (.ref p)) rfl, w2⟩
theorem hl_asg {g : TG} {is : List Nat} (h : EL W O k te Rs R) (hg : GL g R Rs Rs' is) (q : HL W G0 (n + k) O Rs' u D) (hn : n + k ≤ 1000000 := by omega) : HL W G0 n O Rs (tSeq (tAsg te g) u) D := fun σ H ⟨G, s, sl, w⟩ =>
  h σ G H n _ sl w hn fun v G2 H2 s2 w2 p => by
    obtain ⟨σ', h1, h2, _⟩ := hg.h v σ G2 (sl.st s2) p
    exact h1 H2 _ w2.r (q _ _ ⟨G2, s.trans s2, h2, w2⟩)
theorem hl_asgX {P : α → Prop} {g : TG} {is : List Nat} {Rf : α → RL} (h : EL W O k te Rs (ExR P e)) (hg : ∀ a, GL g (e a) Rs (Rf a) is) (q : ∀ a, P a → HL W G0 (n + k) O (Rf a) u D) (hn : n + k ≤ 1000000 := by omega) : HL W G0 n O Rs (tSeq (tAsg te g) u) D := fun σ H ⟨G, s, sl, w⟩ =>
  h σ G H n _ sl w hn fun v G2 H2 s2 w2 ⟨a, ha, p⟩ => by
    obtain ⟨σ', h1, h2, _⟩ := (hg a).h v σ G2 (sl.st s2) p
    exact h1 H2 _ w2.r (q a ha _ _ ⟨G2, s.trans s2, h2, w2⟩)
theorem hl_par (h1 : EL W O k ta Rs R1) (h2 : EL W O m tb Rs R2) (q : HL W G0 (n + (k + m)) O ((Rs.set i (some R1)).set j (some R2)) u D) (hn : n + (k + m) ≤ 1000000 := by omega) : HL W G0 n O Rs (tSeq (tPar i j (tCons ta (tCons tb tNil))) u) D := fun σ H ⟨G, s, sl, w⟩ =>
  h1 σ G H n _ sl w (by omega) fun v G2 H2 s2 w2 p1 => h2 σ G2 H2 (n + k) _ (sl.st s2) w2 (by omega) fun z G3 H3 s3 w3 p2 => ⟨v, z, rfl, q _ _ ⟨G3, (s.trans s2).trans s3, ((sl.st (s2.trans s3)).set (R1.st s3 p1)).set p2, w3.eq (by omega)⟩⟩
/-- the second one new -/
theorem hl_parN {R : OR} (h1 : EL W O k ta Rs R1) (h2 : ELO W O m tb Rs R) (q : ∀ p, HL W G0 (n + (k + m)) ((p, R) :: O) ((Rs.set i (some R1)).set j (some (cst (.ref p)))) u D) (hn : n + (k + m) ≤ 1000000 := by omega) : HL W G0 n O Rs (tSeq (tPar i j (tCons ta (tCons tb tNil))) u) D := fun σ H ⟨G, s, sl, w⟩ =>
  h1 σ G H n _ sl w (by omega) fun v G2 H2 s2 w2 p1 => h2 σ G2 H2 (n + k) _ (sl.st s2) w2 (by omega) fun z G3 H3 s3 w3 => ⟨v, _, rfl, q z _ _ ⟨G3, (s.trans s2).trans s3, ((sl.st (s2.trans s3)).set (R1.st s3 p1)).set (R := cst (.ref z)) rfl, w3.eq (by omega)⟩⟩
theorem hl_if {tt : TT} {c : Bool} {t2 : TS} (h : ETL W O k tt Rs c) (q1 : c = true → HL W G0 (n + k) O Rs t { D with nx := u D }) (q2 : c = false → HL W G0 (n + k) O Rs t2 { D with nx := u D }) (hn : n + k ≤ 1000000 := by omega) : HL W G0 n O Rs (tSeq (tIfS tt t t2) u) D := fun σ H ⟨G, s, sl, w⟩ =>
  h σ G H n _ sl w hn fun b G2 H2 s2 w2 eb => by
    subst eb
    cases b with
    | true => exact q1 rfl _ _ ⟨G2, s.trans s2, sl.st s2, w2⟩
    | false => exact q2 rfl _ _ ⟨G2, s.trans s2, sl.st s2, w2⟩
theorem hl_ifF {tt : TT} (h : ETL W O k tt Rs false) (q : HL W G0 (n + k) O Rs u D) (hn : n + k ≤ 1000000 := by omega) : HL W G0 n O Rs (tSeq (tIfS tt t tNext) u) D := hl_if h (fun h => by cases h) (fun _ => q) hn
theorem hl_ifT {tt : TT} {t2 : TS} (h : ETL W O k tt Rs true) (q : HL W G0 (n + k) O Rs t { D with nx := u D }) (hn : n + k ≤ 1000000 := by omega) : HL W G0 n O Rs (tSeq (tIfS tt t t2) u) D := hl_if h (fun _ => q) (fun h => by cases h) hn
theorem hl_ret {nx bk ct : L2.St → Hp → Prop} {Q : VK} (h : EL W O k te Rs R) (q : ∀ v G H, Same G0 G → Wd W (n + k) O G H → R.p v G → Q v H) (hn : n + k ≤ 1000000 := by omega) : HL W G0 n O Rs (tRet te) ⟨nx, Q, bk, ct⟩ := fun σ H ⟨G, s, sl, w⟩ =>
  h σ G H n _ sl w hn fun v G2 H2 s2 w2 p => q v G2 H2 (s.trans s2) w2 p
theorem hl_retD (h : EL W O k te Rs R) (q : ∀ v G H, Same G0 G → Wd W (n + k) O G H → R.p v G → D.rt v H) (hn : n + k ≤ 1000000 := by omega) : HL W G0 n O Rs (tRet te) D := fun σ H ⟨G, s, sl, w⟩ =>
  h σ G H n _ sl w hn fun v G2 H2 s2 w2 p => q v G2 H2 (s.trans s2) w2 p
theorem hl_retN {R : OR} {nx bk ct : L2.St → Hp → Prop} {Q : VK} (h : ELO W O k te Rs R) (q : ∀ p G H, Same G0 G → Wd W (n + k) ((p, R) :: O) G H → Q (.ref p) H) (hn : n + k ≤ 1000000 := by omega) : HL W G0 n O Rs (tRet te) ⟨nx, Q, bk, ct⟩ := fun σ H ⟨G, s, sl, w⟩ =>
  h σ G H n _ sl w hn fun p G2 H2 s2 w2 => q p G2 H2 (s.trans s2) w2
/-- a new one that is of our own all along -/
theorem hl_retO {R : OR} {nx bk ct : L2.St → Hp → Prop} {Q : VK} (hi : Rs[i]? = some (some (cst (.ref p)))) (q : ∀ G H, Same G0 G → Wd W n ((p, R) :: O) G H → Q (.ref p) H) : HL W G0 n ((p, R) :: O) Rs (tRet (tVar i)) ⟨nx, Q, bk, ct⟩ := fun σ H ⟨G, s, sl, w⟩ => by
  obtain ⟨v, h1, h2⟩ := sl.get i _ hi
  obtain rfl : v = .ref p := h2
  exact ⟨_, h1, q G H s w⟩
theorem hl_drop (h : EL W O k te Rs R) (q : HL W G0 (n + k) O Rs u D) (hn : n + k ≤ 1000000 := by omega) : HL W G0 n O Rs (tSeq (tDrop te) u) D := fun σ H ⟨G, s, sl, w⟩ =>
  h σ G H n _ sl w hn fun v G2 H2 s2 w2 p => q _ _ ⟨G2, s.trans s2, sl.st s2, w2⟩
/-! ### what is owned: frozen, lent, written -/
theorem hl_freeze {Ro : OR} {R : SR} (hc : ∀ o G, Ro.p o G → G p = some o → R.p (.ref p) G) (hi : Rs[i]? = some (some (cst (.ref p)))) (q : HL W G0 n O (Rs.set i (some R)) t D) : HL W G0 n ((p, Ro) :: O) Rs t D := fun σ H ⟨G, s, sl, w⟩ => by
  obtain ⟨o, h1, h2, s3, w3⟩ := w.freeze
  refine q _ _ ⟨_, s.trans s3, (sl.st s3).conv hi fun v hv => ?_, w3⟩
  obtain rfl : v = .ref p := hv
  exact hc o _ (Ro.st s3 h2) upd_same
theorem ol_lst {xs : List α} : ∀ o G, (OL e xs).p o G → G p = some o → (Lst e xs).p (.ref p) G := fun o G ⟨vs, e1, h2, h3⟩ h => ⟨p, vs, rfl, by rw [h, e1], h2, h3⟩
theorem ok_ks {ks : List Str} : ∀ o G, (OKs ks).p o G → G p = some o → (Ks ks).p (.ref p) G := fun o G ⟨kvs, e1, h2, h3⟩ h => ⟨p, kvs, rfl, by rw [h, e1], h2, h3⟩
theorem od_dct {xs : List (Str × α)} : ∀ o G, (ODct e xs).p o G → G p = some o → (Dct e xs).p (.ref p) G := fun o G ⟨kvs, e1, h2, h3⟩ h => ⟨p, kvs, rfl, by rw [h, e1], h2, h3⟩
theorem hl_frzL (hi : Rs[i]? = some (some (cst (.ref p)))) (q : HL W G0 n O (Rs.set i (some (Lst e xs))) t D) : HL W G0 n ((p, OL e xs) :: O) Rs t D := hl_freeze ol_lst hi q
theorem hl_frzK {ks : List Str} (hi : Rs[i]? = some (some (cst (.ref p)))) (q : HL W G0 n O (Rs.set i (some (Ks ks))) t D) : HL W G0 n ((p, OKs ks) :: O) Rs t D := hl_freeze ok_ks hi q
theorem hl_frzD {kvs : List (Str × α)} (hi : Rs[i]? = some (some (cst (.ref p)))) (q : HL W G0 n O (Rs.set i (some (Dct e kvs))) t D) : HL W G0 n ((p, ODct e kvs) :: O) Rs t D := hl_freeze od_dct hi q
/-- told exactly -/
def exO (o : HO) (R : OR) : OR := ⟨fun u G => u = o ∧ R.p u G, fun s ⟨h1, h2⟩ => ⟨h1, R.st s h2⟩⟩
def exAll (F : Addr → HO) (O : Own) : Own := O.map fun q => (q.1, exO (F q.1) q.2)
theorem Wd.exact {G H : Hp} (w : Wd W n O G H) : Wd W n (exAll (fun a => (H a).getD (.lst [])) O) G H :=
  ⟨w.r, w.nt, w.tb, w.d, by
    have : (exAll (fun a => (H a).getD (.lst [])) O).map (·.1) = O.map (·.1) := by
      unfold exAll
      rw [List.map_map]
      rfl
    rw [this]
    exact w.nd, fun q hq => by
    obtain ⟨q0, h0, rfl⟩ := List.mem_map.mp hq
    obtain ⟨h1, h2, h3, ho, h4, h5, h6⟩ := w.o q0 h0
    exact ⟨h1, h2, h3, ho, h4, h5, by show ho = (H q0.1).getD (.lst []); rw [h4]; rfl, h6⟩⟩
/-- what is owned, read as if it were frozen, where the answer tells nothing of the heap -/
theorem eg_lend {ρ : Type} {tt : L2.St → Hp → (ρ → Hp → Prop) → Prop} {P : ρ → Hp → Prop} {Ro : OR} {R : SR} (hc : ∀ o G, Ro.p o G → G p = some o → R.p (.ref p) G) (hi : Rs[i]? = some (some (cst (.ref p)))) (hP : ∀ v G G', P v G → P v G') (h : ∀ F, EG W (exAll F O) k tt (Rs.set i (some R)) P) : EG W ((p, Ro) :: O) k tt Rs P := fun σ G H n Q sl w hn kk => by
  have w0 := w.exact
  obtain ⟨o, h1, ⟨h2a, h2⟩, s3, w3⟩ := w0.freeze
  refine h (fun a => (H a).getD (.lst [])) σ _ H n _ ((sl.st s3).conv hi fun v hv => ?_) w3 hn fun v G2 H2 s2 w2 pv => ?_
  · obtain rfl : v = .ref p := hv
    exact hc o _ (Ro.st s3 h2) upd_same
  · obtain ⟨_, _, n3, _⟩ := w.o _ (List.mem_cons_self ..)
    have sG : Same G G2 := s3.trans s2
    refine kk v G H2 (Same.refl G) ⟨fun a u e => .inl (w2.r.ex (sG a u e)), w.nt, w2.tb, ?_, w.nd, fun q hq => ?_⟩ (hP _ _ _ pv)
    · obtain ⟨d1, d2, d3, d4⟩ := w2.d
      exact ⟨d1, w.d.gs, w.d.gc, d4⟩
    · obtain ⟨q1, q2, q3, ho, q4, q5, q6⟩ := w.o q hq
      refine ⟨q1, q2, q3, ho, ?_, q5, q6⟩
      rcases List.mem_cons.mp hq with rfl | hq
      · rw [h1] at q4
        cases q4
        exact w2.r.ex (s2 _ _ upd_same)
      · obtain ⟨_, _, _, ho', z4, _, z6, _⟩ := w2.o (q.1, exO ((H q.1).getD (.lst [])) q.2) (List.mem_map.mpr ⟨q, hq, rfl⟩)
        rw [z4, z6, q4]
        rfl
theorem etl_lendL {tt : TT} {b : Bool} (hi : Rs[i]? = some (some (cst (.ref p)))) (h : ∀ F, ETL W (exAll F O) k tt (Rs.set i (some (Lst e xs))) b) : ETL W ((p, OL e xs) :: O) k tt Rs b := eg_lend ol_lst hi (fun _ _ _ h => h) h
theorem etl_lendK {tt : TT} {b : Bool} {ks : List Str} (hi : Rs[i]? = some (some (cst (.ref p)))) (h : ∀ F, ETL W (exAll F O) k tt (Rs.set i (some (Ks ks))) b) : ETL W ((p, OKs ks) :: O) k tt Rs b := eg_lend ok_ks hi (fun _ _ _ h => h) h
theorem etl_lendD {tt : TT} {b : Bool} {kvs : List (Str × α)} (hi : Rs[i]? = some (some (cst (.ref p)))) (h : ∀ F, ETL W (exAll F O) k tt (Rs.set i (some (Dct e kvs))) b) : ETL W ((p, ODct e kvs) :: O) k tt Rs b := eg_lend od_dct hi (fun _ _ _ h => h) h
theorem el_lendL {v : V} (hi : Rs[i]? = some (some (cst (.ref p)))) (h : ∀ F, EL W (exAll F O) k te (Rs.set i (some (Lst e xs))) (cst v)) : EL W ((p, OL e xs) :: O) k te Rs (cst v) := eg_lend ol_lst hi (fun _ _ _ h => h) h
/-- p.append(te) -/
theorem hl_push {K : PySem.W.Frag} {a : α} (hi : Rs[i]? = some (some (cst (.ref p)))) (h : EL W ((p, OL e xs) :: O) k te Rs (e a)) (hl : xs.length ≤ 100000) (q : HL W G0 (n + k) ((p, OL e (xs ++ [a])) :: O) Rs u D) (hn : n + k ≤ 1000000 := by omega) : HL W G0 n ((p, OL e xs) :: O) Rs (tSeq (tDrop (tBM K "list" rAppend (tVar i) (tCons te tNil))) u) D := fun σ H ⟨G, s, sl, w⟩ => by
  obtain ⟨v, h1, h2⟩ := sl.get i _ hi
  obtain rfl : v = .ref p := h2
  obtain ⟨_, _, _, o, w4, _, vs, rfl, _⟩ := w.o _ (List.mem_cons_self ..)
  refine ⟨_, h1, .inl ⟨rfl, vs, SqL.of w4⟩, ?_⟩
  show te σ H _
  refine h σ G H n _ sl w hn fun v G2 H2 s2 w2 pv => ?_
  obtain ⟨_, _, _, o, z4, _, ws, rfl, _, al⟩ := w2.o _ (List.mem_cons_self ..)
  have := al.len
  have : sizeLine = 16777216 := sizeLine_eq
  exact ⟨p, ws, v, rfl, rfl, z4, by omega, q _ _ ⟨G2, s.trans s2, sl.st s2, w2.put (fun u ⟨_, e, _⟩ => by rw [e]; rfl) rfl ⟨_, rfl, by rw [List.length_append, List.length_singleton]; omega, al.snoc pv⟩⟩⟩
/-- .. of anything; what is there is not told any more -/
theorem hl_late {K : PySem.W.Frag} (hi : Rs[i]? = some (some (cst (.ref p)))) (h : EL W ((p, OL e xs) :: O) k te Rs R) (hl : xs.length ≤ 100000) (q : HL W G0 (n + k) O Rs u D) (hn : n + k ≤ 1000000 := by omega) : HL W G0 n ((p, OL e xs) :: O) Rs (tSeq (tDrop (tBM K "list" rAppend (tVar i) (tCons te tNil))) u) D := fun σ H ⟨G, s, sl, w⟩ => by
  obtain ⟨v, h1, h2⟩ := sl.get i _ hi
  obtain rfl : v = .ref p := h2
  obtain ⟨_, _, _, o, w4, _, vs, rfl, _⟩ := w.o _ (List.mem_cons_self ..)
  refine ⟨_, h1, .inl ⟨rfl, vs, SqL.of w4⟩, ?_⟩
  show te σ H _
  refine h σ G H n _ sl w hn fun v G2 H2 s2 w2 pv => ?_
  obtain ⟨_, _, _, o, z4, _, ws, rfl, _, al⟩ := w2.o _ (List.mem_cons_self ..)
  have := al.len
  have : sizeLine = 16777216 := sizeLine_eq
  have w3 : Wd W (n + k) ((p, ⟨fun _ _ => True, fun _ h => h⟩) :: O) G2 (upd H2 p (.lst (ws ++ [v]))) := w2.put (fun u ⟨_, e, _⟩ => by rw [e]; rfl) rfl trivial
  exact ⟨p, ws, v, rfl, rfl, z4, by omega, q _ _ ⟨G2, s.trans s2, sl.st s2, w3.drop (List.sublist_cons_self ..)⟩⟩
theorem hl_ext {K : PySem.W.Frag} {ys : List α} (hi : Rs[i]? = some (some (cst (.ref p)))) (h : ELN W ((p, OL e xs) :: O) k te Rs e ys) (hl : xs.length + ys.length ≤ 100000) (q : HL W G0 (n + k) ((p, OL e (xs ++ ys)) :: O) Rs u D) (hn : n + k ≤ 1000000 := by omega) : HL W G0 n ((p, OL e xs) :: O) Rs (tSeq (tDrop (tBM K "list" rExtend (tVar i) (tCons te tNil))) u) D := fun σ H ⟨G, s, sl, w⟩ => by
  obtain ⟨v, h1, h2⟩ := sl.get i _ hi
  obtain rfl : v = .ref p := h2
  obtain ⟨_, _, _, o, w4, _, vs, rfl, _⟩ := w.o _ (List.mem_cons_self ..)
  refine ⟨_, h1, .inl ⟨rfl, vs, SqL.of w4⟩, ?_⟩
  show te σ H _
  refine h σ G H n _ sl w hn fun b G2 H2 s2 w2 => ?_
  obtain ⟨_, _, _, o, z4, _, ws, rfl, _, al⟩ := w2.o _ (List.mem_cons_of_mem _ (List.mem_cons_self ..))
  obtain ⟨_, _, _, o, y4, _, zs, rfl, _, al2⟩ := w2.o _ (List.mem_cons_self ..)
  have := al.len
  have := al2.len
  have : sizeLine = 16777216 := sizeLine_eq
  exact ⟨p, b, ws, zs, rfl, rfl, z4, y4, by omega, q _ _ ⟨G2, s.trans s2, sl.st s2, (w2.drop (List.sublist_cons_self ..)).put (fun u ⟨_, e, _⟩ => by rw [e]; rfl) rfl ⟨_, rfl, by rw [List.length_append]; omega, al.app al2⟩⟩⟩
/-! ### loops -/
theorem hl_for {wi : TI} {g : TG} {tb : TS} {δ : Type} (P : Nat → δ → Prop) (Of : δ → Own) (Rf : δ → RL) (m : Nat) (hi : EIL W O k wi Rs e xs) (d0 : δ) (h0 : P 0 d0) (hO : Of d0 = O) (hR : ∀ G, Slk G Rs (Rf d0))
    (hb : ∀ (i : Nat) (a : α) (d : δ) (D' : Ends) (G1 : Hp), xs[i]? = some a → P i d → D'.rt = D.rt → Same G0 G1 → (∀ d' σ H, P (i + 1) d' → At W G1 (n + k + (i + 1) * m) (Of d') (Rf d') σ H → D'.nx σ H) → n + k + (i + 1) * m ≤ 1000000 → ∃ Rs1 is, GL g (e a) (Rf d) Rs1 is ∧ HL W G1 (n + k + i * m) (Of d) Rs1 tb D')
    (hd : ∀ d, P xs.length d → HL W G0 (n + k + xs.length * m) (Of d) (Rf d) u D) (hn : n + k + xs.length * m ≤ 1000000 := by omega) : HL W G0 n O Rs (tSeq (tFor wi g tb) u) D := fun σ H ⟨G, s, sl, w⟩ => by
  refine hi σ G H n _ sl w (by omega) fun J G2 H2 s2 w2 WR => ?_
  refine ⟨fun i z σ H => z = xs.length - i ∧ i ≤ xs.length ∧ ∃ d, P i d ∧ ∃ G', Same G0 G' ∧ Same G2 G' ∧ Slots G' σ (Rf d) ∧ Wd W (n + k + i * m) (Of d) G' H, ⟨xs.length, rfl, Nat.zero_le _, d0, h0, G2, s.trans s2, Same.refl _, (sl.st s2).weak (hR G2), by rw [hO, Nat.zero_mul]; exact w2⟩, ?_⟩
  rintro i z σ' H' ⟨rfl, hi2, d, hP, G', s0, s', sl', w'⟩
  by_cases hlt : i < xs.length
  · refine .inr ⟨WR.goes i G' H' hlt s' w'.r trivial, fun σ H => ∃ d, P (i + 1) d ∧ ∃ G', Same G0 G' ∧ Same G2 G' ∧ Slots G' σ (Rf d) ∧ Wd W (n + k + (i + 1) * m) (Of d) G' H, fun σ H h' => ⟨xs.length - (i + 1), by omega, rfl, hlt, h'⟩, fun x H'' y => ?_⟩
    have hxi : xs[i]? = some xs[i] := List.getElem?_eq_getElem hlt
    obtain ⟨G4, g4, pa⟩ := WR.yields i xs[i] G' H' x H'' hxi s' w'.r trivial y
    have hm1 : (i + 1) * m ≤ xs.length * m := Nat.mul_le_mul_right m hlt
    obtain ⟨Rs1, is, hg, hh⟩ := hb i xs[i] d { D with nx := fun σ H => ∃ d, P (i + 1) d ∧ ∃ G', Same G0 G' ∧ Same G2 G' ∧ Slots G' σ (Rf d) ∧ Wd W (n + k + (i + 1) * m) (Of d) G' H, ct := fun σ H => ∃ d, P (i + 1) d ∧ ∃ G', Same G0 G' ∧ Same G2 G' ∧ Slots G' σ (Rf d) ∧ Wd W (n + k + (i + 1) * m) (Of d) G' H, bk := u D } G2 hxi hP rfl (s.trans s2) (fun d' σ H hP' ⟨G, z1, z2, z3⟩ => ⟨d', hP', G, (s.trans s2).trans z1, z1, z2, z3⟩) (by omega)
    obtain ⟨σ1, q1, q2, _⟩ := hg.h x σ' G4 (sl'.st g4.g) pa
    exact q1 H'' _ (w'.go g4).r (hh _ _ ⟨G4, s'.trans g4.g, q2, w'.go g4⟩)
  · have e0 : i = xs.length := by omega
    subst e0
    exact .inl ⟨WR.stops G' H' s' w'.r trivial, hd d hP _ _ ⟨G', s0, sl', w'⟩⟩
end
end Gd

-- part Gd43
set_option Elab.async false
set_option linter.all false
set_option maxRecDepth 100000
set_option maxHeartbeats 1000000
/-! ### expressions: the rules for values, made ones for the judgement -/
namespace Gd
open PySem PySem.Spec PyProof.Rows L2
universe u
section
variable {K : PySem.W.Frag} {W : SC} {O : Own} {k m l n : Nat} {Rs : RL} {R R1 R3 R4 : SR} {te ta tb tc : TE} {tr : TA} {ti : TI} {α β γ : Type} {e : α → SR} {f : β → SR} {g : γ → SR} {xs ys : List α}
theorem ev_cR' {b : Bool} {σ : L2.St} {G : Hp} {v : V} (q : R.p v G) : Ev b (tC v) σ G R := ev_cR q
/-! displays -/
theorem eln_lst (xs : List α) (h : EAL W O k tr Rs (xs.map e)) (hl : xs.length ≤ 100000) : ELN W O k (tLst tr) Rs e xs := fun σ G H n Q sl w hn kk => h σ G H n _ sl w hn fun vs G2 H2 s2 w2 al => by
  have al' := AlR.of al
  have hz : vs.length ≤ sizeLine := by rw [al'.len]; exact Nat.le_trans hl (by decide)
  exact ⟨hz, fun p hp => kk p G2 _ s2 (w2.own hp rfl ⟨vs, rfl, hz, al'⟩)⟩
theorem el_tpl (xs : List α) (h : EAL W O k tr Rs (xs.map e)) (hl : xs.length ≤ 100000) : EL W O k (tTup tr) Rs (Tpl K e xs) := fun σ G H n Q sl w hn kk => h σ G H n _ sl w hn fun vs G2 H2 s2 w2 al => by
  have al' := AlR.of al
  have hz : vs.length ≤ sizeLine := by rw [al'.len]; exact Nat.le_trans hl (by decide)
  exact ⟨hz, fun p hp => kk (.ref p) (upd G2 p (.tup vs)) _ (s2.trans (Same.new (w2.r.free hp))) (w2.new hp rfl) ⟨p, vs, rfl, SqT.of upd_same, hz, al'.st (Same.new (w2.r.free hp))⟩⟩
theorem el_tup0 : EL W O 0 (tTup tNil) Rs (Tpl K e []) := el_tpl [] eal_nil (Nat.zero_le _)
theorem el_pr {x : α} {y : β} (h1 : EL W O k ta Rs (e x)) (h2 : EL W O m tb Rs (f y)) : EL W O (k + m) (tTup (tCons ta (tCons tb tNil))) Rs (Pr K e f (x, y)) := fun σ G H n Q sl w hn kk =>
  h1 σ G H n _ sl w (by omega) fun v G2 H2 s2 w2 p1 => h2 σ G2 H2 (n + k) _ (sl.st s2) w2 (by omega) fun z G3 H3 s3 w3 p2 => ⟨(by show 2 ≤ sizeLine; decide), fun p hp => by
    have s := Same.new (o := .tup [v, z]) (w3.r.free hp)
    exact kk (.ref p) _ _ ((s2.trans s3).trans s) ((w3.new (o := .tup [v, z]) hp rfl).eq (by omega)) ⟨p, v, z, rfl, SqT.of upd_same, (e x).st s ((e x).st s3 p1), (f y).st s p2⟩⟩
theorem el_tr {x : α} {y : β} {z : γ} (h1 : EL W O k ta Rs (e x)) (h2 : EL W O m tb Rs (f y)) (h3 : EL W O l tc Rs (g z)) : EL W O (k + m + l) (tTup (tCons ta (tCons tb (tCons tc tNil)))) Rs (Tr K e f g (x, y, z)) := fun σ G H n Q sl w hn kk =>
  h1 σ G H n _ sl w (by omega) fun v G2 H2 s2 w2 p1 => h2 σ G2 H2 (n + k) _ (sl.st s2) w2 (by omega) fun z G3 H3 s3 w3 p2 => h3 σ G3 H3 (n + k + m) _ (sl.st (s2.trans s3)) w3 (by omega) fun u G4 H4 s4 w4 p3 => ⟨(by show 3 ≤ sizeLine; decide), fun p hp => by
    have s := Same.new (o := .tup [v, z, u]) (w4.r.free hp)
    exact kk (.ref p) _ _ (((s2.trans s3).trans s4).trans s) ((w4.new (o := .tup [v, z, u]) hp rfl).eq (by omega)) ⟨p, v, z, u, rfl, SqT.of upd_same, (e _).st s ((e _).st (s3.trans s4) p1), (f _).st s ((f _).st s4 p2), (g _).st s p3⟩⟩
/-! operators -/
theorem el_o2 {r2 : R2} (ha : EL W O k ta Rs R1) (hb : EL W O m tb Rs R3) (hr : ∀ (x y : V) (σ : L2.St) (G : Hp), R1.p x G → R3.p y G → Ev true (tOp r2 (tC x) (tC y)) σ G R) : EL W O (k + m) (tOp r2 ta tb) Rs R := el_f2 (fun a b => tOp r2 a b) ha hb hr
theorem eln_o2 {r2 : R2} (ha : EL W O k ta Rs R1) (hb : EL W O m tb Rs R3) (hr : ∀ (x y : V) (σ : L2.St) (G : Hp), R1.p x G → R3.p y G → EvN true (tOp r2 (tC x) (tC y)) σ G e xs) : ELN W O (k + m) (tOp r2 ta tb) Rs e xs := eln_f2 (fun a b => tOp r2 a b) ha hb hr
theorem el_in {s : Str} {xs : List Str} (ha : EL W O k ta Rs (S s)) (hb : EL W O m tb Rs (Sq K S xs)) : EL W O (k + m) (tOp (rIn K false) ta tb) Rs (B (decide (s ∈ xs))) := el_o2 ha hb fun _ _ _ _ p q => ev_in (ev_cR' p) (ev_cR' q)
theorem el_notin {s : Str} {xs : List Str} (ha : EL W O k ta Rs (S s)) (hb : EL W O m tb Rs (Sq K S xs)) : EL W O (k + m) (tOp (rIn K true) ta tb) Rs (B (!decide (s ∈ xs))) := el_o2 ha hb fun _ _ _ _ p q => ev_notin (ev_cR' p) (ev_cR' q)
theorem el_eqS {x y : Str} (ha : EL W O k ta Rs (S x)) (hb : EL W O m tb Rs (S y)) : EL W O (k + m) (tOp rEq ta tb) Rs (B (decide (x = y))) := el_o2 ha hb fun _ _ _ _ p q => ev_eqS (ev_cR' p) (ev_cR' q)
theorem el_neS {x y : Str} (ha : EL W O k ta Rs (S x)) (hb : EL W O m tb Rs (S y)) : EL W O (k + m) (tOp rNe ta tb) Rs (B (!decide (x = y))) := el_o2 ha hb fun _ _ _ _ p q => ev_neS (ev_cR' p) (ev_cR' q)
theorem el_eqI {x y : Int} (ha : EL W O k ta Rs (I x)) (hb : EL W O m tb Rs (I y)) : EL W O (k + m) (tOp rEq ta tb) Rs (B (decide (x = y))) := el_o2 ha hb fun _ _ _ _ p q => ev_eqI (ev_cR' p) (ev_cR' q)
theorem el_neI {x y : Int} (ha : EL W O k ta Rs (I x)) (hb : EL W O m tb Rs (I y)) : EL W O (k + m) (tOp rNe ta tb) Rs (B (!decide (x = y))) := el_o2 ha hb fun _ _ _ _ p q => ev_neI (ev_cR' p) (ev_cR' q)
theorem el_neB {x y : Bool} (ha : EL W O k ta Rs (B x)) (hb : EL W O m tb Rs (B y)) : EL W O (k + m) (tOp rNe ta tb) Rs (B (!decide (x = y))) := el_o2 ha hb fun _ _ _ _ p q => ev_neB (ev_cR' p) (ev_cR' q)
theorem el_I0 {h : Int → Int → V} {x y : Int} (ha : EL W O k ta Rs (I x)) (hb : EL W O m tb Rs (I y)) : EL W O (k + m) (tOp (rI0 h) ta tb) Rs (cst (h x y)) := el_o2 ha hb fun _ _ _ _ p q => ev_I0 (ev_cR' p) (ev_cR' q)
theorem el_addI {x y : Int} (ha : EL W O k ta Rs (I x)) (hb : EL W O m tb Rs (I y)) : EL W O (k + m) (tOp (rI0 fun i j => .int (i + j)) ta tb) Rs (I (x + y)) := el_I0 ha hb
theorem el_subI {x y : Int} (ha : EL W O k ta Rs (I x)) (hb : EL W O m tb Rs (I y)) : EL W O (k + m) (tOp (rI0 fun i j => .int (i - j)) ta tb) Rs (I (x - y)) := el_I0 ha hb
theorem el_ltI {x y : Int} (ha : EL W O k ta Rs (I x)) (hb : EL W O m tb Rs (I y)) : EL W O (k + m) (tOp (rI0 fun i j => .bl (decide (i < j))) ta tb) Rs (B (decide (x < y))) := el_I0 ha hb
theorem el_eqD [DecidableEq α] {x y : α} {c : α → PyData} {n : Nat} (E : Enc K e c n) (Q : EqE c) (ha : EL W O k ta Rs (e x)) (hb : EL W O m tb Rs (e y)) (hn : n ≤ 64 := by decide) : EL W O (k + m) (tOp (rEqD K) ta tb) Rs (B (decide (x = y))) := el_o2 ha hb fun _ _ _ _ p q => ev_eqD (ev_cR' p) (ev_cR' q) E Q hn
theorem el_neD [DecidableEq α] {x y : α} {c : α → PyData} {n : Nat} (E : Enc K e c n) (Q : EqE c) (ha : EL W O k ta Rs (e x)) (hb : EL W O m tb Rs (e y)) (hn : n ≤ 64 := by decide) : EL W O (k + m) (tOp (rNeD K) ta tb) Rs (B (!decide (x = y))) := el_o2 ha hb fun _ _ _ _ p q => ev_neD (ev_cR' p) (ev_cR' q) E Q hn
theorem el_inD [DecidableEq α] {x : α} {c : α → PyData} {n : Nat} (E : Enc K e c n) (Q : EqE c) (ha : EL W O k ta Rs (e x)) (hb : EL W O m tb Rs (Lst e xs)) (hn : n ≤ 63 := by decide) : EL W O (k + m) (tOp (rInD K) ta tb) Rs (B (decide (x ∈ xs))) := el_o2 ha hb fun _ _ _ _ p q => ev_inD (ev_cR' p) (ev_cR' q) E Q hn
theorem el_inK {s : Str} {ks : List Str} (ha : EL W O k ta Rs (S s)) (hb : EL W O m tb Rs (Ks ks)) : EL W O (k + m) (tDIn ta tb) Rs (B (decide (s ∈ ks))) := el_f2 (fun a b => tDIn a b) ha hb fun _ _ _ _ p q => ev_inK (ev_cR' p) (ev_cR' q)
theorem el_notinK {s : Str} {ks : List Str} (ha : EL W O k ta Rs (S s)) (hb : EL W O m tb Rs (Ks ks)) : EL W O (k + m) (tDNotIn ta tb) Rs (B (!decide (s ∈ ks))) := el_f2 (fun a b => tDNotIn a b) ha hb fun _ _ _ _ p q => ev_notinK (ev_cR' p) (ev_cR' q)
theorem el_dget {kvs : List (Str × α)} {s : Str} {a : α} (ha : EL W O k ta Rs (Dct e kvs)) (hb : EL W O m tb Rs (S s)) (hk : kvs.lookup s = some a) : EL W O (k + m) (tDGet ta tb) Rs (e a) := el_f2 (fun a b => tDGet a b) ha hb fun _ _ _ _ p q => ev_dget (ev_cR' p) (ev_cR' q) hk
theorem eln_cat (ha : EL W O k ta Rs (Lst e xs)) (hb : EL W O m tb Rs (Lst e ys)) (hz : xs.length + ys.length ≤ 100000) : ELN W O (k + m) (tOp rCat ta tb) Rs e (xs ++ ys) := eln_o2 ha hb fun _ _ _ _ p q => en_cat (ev_cR' p) (ev_cR' q) hz
theorem el_catT (ha : EL W O k ta Rs (Tpl K e xs)) (hb : EL W O m tb Rs (Tpl K e ys)) (hz : xs.length + ys.length ≤ 100000) : EL W O (k + m) (tOp (rCatA K) ta tb) Rs (Tpl K e (xs ++ ys)) := el_o2 ha hb fun _ _ _ _ p q => ev_catT (ev_cR' p) (ev_cR' q) hz
theorem el_ixL {i : Int} {j : Nat} {a : α} (ha : EL W O k ta Rs (Lst e xs)) (hb : EL W O m tb Rs (I i)) (hi : i = (j : Int)) (hx : xs[j]? = some a) : EL W O (k + m) (tOp (rIx K) ta tb) Rs (e a) := el_o2 ha hb fun _ _ _ _ p q => ev_ixL (ev_cR' p) (ev_cR' q) hi hx
theorem el_ixT {i : Int} {j : Nat} {a : α} (ha : EL W O k ta Rs (Tpl K e xs)) (hb : EL W O m tb Rs (I i)) (hi : i = (j : Int)) (hx : xs[j]? = some a) : EL W O (k + m) (tOp (rIx K) ta tb) Rs (e a) := el_o2 ha hb fun _ _ _ _ p q => ev_ixT (ev_cR' p) (ev_cR' q) hi hx
theorem el_ixP1 {x : α} {y : β} (ha : EL W O k ta Rs (Pr K e f (x, y))) : EL W O k (tOp (rIx K) ta (tC (.int 0))) Rs (e x) := el_f1 (fun a => tOp (rIx K) a (tC (.int 0))) ha fun _ _ _ p => ev_ixP1 (ev_cR' p)
theorem el_ixP2 {x : α} {y : β} (ha : EL W O k ta Rs (Pr K e f (x, y))) : EL W O k (tOp (rIx K) ta (tC (.int 1))) Rs (f y) := el_f1 (fun a => tOp (rIx K) a (tC (.int 1))) ha fun _ _ _ p => ev_ixP2 (ev_cR' p)
/-! builtins -/
theorem el_len (ha : EL W O k te Rs (Sq K e xs)) : EL W O k (tCB (rLen K) (tCons te tNil)) Rs (I (xs.length : Nat)) := el_f1 (fun a => tCB (rLen K) (tCons a tNil)) ha fun _ _ _ p => ev_len (ev_cR' p)
theorem el_lenS {s : Str} (ha : EL W O k te Rs (S s)) : EL W O k (tCB rLenS (tCons te tNil)) Rs (I (s.length : Nat)) := el_f1 (fun a => tCB rLenS (tCons a tNil)) ha fun _ _ _ p => ev_lenS (ev_cR' p)
theorem el_lenD {ks : List Str} (ha : EL W O k te Rs (Ks ks)) : EL W O k (tCB rLenD (tCons te tNil)) Rs (I (ks.length : Nat)) := el_f1 (fun a => tCB rLenD (tCons a tNil)) ha fun _ _ _ p => ev_lenD (ev_cR' p)
theorem el_all {bs : List Bool} (ha : EL W O k te Rs (Lst B bs)) : EL W O k (tCB (rAll K) (tCons te tNil)) Rs (B (bs.all id)) := el_f1 (fun a => tCB (rAll K) (tCons a tNil)) ha fun _ _ _ p => ev_all (ev_cR' p)
theorem el_any {bs : List Bool} (ha : EL W O k te Rs (Lst B bs)) : EL W O k (tCB (rAny K) (tCons te tNil)) Rs (B (bs.any id)) := el_f1 (fun a => tCB (rAny K) (tCons a tNil)) ha fun _ _ _ p => ev_any (ev_cR' p)
theorem el_allL {p : α → Bool} (ha : ELN W O k te Rs B (xs.map p)) : EL W O k (tCB (rAll K) (tCons te tNil)) Rs (B (xs.all p)) := EL.eq (el_all ha.el) (by rw [List.all_map]; rfl)
theorem el_anyL {p : α → Bool} (ha : ELN W O k te Rs B (xs.map p)) : EL W O k (tCB (rAny K) (tCons te tNil)) Rs (B (xs.any p)) := EL.eq (el_any ha.el) (by rw [List.any_map]; rfl)
theorem eln_list (ha : EL W O k te Rs (Sq K e xs)) : ELN W O k (tCB (rListOf K) (tCons te tNil)) Rs e xs := eln_f1 (fun a => tCB (rListOf K) (tCons a tNil)) ha fun _ _ _ p => en_list (ev_cR' p)
theorem el_tupleL (ha : EL W O k te Rs (Lst e xs)) : EL W O k (tCB (rTupOf K) (tCons te tNil)) Rs (Tpl K e xs) := el_f1 (fun a => tCB (rTupOf K) (tCons a tNil)) ha fun _ _ _ p => ev_tupleL (ev_cR' p)
theorem eln_sorted {c : α → PyData} {n : Nat} (E : Enc K e c n) (A : Alk c) (hk : Sortable2 (xs.map c)) (ha : EL W O k te Rs (Sq K e xs)) (hn : n ≤ 60 := by decide) : ELN W O k (tCB (rSrt K) (tCons te tNil)) Rs e (xs.mergeSort (PySem.W.dataLe false c)) := eln_f1 (fun a => tCB (rSrt K) (tCons a tNil)) ha fun _ _ _ p => en_sorted (ev_cR' p) E A hk hn
theorem eln_sortedS {xs : List Str} (ha : EL W O k te Rs (Sq K S xs)) : ELN W O k (tCB (rSrt K) (tCons te tNil)) Rs S (srt PyData.str xs) := eln_sorted enc_S alk_S (sortable_S xs) ha
theorem eln_sortedK {ks : List Str} (ha : EL W O k te Rs (Ks ks)) (hl : ks.length < 64) (hok : ∀ k ∈ ks, okS k = true) : ELN W O k (tCB rSrtD (tCons te tNil)) Rs S (srt PyData.str ks) := eln_f1 (fun a => tCB rSrtD (tCons a tNil)) ha fun _ _ _ p => en_sortedK (ev_cR' p) hl hok
theorem el_isi {T n : String} {r : Bool} (ht : HasTy K R T) (ha : EL W O k ta Rs R) (hk : kitB T n = some r := by decide +kernel) : EL W O k (tCB (rIsi K) (tCons ta (tCons (tC (.ty n)) tNil))) Rs (B r) := el_f1 (fun a => tCB (rIsi K) (tCons a (tCons (tC (.ty n)) tNil))) ha fun _ _ _ p => ev_isi (ev_cR' p) ht hk
theorem eln_listVals {kvs : List (Str × α)} (ha : EL W O k ta Rs (Dct e kvs)) : ELN W O k (tListVals ta) Rs e (kvs.map (·.2)) := eln_f1 (fun a => tListVals a) ha fun _ _ _ p => en_listVals (ev_cR' p)
/-! slices -/
theorem eol_none : EOL W O 0 tNoPart Rs none := fun σ G H n Q sl w hn kk => kk none G H (Same.refl G) w rfl
theorem eol_some {i : Int} (h : EL W O k te Rs (I i)) : EOL W O k (tPart te) Rs (some i) := fun σ G H n Q sl w hn kk => h σ G H n _ sl w hn fun v G2 H2 s2 w2 p => ⟨i, p, kk _ G2 H2 s2 w2 rfl⟩
theorem eln_takeL {i : Nat} (ha : EL W O k te Rs (Lst e xs)) (hb : EL W O m tb Rs (I (i : Nat))) : ELN W O (k + m) (tSl (rSlL K) te tNoPart (tPart tb)) Rs e (xs.take i) := eln_f2 (fun a b => tSl (rSlL K) a tNoPart (tPart b)) ha hb fun _ _ _ _ p q => en_takeL (ev_cR' p) (eo_some (ev_cR' q))
theorem el_takeQ {i : Nat} (ha : EL W O k te Rs (Sq K e xs)) (hb : EL W O m tb Rs (I (i : Nat))) : EL W O (k + m) (tSl (rSlA2 K) te tNoPart (tPart tb)) Rs (Sq K e (xs.take i)) := el_f2 (fun a b => tSl (rSlA2 K) a tNoPart (tPart b)) ha hb fun _ _ _ _ p q => ev_takeQ (ev_cR' p) (eo_some (ev_cR' q))
/-! iterators -/
theorem eil_f1 (F : TE → TI) (h : EL W O k te Rs R1) (hr : ∀ (v : V) (σ : L2.St) (G : Hp), R1.p v G → EvI true (F (tC v)) σ G e xs) (hF : ∀ (σ : L2.St) (H : Hp) (Q : It → Hp → Prop), (te σ H fun v H1 => F (tC v) σ H1 Q) → F te σ H Q := by exact fun _ _ _ h => h) : EIL W O k (F te) Rs e xs := fun σ G H n Q sl w hn kk =>
  hF _ _ _ (h σ G H n _ sl w hn fun v G2 H2 s2 w2 p => (hr v σ G2 p).run w2.r fun J G3 H3 g3 pu => kk J G3 H3 (s2.trans g3.g) (w2.go g3) pu)
theorem eil_f2 (F : TE → TE → TI) (ha : EL W O k ta Rs R1) (hb : EL W O m tb Rs R3) (hr : ∀ (x y : V) (σ : L2.St) (G : Hp), R1.p x G → R3.p y G → EvI true (F (tC x) (tC y)) σ G e xs) (hF : ∀ (σ : L2.St) (H : Hp) (Q : It → Hp → Prop), (ta σ H fun x H1 => tb σ H1 fun y H2 => F (tC x) (tC y) σ H2 Q) → F ta tb σ H Q := by exact fun _ _ _ h => h) : EIL W O (k + m) (F ta tb) Rs e xs := fun σ G H n Q sl w hn kk =>
  hF _ _ _ (ha σ G H n _ sl w (by omega) fun x G2 H2 s2 w2 px => hb σ G2 H2 (n + k) _ (sl.st s2) w2 (by omega) fun y G3 H3 s3 w3 py => (hr x y σ G3 (R1.st s3 px) py).run w3.r fun J G4 H4 g4 pu => kk J G4 H4 ((s2.trans s3).trans g4.g) ((w3.go g4).eq (by omega)) pu)
theorem eil_sq (h : EL W O k te Rs (Sq K e xs)) : EIL W O k (iSeq K te) Rs e xs := eil_f1 (fun a => iSeq K a) h fun _ _ _ p => ei_sq (ev_cR' p)
theorem eil_range1 {i : Int} (h : EL W O k te Rs (I i)) (h0 : 0 ≤ i) (h1 : i ≤ 100000) : EIL W O k (iRng1 (tCons te tNil)) Rs (fun i : Nat => I (0 + (i : Nat))) (List.range i.toNat) := eil_f1 (fun a => iRng1 (tCons a tNil)) h fun _ _ _ p => ei_range1 (ev_cR' p) h0 h1
theorem eil_enum (h : EL W O k te Rs (Sq K e xs)) : EIL W O k (iEnumA K (tCons te tNil)) Rs (Pr K I e) (enumI xs) := eil_f1 (fun a => iEnumA K (tCons a tNil)) h fun _ _ _ p => ei_enum (ev_cR' p)
theorem eil_zipL {ys : List β} (ha : EL W O k ta Rs (Lst e xs)) (hb : EL W O m tb Rs (Lst f ys)) : EIL W O (k + m) (RZ.iZipA K (tCons ta (tCons tb tNil))) Rs (Pr K e f) (xs.zip ys) := eil_f2 (fun a b => RZ.iZipA K (tCons a (tCons b tNil))) ha hb fun _ _ _ _ p q => ei_zipL (ev_cR' p) (ev_cR' q)
/-- {..} of unlike keys -/
theorem el_dc {wi : TI} {g : TG} {tk tv : TE} {vs : List Nat} {er : β → SR} {ky : α → Str} {fn : α → β} (h : ∀ (σ : L2.St) (G : Hp), Slots G σ Rs → Ev true (tDc wi g tYes tk tv vs) σ G (Dct er (xs.map fun a => (ky a, fn a)))) : EL W O 0 (tDc wi g tYes tk tv vs) Rs (Dct er (xs.map fun a => (ky a, fn a))) := el_ev h
end
end Gd

-- part Gd44
set_option Elab.async false
set_option linter.all false
set_option maxRecDepth 100000
set_option maxHeartbeats 1000000
/-! ### several things that are owned; walks of what is told but in part -/
namespace Gd
open PySem PySem.Spec PyProof.Rows L2
universe u
section
variable {W : SC} {n m k : Nat} {O O' L : Own} {G H G2 H2 G0 : Hp} {p : Addr} {o : HO} {R R' : OR}
theorem Wd.freshAll (w : Wd W n O G H) (w2 : Wd W m O G2 H2) (nd : (L.map (·.1)).Nodup) (h : ∀ q ∈ L, Nw H q.1 ∧ G2 q.1 = none ∧ ∃ o, H2 q.1 = some o ∧ isTT o = false ∧ q.2.p o G2) : Wd W m (L ++ O) G2 H2 := by
  obtain ⟨_, _, _, _, _, _, _, es, ec, _⟩ := w.d
  refine ⟨w2.r, w2.nt, w2.tb, w2.d, ?_, fun q hq => ?_⟩
  · rw [List.map_append, List.nodup_append]
    refine ⟨nd, w2.nd, fun a ha b hb e => ?_⟩
    obtain ⟨q, hq, rfl⟩ := List.mem_map.mp ha
    obtain ⟨q', hq', rfl⟩ := List.mem_map.mp hb
    obtain ⟨h1, _⟩ := h q hq
    obtain ⟨_, _, _, u, h4, h5, _⟩ := w.o q' hq'
    exact h1.ne h4 (tt_tb h5) e.symm
  · rcases List.mem_append.mp hq with hq | hq
    · obtain ⟨h1, h2, o, h3, h4, h5⟩ := h q hq
      exact ⟨fun z => h1.ne es rfl z.symm, fun z => h1.ne ec rfl z.symm, h2, o, h3, h4, h5⟩
    · exact w2.o q hq
theorem Wd.freezeAll : ∀ {L : Own} {G : Hp}, Wd W n (L ++ O) G H → ∃ G2, Same G G2 ∧ Wd W n O G2 H ∧ ∀ q ∈ L, ∃ o, H q.1 = some o ∧ G2 q.1 = some o ∧ q.2.p o G2
  | [], G, w => ⟨G, Same.refl G, w, fun q h => by cases h⟩
  | (p, R) :: L, G, w => by
    obtain ⟨o, h1, h2, s2, w2⟩ := Wd.freeze (O := L ++ O) w
    obtain ⟨G2, s3, w3, h3⟩ := Wd.freezeAll w2
    refine ⟨G2, s2.trans s3, w3, fun q hq => ?_⟩
    rcases List.mem_cons.mp hq with rfl | hq
    · exact ⟨o, h1, s3 _ _ upd_same, R.st (s2.trans s3) h2⟩
    · exact h3 q hq
end
section
variable {K : PySem.W.Frag} {W : SC} {G0 : Hp} {n k m : Nat} {O O' L : Own} {Rs Rs' : RL} {R : SR} {te ta tb to : TE} {t u : TS} {D : Ends} {α β : Type} {e : α → SR} {xs : List α} {p : Addr} {i j : Nat}
theorem hl_freezeAll (hc : ∀ G, (∀ q ∈ L, ∃ o, G q.1 = some o ∧ q.2.p o G) → R.p (.ref p) G) (hi : Rs[i]? = some (some (cst (.ref p)))) (q : HL W G0 n O (Rs.set i (some R)) t D) : HL W G0 n (L ++ O) Rs t D := fun σ H ⟨G, s, sl, w⟩ => by
  obtain ⟨G2, s3, w3, h3⟩ := w.freezeAll
  refine q _ _ ⟨G2, s.trans s3, (sl.st s3).conv hi fun v hv => ?_, w3⟩
  obtain rfl : v = .ref p := hv
  exact hc G2 fun q hq => let ⟨o, _, h2, h4⟩ := h3 q hq; ⟨o, h2, h4⟩
theorem exAll_app (F : Addr → HO) (L O : Own) : exAll F (L ++ O) = exAll F L ++ exAll F O := List.map_append
theorem eg_lendAll {ρ : Type} {tt : L2.St → Hp → (ρ → Hp → Prop) → Prop} {P : ρ → Hp → Prop} (hc : ∀ G, (∀ q ∈ L, ∃ o, G q.1 = some o ∧ q.2.p o G) → R.p (.ref p) G) (hi : Rs[i]? = some (some (cst (.ref p)))) (hP : ∀ v G G', P v G → P v G') (h : ∀ F, EG W (exAll F O) k tt (Rs.set i (some R)) P) : EG W (L ++ O) k tt Rs P := fun σ G H n Q sl w hn kk => by
  have w0 := w.exact
  rw [exAll_app] at w0
  obtain ⟨Gf, s3, w3, h3⟩ := w0.freezeAll
  refine h (fun a => (H a).getD (.lst [])) σ _ H n _ ((sl.st s3).conv hi fun v hv => ?_) w3 hn fun v G2 H2 s2 w2 pv => ?_
  · obtain rfl : v = .ref p := hv
    refine hc Gf fun q hq => ?_
    obtain ⟨o, _, h2, _, h4⟩ := h3 (q.1, exO ((H q.1).getD (.lst [])) q.2) (List.mem_map.mpr ⟨q, hq, rfl⟩)
    exact ⟨o, h2, h4⟩
  · have sG : Same G G2 := s3.trans s2
    refine kk v G H2 (Same.refl G) ⟨fun a u e => .inl (w2.r.ex (sG a u e)), w.nt, w2.tb, ?_, w.nd, fun q hq => ?_⟩ (hP _ _ _ pv)
    · obtain ⟨d1, d2, d3, d4⟩ := w2.d
      exact ⟨d1, w.d.gs, w.d.gc, d4⟩
    · obtain ⟨q1, q2, q3, ho, q4, q5, q6⟩ := w.o q hq
      refine ⟨q1, q2, q3, ho, ?_, q5, q6⟩
      rcases List.mem_append.mp hq with hq | hq
      · obtain ⟨o, z1, z2, z3, _⟩ := h3 (q.1, exO ((H q.1).getD (.lst [])) q.2) (List.mem_map.mpr ⟨q, hq, rfl⟩)
        rw [q4] at z1
        cases z1
        exact w2.r.ex (s2 _ _ z2)
      · obtain ⟨_, _, _, ho', z4, _, z6, _⟩ := w2.o (q.1, exO ((H q.1).getD (.lst [])) q.2) (List.mem_map.mpr ⟨q, hq, rfl⟩)
        rw [z4, z6, q4]
        rfl
theorem etl_lendAll {tt : TT} {b : Bool} (hc : ∀ G, (∀ q ∈ L, ∃ o, G q.1 = some o ∧ q.2.p o G) → R.p (.ref p) G) (hi : Rs[i]? = some (some (cst (.ref p)))) (h : ∀ F, ETL W (exAll F O) k tt (Rs.set i (some R)) b) : ETL W (L ++ O) k tt Rs b := eg_lendAll hc hi (fun _ _ _ h => h) h
/-- an owned dict, read at a key -/
def OEx (o : HO) : OR := ⟨fun u _ => u = o, fun _ h => h⟩
theorem el_dgetO {M : Addr} {kvs : List (Key × V)} {s : Str} {v : V} {ty : TE} (hi : Rs[i]? = some (some (cst (.ref M)))) (hM : (M, OEx (.dK kvs)) ∈ O) (hb : EL W O k ty Rs (S s)) (hv : valV kvs (Sum.inr s : Key) = some v) : EL W O k (tDGet (tVar i) ty) Rs (cst v) := fun σ G H n Q sl w hn kk => by
  obtain ⟨x, h1, h2⟩ := sl.get i _ hi
  obtain rfl : x = .ref M := h2
  refine ⟨_, h1, hb σ G H n _ sl w hn fun y G2 H2 s2 w2 ⟨q, _⟩ => ?_⟩
  subst q
  obtain ⟨_, _, _, o, h4, _, rfl⟩ := w2.o _ hM
  exact ⟨M, v, rfl, .inl ⟨kvs, Sum.inr s, .inl h4, rfl, hv.symm⟩, kk v G2 H2 s2 w2 rfl⟩
/-- (some expression).append(te) -/
theorem hl_pushE {a : α} (ho : EL W ((p, OL e xs) :: O) k to Rs (cst (.ref p))) (h : EL W ((p, OL e xs) :: O) m te Rs (e a)) (hl : xs.length ≤ 100000) (q : HL W G0 (n + (k + m)) ((p, OL e (xs ++ [a])) :: O) Rs u D) (hn : n + (k + m) ≤ 1000000 := by omega) : HL W G0 n ((p, OL e xs) :: O) Rs (tSeq (tDrop (tBM K "list" rAppend to (tCons te tNil))) u) D := fun σ H ⟨G, s, sl, w⟩ => by
  refine ho σ G H n _ sl w (by omega) fun v G1 H1 s1 w1 hv => ?_
  obtain rfl : v = .ref p := hv
  obtain ⟨_, _, _, o, w4, _, vs, rfl, _⟩ := w1.o _ (List.mem_cons_self ..)
  refine ⟨.inl ⟨rfl, vs, SqL.of w4⟩, ?_⟩
  show te σ H1 _
  refine h σ G1 H1 (n + k) _ (sl.st s1) w1 (by omega) fun v G2 H2 s2 w2 pv => ?_
  obtain ⟨_, _, _, o, z4, _, ws, rfl, _, al⟩ := w2.o _ (List.mem_cons_self ..)
  have := al.len
  have : sizeLine = 16777216 := sizeLine_eq
  exact ⟨p, ws, v, rfl, rfl, z4, by omega, q _ _ ⟨G2, (s.trans s1).trans s2, sl.st (s1.trans s2), (w2.put (R' := OL e (xs ++ [a])) (o := .lst (ws ++ [v])) (fun u ⟨_, e, _⟩ => by rw [e]; rfl) rfl ⟨_, rfl, by rw [List.length_append, List.length_singleton]; omega, al.snoc pv⟩).eq (by omega)⟩⟩
/-! ### loops over what is told but in part -/
abbrev EIX (W : SC) (O : Own) (k : Nat) (t : TI) (Rs : RL) {α : Type} (Px : List α → Prop) (e : α → SR) : Prop := EG W O k t Rs (fun J G => ∃ xs, Px xs ∧ WalkR true J e xs G (fun _ => True))
theorem hl_forX {wi : TI} {g : TG} {tb : TS} {δ : Type} {Px : List α → Prop} (P : List α → Nat → δ → Prop) (Of : δ → Own) (Rf : δ → RL) (m : Nat) (z : Nat) (hi : EIX W O k wi Rs Px e) (d0 : δ) (h0 : ∀ xs, Px xs → xs.length ≤ z ∧ P xs 0 d0) (hO : Of d0 = O) (hR : ∀ G, Slk G Rs (Rf d0))
    (hb : ∀ (xs : List α), Px xs → ∀ (i : Nat) (a : α) (d : δ) (D' : Ends) (G1 : Hp), xs[i]? = some a → P xs i d → D'.rt = D.rt → Same G0 G1 → (∀ d' σ H, P xs (i + 1) d' → At W G1 (n + k + (i + 1) * m) (Of d') (Rf d') σ H → D'.nx σ H) → n + k + (i + 1) * m ≤ 1000000 → ∃ Rs1 is, GL g (e a) (Rf d) Rs1 is ∧ HL W G1 (n + k + i * m) (Of d) Rs1 tb D')
    (hd : ∀ xs, Px xs → ∀ d, P xs xs.length d → HL W G0 (n + k + z * m) (Of d) (Rf d) u D) (hn : n + k + z * m ≤ 1000000 := by omega) : HL W G0 n O Rs (tSeq (tFor wi g tb) u) D := fun σ H ⟨G, s, sl, w⟩ => by
  refine hi σ G H n _ sl w (by omega) fun J G2 H2 s2 w2 ⟨xs, hx, WR⟩ => ?_
  obtain ⟨hz, h0⟩ := h0 xs hx
  have hzm : xs.length * m ≤ z * m := Nat.mul_le_mul_right m hz
  refine ⟨fun i z σ H => z = xs.length - i ∧ i ≤ xs.length ∧ ∃ d, P xs i d ∧ ∃ G', Same G0 G' ∧ Same G2 G' ∧ Slots G' σ (Rf d) ∧ Wd W (n + k + i * m) (Of d) G' H, ⟨xs.length, rfl, Nat.zero_le _, d0, h0, G2, s.trans s2, Same.refl _, (sl.st s2).weak (hR G2), by rw [hO, Nat.zero_mul]; exact w2⟩, ?_⟩
  rintro i z' σ' H' ⟨rfl, hi2, d, hP, G', s0, s', sl', w'⟩
  by_cases hlt : i < xs.length
  · refine .inr ⟨WR.goes i G' H' hlt s' w'.r trivial, fun σ H => ∃ d, P xs (i + 1) d ∧ ∃ G', Same G0 G' ∧ Same G2 G' ∧ Slots G' σ (Rf d) ∧ Wd W (n + k + (i + 1) * m) (Of d) G' H, fun σ H h' => ⟨xs.length - (i + 1), by omega, rfl, hlt, h'⟩, fun x H'' y => ?_⟩
    have hxi : xs[i]? = some xs[i] := List.getElem?_eq_getElem hlt
    obtain ⟨G4, g4, pa⟩ := WR.yields i xs[i] G' H' x H'' hxi s' w'.r trivial y
    have hm1 : (i + 1) * m ≤ xs.length * m := Nat.mul_le_mul_right m hlt
    obtain ⟨Rs1, is, hg, hh⟩ := hb xs hx i xs[i] d { D with nx := fun σ H => ∃ d, P xs (i + 1) d ∧ ∃ G', Same G0 G' ∧ Same G2 G' ∧ Slots G' σ (Rf d) ∧ Wd W (n + k + (i + 1) * m) (Of d) G' H, ct := fun σ H => ∃ d, P xs (i + 1) d ∧ ∃ G', Same G0 G' ∧ Same G2 G' ∧ Slots G' σ (Rf d) ∧ Wd W (n + k + (i + 1) * m) (Of d) G' H, bk := u D } G2 hxi hP rfl (s.trans s2) (fun d' σ H hP' ⟨G, z1, z2, z3⟩ => ⟨d', hP', G, (s.trans s2).trans z1, z1, z2, z3⟩) (by omega)
    obtain ⟨σ1, q1, q2, _⟩ := hg.h x σ' G4 (sl'.st g4.g) pa
    exact q1 H'' _ (w'.go g4).r (hh _ _ ⟨G4, s'.trans g4.g, q2, w'.go g4⟩)
  · have e0 : i = xs.length := by omega
    subst e0
    exact .inl ⟨WR.stops G' H' s' w'.r trivial, hd xs hx d hP _ _ ⟨G', s0, sl', w'.le (by omega)⟩⟩
/-- the keys of a dict that a call made -/
theorem eix_keysL {Px : List Str → Prop} (h : ELO W O k te Rs ⟨fun o G => ∃ ks, Px ks ∧ (OKs ks).p o G, fun s ⟨ks, h1, h2⟩ => ⟨ks, h1, (OKs ks).st s h2⟩⟩) (hok : ∀ ks, Px ks → ∀ s ∈ ks, okS s = true) : EIX W O k (iKeysL te) Rs Px S := fun σ G H n Q sl w hn kk => h σ G H n _ sl w hn fun p G2 H2 s2 w2 => by
  obtain ⟨_, _, n3, ho, h4, _, ks, hP, kvs, rfl, h7, h8⟩ := w2.o _ (List.mem_cons_self ..)
  refine ⟨p, kvs, rfl, h4, fun o => ?_⟩
  have w3 : Wd W (n + k) ((p, OEx (.frz o (.dK kvs))) :: O) G2 (upd H2 p (.frz o (.dK kvs))) := w2.put (fun u ⟨_, _, _, e, _⟩ => by rw [e]; rfl) rfl rfl
  obtain ⟨o', z1, rfl, s3, w4⟩ := w3.freeze
  exact kk _ _ _ (s2.trans s3) w4 ⟨ks, hP, walkR_frz (o := o) (kvs := kvs) upd_same h7 (hok ks hP) h8⟩
end
end Gd

-- part Gd45
set_option Elab.async false
set_option linter.all false
set_option maxRecDepth 100000
set_option maxHeartbeats 1000000
/-! ### a dict of lists of our own -/
namespace Gd
open PySem PySem.Spec PyProof.Rows L2
universe u
section
variable {K : PySem.W.Frag} {W : SC} {G0 : Hp} {n k m : Nat} {O O' L : Own} {Rs Rs' : RL} {R : SR} {te ta tb to : TE} {t u : TS} {E : Ends} {α β : Type} {e : α → SR} {xs : List α} {p D : Addr} {i j : Nat} {pl : Str → Addr} {acc acc' : Str → List α} {cs : List Str}
def omO (e : α → SR) (D : Addr) (pl : Str → Addr) (acc : Str → List α) (cs : List Str) : Own := (D, OEx (.dK (cs.map fun c => (Sum.inr c, V.ref (pl c))))) :: cs.map fun c => (pl c, OL e (acc c))
theorem omO_congr (h : ∀ c ∈ cs, acc c = acc' c) : omO e D pl acc cs = omO e D pl acc' cs := by
  unfold omO
  congr 1
  exact List.map_congr_left fun c hc => by rw [h c hc]
theorem om_dct {G : Hp} (hl : cs.length ≤ 100000) (h : ∀ q ∈ omO e D pl acc cs, ∃ o, G q.1 = some o ∧ q.2.p o G) : (Dct (Lst e) (cs.map fun c => (c, acc c))).p (.ref D) G := by
  obtain ⟨o, h1, h2⟩ := h _ (List.mem_cons_self ..)
  obtain rfl : o = .dK (cs.map fun c => (Sum.inr c, V.ref (pl c))) := h2
  refine ⟨D, _, rfl, h1, by rw [List.length_map]; exact Nat.le_trans hl (by decide), ?_⟩
  have h3 : ∀ c ∈ cs, (Lst e (acc c)).p (.ref (pl c)) G := fun c hc => by
    obtain ⟨o, h4, vs, rfl, h5, h6⟩ := h (pl c, OL e (acc c)) (List.mem_cons_of_mem _ (List.mem_map.mpr ⟨c, hc, rfl⟩))
    exact ⟨pl c, vs, rfl, h4, h5, h6⟩
  clear h h1 hl
  induction cs with
  | nil => exact .nil
  | cons c cs ih => exact .cons (h3 c (List.mem_cons_self ..)) (ih fun x hx => h3 x (List.mem_cons_of_mem _ hx))
theorem om_own {G H G2 H2 : Hp} (w : Wd W n O G H) (g : Go G H G2 H2) (o : OwnM K D cs (fun _ => []) pl G2 H2 H) (nd : cs.Nodup) : Wd W n (omO e D pl (fun _ => []) cs ++ O) G2 H2 := by
  refine w.freshAll (w.go g) ?_ fun q hq => ?_
  · show (D :: (cs.map fun c => (pl c, OL e [])).map (·.1)).Nodup
    rw [List.map_map, List.nodup_cons]
    refine ⟨fun h => ?_, ?_⟩
    · obtain ⟨c, hc, e1⟩ := List.mem_map.mp h
      exact o.ne c hc e1
    · refine List.pairwise_map.mpr ?_
      have h2 := nd
      have : ∀ ys : List Str, (∀ c ∈ ys, c ∈ cs) → ys.Nodup → ys.Pairwise fun a b => pl a ≠ pl b := by
        intro ys
        induction ys with
        | nil => intro _ _; exact .nil
        | cons y ys ih =>
          intro hy hn
          obtain ⟨h3, h4⟩ := List.nodup_cons.mp hn
          refine List.pairwise_cons.mpr ⟨fun z hz e1 => ?_, ih (fun c hc => hy c (List.mem_cons_of_mem _ hc)) h4⟩
          have e2 := o.inj y (hy y (List.mem_cons_self ..)) z (hy z (List.mem_cons_of_mem _ hz)) e1
          exact h3 (e2 ▸ hz)
      exact this cs (fun _ h => h) nd
  · rcases List.mem_cons.mp hq with rfl | hq
    · exact ⟨Nw.of o.n0, o.nG, _, o.hD, rfl, rfl⟩
    · obtain ⟨c, hc, rfl⟩ := List.mem_map.mp hq
      obtain ⟨us, h1, h2⟩ := o.ex c hc
      cases h2
      exact ⟨Nw.of (o.l0 c hc), o.lG c hc, _, h1, rfl, [], rfl, Nat.zero_le _, .nil⟩
/-- found = {c: [] for c in cs} -/
theorem hl_setOM (e : α → SR) {wi : TI} (K : PySem.W.Frag) (hi : ∀ (σ : L2.St) (G : Hp), Slots G σ Rs → EvI true wi σ G S cs) (nd : cs.Nodup) (q : ∀ D pl, HL W G0 n (omO e D pl (fun _ => []) cs ++ O) (Rs.set i (some (cst (.ref D)))) u E) (hj : j < Rs.length := by simp) : HL W G0 n O Rs (tSeq (tAsg (tDc wi (gName j) tYes (tVar j) (tLst tNil) [j]) (gName i)) u) E := fun σ H ⟨G, s, sl, w⟩ => by
  show tDc wi (gName j) tYes (tVar j) (tLst tNil) [j] σ H (fun x H1 => gName i x σ H1 (u E))
  refine om_new (K := K) (hi σ G sl) nd (fun a ha x G' s' hx => ⟨_, gto_name, ?_, ev_var ?_ hx⟩) w.r fun D pl G2 H2 g o => ?_
  · exact (wipe_set (List.mem_singleton.mpr rfl)).trans (by
      apply List.ext_getElem?
      intro z
      rw [wipe_get, wipe_get, wipe_length]
      split <;> rfl)
  · rw [List.getElem?_set_self]
    rw [wipe_length, sl.len]
    exact hj
  · exact q D pl _ _ ⟨G2, s.trans g.g, (sl.st g.g).set (R := cst (.ref D)) rfl, om_own w g o nd⟩
theorem om_perm {c : Str} (nd : cs.Nodup) (hc : c ∈ cs) : ∃ rest : Own, (omO e D pl acc cs ++ O).Perm ((pl c, OL e (acc c)) :: rest) ∧ ∀ (a : List α), ((pl c, OL e a) :: rest).Perm (omO e D pl (fun x => if x = c then a else acc x) cs ++ O) := by
  obtain ⟨as, bs, rfl⟩ := List.append_of_mem hc
  have nc : c ∉ as ∧ c ∉ bs := by
    have h := List.nodup_append.mp nd
    refine ⟨fun h2 => h.2.2 c h2 c (List.mem_cons_self ..) rfl, (List.nodup_cons.mp h.2.1).1⟩
  refine ⟨(D, OEx (.dK ((as ++ c :: bs).map fun c => (Sum.inr c, V.ref (pl c))))) :: ((as.map fun c => (pl c, OL e (acc c))) ++ (bs.map fun c => (pl c, OL e (acc c)))) ++ O, ?_, fun a => ?_⟩
  · show ((D, _) :: (as ++ c :: bs).map _ ++ O).Perm _
    rw [List.map_append (f := fun c => (pl c, OL e (acc c))), List.map_cons (f := fun c => (pl c, OL e (acc c)))]
    refine List.Perm.trans ?_ (List.Perm.swap ..)
    show (_ :: _).Perm (_ :: _)
    refine List.Perm.cons _ ?_
    exact List.Perm.append_right O List.perm_middle
  · show List.Perm _ ((D, _) :: (as ++ c :: bs).map (fun x => (pl x, OL e (if x = c then a else acc x))) ++ O)
    have e1 : (as.map fun x => (pl x, OL e (if x = c then a else acc x))) = as.map fun x => (pl x, OL e (acc x)) := List.map_congr_left fun x hx => by rw [if_neg fun z : x = c => nc.1 (by rw [← z]; exact hx)]
    have e2 : (bs.map fun x => (pl x, OL e (if x = c then a else acc x))) = bs.map fun x => (pl x, OL e (acc x)) := List.map_congr_left fun x hx => by rw [if_neg fun z : x = c => nc.2 (by rw [← z]; exact hx)]
    rw [List.map_append (f := fun x => (pl x, OL e (if x = c then a else acc x))), List.map_cons (f := fun x => (pl x, OL e (if x = c then a else acc x))), e1, e2, if_pos rfl]
    refine List.Perm.trans (List.Perm.swap ..) ?_
    refine List.Perm.cons _ ?_
    exact (List.Perm.append_right O List.perm_middle).symm
/-- found[c].append(a) -/
theorem hl_pushM {c : Str} {a : α} (nd : cs.Nodup) (hc : c ∈ cs) (ho : ∀ O', (D, OEx (.dK (cs.map fun c => (Sum.inr c, V.ref (pl c))))) ∈ O' → EL W O' k to Rs (cst (.ref (pl c)))) (h : ∀ O', EL W O' m te Rs (e a)) (hl : (acc c).length ≤ 100000) (q : HL W G0 (n + (k + m)) (omO e D pl (fun x => if x = c then acc c ++ [a] else acc x) cs ++ O) Rs u E) (hn : n + (k + m) ≤ 1000000 := by omega) : HL W G0 n (omO e D pl acc cs ++ O) Rs (tSeq (tDrop (tBM K "list" rAppend to (tCons te tNil))) u) E := by
  obtain ⟨rest, h1, h2⟩ := om_perm (e := e) (D := D) (pl := pl) (acc := acc) (O := O) nd hc
  refine HL.perm ?_ h1.symm
  exact hl_pushE (ho _ (h1.mem_iff.mp (List.mem_append_left _ (List.mem_cons_self ..)))) (h _) hl (HL.perm q (h2 _).symm) hn
end
theorem lookup_map {α : Type} {f : Str → α} {x : Str} : ∀ {cs : List Str}, x ∈ cs → (cs.map fun c => (c, f c)).lookup x = some (f x)
  | [], h => by cases h
  | c :: cs, h => by
    rw [List.map_cons, List.lookup_cons]
    by_cases e : x = c
    · subst e; simp
    · have e2 : (x == c) = false := by simpa using e
      rw [e2]
      exact lookup_map ((List.mem_cons.mp h).resolve_left e)
theorem slots_start {G : Hp} {N : List Str} {vs : List V} {Ls : List SR} (al : AlR Ls vs G) : Slots G (L2.start N vs) (Ls.map some ++ List.replicate (N.length - vs.length) none) := by
  unfold L2.start
  generalize N.length - vs.length = r
  induction al with
  | nil => exact ⟨by simp, fun i R e => by
      have : (List.replicate r (none : Option SR))[i]? = some (some R) := e
      rw [List.getElem?_replicate] at this
      split at this
      · cases this
      · cases this⟩
  | cons h al ih => exact ⟨by simpa using ih.len, fun i R e => by
      cases i with
      | zero =>
        obtain rfl : _ = R := Option.some.inj (Option.some.inj e)
        exact ⟨_, rfl, h⟩
      | succ i => exact ih.get i R e⟩
theorem valV_pl {pl : Str → Addr} {x : Str} : ∀ {cs : List Str}, x ∈ cs → valV (cs.map fun c => ((Sum.inr c : Key), V.ref (pl c))) (Sum.inr x : Key) = some (V.ref (pl x))
  | [], h => by cases h
  | c :: cs, h => by
    rw [List.map_cons]
    unfold valV
    by_cases e : c = x
    · subst e; simp
    · have := valV_pl (pl := pl) ((List.mem_cons.mp h).resolve_left fun z => e z.symm)
      unfold valV at this
      simp only [List.find?_cons, Sum.inr.injEq, e, decide_false, this]
end Gd

-- part Gd46
set_option Elab.async false
set_option linter.all false
set_option maxRecDepth 100000
set_option maxHeartbeats 1000000
/-! ### new lists of new lists; errors in the judgement's world -/
namespace Gd
open PySem PySem.Spec PyProof.Rows L2
universe u
def deepO {α : Type} (e : α → SR) (p : Addr) (ps : List Addr) (xs : List (List α)) : Own := (p, OEx (.lst (ps.map V.ref))) :: (ps.zip xs).map fun q => (q.1, OL e q.2)
def ELD (W : SC) (O : Own) (k : Nat) (t : TE) (Rs : RL) {α : Type} (e : α → SR) (xs : List (List α)) : Prop := ∀ (σ : L2.St) (G H : Hp) (n : Nat) (Q : VK), Slots G σ Rs → Wd W n O G H → n + k ≤ 1000000 → (∀ p ps G2 H2, Same G G2 → ps.length = xs.length → Wd W (n + k) (deepO e p ps xs ++ O) G2 H2 → Q (.ref p) H2) → t σ H Q
def spMD {ι : Type u} {α : Type} (Tb : List (Addr × Str)) (pre : ι → List SR) (ok : ι → Prop) (e : α → SR) (post : ι → List (List α)) : Sp := fun vs H Q _ => ∃ (i : ι) (s c : Addr) (n : Nat) (O : Own) (G : Hp), Wd ⟨s, c, Tb⟩ n O G H ∧ n ≤ 1000000 ∧ ok i ∧ AlR (pre i) vs G ∧ ∀ p ps G2 H2, Same G G2 → ps.length = (post i).length → Wd ⟨s, c, Tb⟩ n (deepO e p ps (post i) ++ O) G2 H2 → Q (.ref p) H2
/-- a def that raises -/
def spXM {ι : Type u} (Tb : List (Addr × Str)) (pre : ι → List SR) (ok : ι → Prop) (C : Addr) (f : Str) (val : ι → SR) : Sp := fun vs H _ E => ∃ (i : ι) (s c : Addr) (n : Nat) (O : Own) (G : Hp), Wd ⟨s, c, Tb⟩ n O G H ∧ n ≤ 1000000 ∧ ok i ∧ AlR (pre i) vs G ∧ ∀ v d G2 H2, Same G G2 → Wd ⟨s, c, Tb⟩ n O G2 H2 → (val i).p v G2 → H2 d = some (.xd [(f, v)]) → E (.ref C) (some d) H2
section
variable {K : PySem.W.Frag} {W : SC} {G0 : Hp} {n k m : Nat} {O O' L : Own} {Rs Rs' : RL} {R : SR} {te ta tb to : TE} {tr : TA} {t u : TS} {D : Ends} {α β : Type} {e : α → SR} {xs : List (List α)} {p : Addr} {i j : Nat} {ι : Type u} {pre : ι → List SR} {ok : ι → Prop} {E : XK}
theorem spMD_len {Tb : List (Addr × Str)} {post : ι → List (List α)} {vs : List V} {H : Hp} {Q : VK} {l : Nat} (h : spMD Tb pre ok e post vs H Q E) (hn : ∀ i, (pre i).length = l) : vs.length = l := by
  obtain ⟨i, s, c, n, O, G, _, _, _, al, _⟩ := h
  rw [alr_len al, hn]
theorem spXM_len {Tb : List (Addr × Str)} {C : Addr} {f : Str} {val : ι → SR} {vs : List V} {H : Hp} {Q : VK} {l : Nat} (h : spXM Tb pre ok C f val vs H Q E) (hn : ∀ i, (pre i).length = l) : vs.length = l := by
  obtain ⟨i, s, c, n, O, G, _, _, _, al, _⟩ := h
  rw [alr_len al, hn]
theorem eld_callm {post : ι → List (List α)} (i : ι) (ha : EAL W O k tr Rs (pre i)) (hok : ok i) : ELD W O k (tCall (spMD W.tb pre ok e post) [] E tr) Rs e (post i) := fun σ G H n Q sl w hn kk => ha σ G H n _ sl w hn fun vs G2 H2 s2 w2 al =>
  ⟨i, W.s, W.c, n + k, O, G2, w2, by omega, hok, by rw [List.append_nil]; exact al, fun p ps G3 H3 s3 hp w3 => kk p ps G3 H3 (s2.trans s3) hp w3⟩
theorem eld_callmk {post : ι → List (List α)} {tk : TA} {gV : List V → List V → List V} {Rl Kl : List SR} (i : ι) (ha : EAL W O k tr Rs Rl) (hk : EAL W O m tk Rs Kl) (hp : kArgs (pre i) gV Rl Kl) (hok : ok i) : ELD W O (k + m) (tCallK (spMD W.tb pre ok e post) gV E tr tk) Rs e (post i) := fun σ G H n Q sl w hn kk =>
  ktail ha hk σ G H n _ sl w hn fun vs zs G2 H2 s2 w2 a1 a2 => ⟨i, W.s, W.c, _, O, G2, w2, by omega, hok, hp _ _ _ a1 a2, fun p ps G3 H3 s3 hp w3 => kk p ps G3 H3 (s2.trans s3) hp w3⟩
theorem deep_lst {ps : List Addr} {G : Hp} (hl : ps.length = xs.length) (hz : xs.length ≤ 100000) (h : ∀ q ∈ deepO e p ps xs, ∃ o, G q.1 = some o ∧ q.2.p o G) : (Lst (Lst e) xs).p (.ref p) G := by
  obtain ⟨o, h1, rfl⟩ := h _ (List.mem_cons_self ..)
  refine ⟨p, _, rfl, h1, by rw [List.length_map, hl]; exact Nat.le_trans hz (by decide), ?_⟩
  have h3 : ∀ q ∈ ps.zip xs, (Lst e q.2).p (.ref q.1) G := fun q hq => by
    obtain ⟨o, h4, vs, rfl, h5, h6⟩ := h (q.1, OL e q.2) (List.mem_cons_of_mem _ (List.mem_map.mpr ⟨q, hq, rfl⟩))
    exact ⟨q.1, vs, rfl, h4, h5, h6⟩
  clear h h1 hz
  induction ps generalizing xs with
  | nil =>
    cases xs with
    | nil => exact .nil
    | cons x xs => cases hl
  | cons a ps ih =>
    cases xs with
    | nil => cases hl
    | cons x xs => exact .cons (h3 (a, x) (List.mem_cons_self ..)) (ih (by simpa using hl) fun q hq => h3 q (List.mem_cons_of_mem _ hq))
theorem ELD.el (h : ELD W O k te Rs e xs) (hz : xs.length ≤ 100000) : EL W O k te Rs (Lst (Lst e) xs) := fun σ G H n Q sl w hn kk => h σ G H n _ sl w hn fun p ps G2 H2 s2 hl w2 => by
  obtain ⟨G3, s3, w3, h3⟩ := w2.freezeAll
  exact kk (.ref p) G3 H2 (s2.trans s3) w3 (deep_lst hl hz fun q hq => let ⟨o, _, h2, h4⟩ := h3 q hq; ⟨o, h2, h4⟩)
theorem ELD.eq {ys : List (List α)} (h : ELD W O k te Rs e xs) (q : xs = ys) : ELD W O k te Rs e ys := q ▸ h
theorem hl_setD (h : ELD W O k te Rs e xs) (q : ∀ p ps, ps.length = xs.length → HL W G0 (n + k) (deepO e p ps xs ++ O) (Rs.set i (some (cst (.ref p)))) u D) (hn : n + k ≤ 1000000 := by omega) : HL W G0 n O Rs (tSeq (tAsg te (gName i)) u) D := fun σ H ⟨G, s, sl, w⟩ =>
  h σ G H n _ sl w hn fun p ps G2 H2 s2 hl w2 => q p ps hl _ _ ⟨G2, s.trans s2, (sl.st s2).set (R := cst (.ref p)) rfl, w2⟩
theorem hl_parD {R1 : SR} (h1 : EL W O k ta Rs R1) (h2 : ELD W O m tb Rs e xs) (q : ∀ p ps, ps.length = xs.length → HL W G0 (n + (k + m)) (deepO e p ps xs ++ O) ((Rs.set i (some R1)).set j (some (cst (.ref p)))) u D) (hn : n + (k + m) ≤ 1000000 := by omega) : HL W G0 n O Rs (tSeq (tPar i j (tCons ta (tCons tb tNil))) u) D := fun σ H ⟨G, s, sl, w⟩ =>
  h1 σ G H n _ sl w (by omega) fun v G2 H2 s2 w2 p1 => h2 σ G2 H2 (n + k) _ (sl.st s2) w2 (by omega) fun z ps G3 H3 s3 hl w3 => ⟨v, _, rfl, q z ps hl _ _ ⟨G3, (s.trans s2).trans s3, ((sl.st (s2.trans s3)).set (R1.st s3 p1)).set (R := cst (.ref z)) rfl, w3.eq (by omega)⟩⟩
theorem hl_retD' {nx bk ct : L2.St → Hp → Prop} {Q : VK} (h : ELD W O k te Rs e xs) (q : ∀ p ps G H, Same G0 G → ps.length = xs.length → Wd W (n + k) (deepO e p ps xs ++ O) G H → Q (.ref p) H) (hn : n + k ≤ 1000000 := by omega) : HL W G0 n O Rs (tRet te) ⟨nx, Q, bk, ct⟩ := fun σ H ⟨G, s, sl, w⟩ =>
  h σ G H n _ sl w hn fun p ps G2 H2 s2 hl w2 => q p ps G2 H2 (s.trans s2) hl w2
/-- what is owned deep down, read as if it were frozen -/
theorem etl_lendDeep {tt : TT} {b : Bool} {ps : List Addr} (hl : ps.length = xs.length) (hz : xs.length ≤ 100000) (hi : Rs[i]? = some (some (cst (.ref p)))) (h : ∀ F, ETL W (exAll F O) k tt (Rs.set i (some (Lst (Lst e) xs))) b) : ETL W (deepO e p ps xs ++ O) k tt Rs b := etl_lendAll (fun G h => deep_lst hl hz h) hi h
/-- [a new list for a in ys] -/
theorem eld_map {β : Type} {f : β → SR} {ys : List β} {wi : TI} {g : TG} {vs is : List Nat} {fn : β → List α} {Ra : β → RL} (hi : EIL W O k wi Rs f ys) (hg : ∀ a, a ∈ ys → GL g (f a) (wipeR Rs vs) (Ra a) is) (hb : ∀ a, a ∈ ys → ∀ O', ELN W O' 0 te (Ra a) e (fn a)) (his : ∀ i ∈ is, i ∈ vs := by decide) :
    ELD W O k (tLc wi g tYes te vs) Rs e (ys.map fn) := fun σ G H n Q sl w hn kk => by
  refine hi σ G H n _ sl w (by omega) fun J G2 H2 s2 w2 WR D hD => ?_
  have sl2 := (sl.st s2).wipe vs
  refine ⟨fun i z H => z = ys.length - i ∧ i ≤ ys.length ∧ ∃ G' ps, ps.length = i ∧ Same G2 G' ∧ Wd W (n + k) (deepO e D ps ((ys.take i).map fn) ++ O) G' H, ⟨ys.length, rfl, Nat.zero_le _, G2, [], rfl, Same.refl _, w2.own (R := OEx (.lst [])) hD rfl rfl⟩, ?_⟩
  rintro i z H ⟨rfl, hi2, G', ps, hps, s', w'⟩
  by_cases hlt : i < ys.length
  · refine .inr ⟨WR.goes i G' H hlt s' w'.r trivial, fun H' => ∃ G' ps, ps.length = i + 1 ∧ Same G2 G' ∧ Wd W (n + k) (deepO e D ps ((ys.take (i + 1)).map fn) ++ O) G' H', fun H' h' => ⟨ys.length - (i + 1), by omega, rfl, hlt, h'⟩, fun x H' y => ?_⟩
    have hxi : ys[i]? = some ys[i] := List.getElem?_eq_getElem hlt
    obtain ⟨G4, g4, pa⟩ := WR.yields i ys[i] G' H x H' hxi s' w'.r trivial y
    have w4 := w'.go g4
    obtain ⟨σ', q1, q2, q3⟩ := (hg ys[i] (List.getElem_mem hlt)).h x (L2.wipe σ vs) G4 (sl2.st (s'.trans g4.g)) pa
    refine q1 H' _ w4.r ⟨?_, ?_⟩
    · have : L2.wipe (L2.wipe σ vs) vs = L2.wipe σ vs := by
        apply List.ext_getElem?
        intro j
        rw [wipe_get, wipe_get, wipe_length]
        split <;> rfl
      rw [q3 vs his, this]
    show te σ' H' _
    refine hb ys[i] (List.getElem_mem hlt) _ σ' G4 H' _ _ q2 w4 (by omega) fun q G6 H6 s6 w6 => ?_
    have hx := WR.len
    have w7 : Wd W (n + k) ((D, OEx (.lst (ps.map V.ref))) :: (((ps.zip ((ys.take i).map fn)).map fun q => (q.1, OL e q.2)) ++ ((q, OL e (fn ys[i])) :: O))) G6 H6 := w6.perm (by
      refine List.Perm.trans ?_ (List.Perm.swap ..)
      exact List.Perm.cons _ List.perm_middle)
    obtain ⟨_, _, _, ho, h4, _, e4⟩ := w7.o _ (List.mem_cons_self ..)
    obtain rfl : ho = .lst (ps.map V.ref) := e4
    refine ⟨_, h4, by rw [List.length_map]; omega, G6, ps ++ [q], by rw [List.length_append, hps]; rfl, (s'.trans g4.g).trans s6, ?_⟩
    have w8 := w7.put (R' := OEx (.lst ((ps ++ [q]).map V.ref))) (o := .lst (ps.map V.ref ++ [V.ref q])) (fun u e => by
      have e : u = .lst (ps.map V.ref) := e
      rw [e]; rfl) rfl (by show HO.lst _ = HO.lst _; rw [List.map_append]; rfl)
    have e9 : deepO e D (ps ++ [q]) ((ys.take (i + 1)).map fn) ++ O = (D, OEx (.lst ((ps ++ [q]).map V.ref))) :: (((ps.zip ((ys.take i).map fn)).map fun q => (q.1, OL e q.2)) ++ ((q, OL e (fn ys[i])) :: O)) := by
      have e10 : (ys.take (i + 1)).map fn = (ys.take i).map fn ++ [fn ys[i]] := by rw [take_succ hxi, List.map_append]; rfl
      unfold deepO
      rw [e10, List.zip_append (by rw [List.length_map, List.length_take, hps]; omega)]
      simp
    rw [e9]
    exact w8
  · have e0 : i = ys.length := by omega
    subst e0
    rw [List.take_length] at w'
    exact .inl ⟨WR.stops G' H s' w'.r trivial, kk D ps G' H (s2.trans s') (by rw [List.length_map, hps]) w'⟩
/-- an owned list, walked while its items are written -/
theorem hl_forO {vs : List V} {g : TG} {tb : TS} {δ : Type} (P : Nat → δ → Prop) (Of : δ → Own) (Rf : δ → RL) (m : Nat) (hi : Rs[i]? = some (some (cst (.ref p)))) (hO : ∀ d, (p, OEx (.lst vs)) ∈ Of d) (hz : vs.length ≤ 100000) (d0 : δ) (h0 : P 0 d0) (hO0 : Of d0 = O) (hR : ∀ G, Slk G Rs (Rf d0))
    (hb : ∀ (i : Nat) (a : V) (d : δ) (D' : Ends), vs[i]? = some a → P i d → D'.rt = D.rt → (∀ d' σ H, P (i + 1) d' → At W G0 (n + (i + 1) * m) (Of d') (Rf d') σ H → D'.nx σ H) → n + (i + 1) * m ≤ 1000000 → ∃ Rs1 is, GL g (cst a) (Rf d) Rs1 is ∧ HL W G0 (n + i * m) (Of d) Rs1 tb D')
    (hd : ∀ d, P vs.length d → HL W G0 (n + vs.length * m) (Of d) (Rf d) u D) (hn : n + vs.length * m ≤ 1000000 := by omega) : HL W G0 n O Rs (tSeq (tFor (iSeq K (tVar i)) g tb) u) D := fun σ H ⟨G, s, sl, w⟩ => by
  obtain ⟨v, h1, h2⟩ := sl.get i _ hi
  obtain rfl : v = .ref p := h2
  have at0 : ∀ {d : δ} {G H : Hp} {n : Nat}, Wd W n (Of d) G H → H p = some (.lst vs) := fun {d} {G} {H} {n} w => by
    obtain ⟨_, _, _, o, h4, _, e4⟩ := w.o _ (hO d)
    have e4 : o = .lst vs := e4
    rw [h4, e4]
  have hH : H p = some (.lst vs) := at0 (d := d0) (by rw [hO0]; exact w)
  refine ⟨_, h1, p, rfl, .inl ⟨⟨vs, SqL.of hH⟩, ?_⟩⟩
  refine ⟨fun i z σ H => z = vs.length - i ∧ i ≤ vs.length ∧ ∃ d, P i d ∧ At W G0 (n + i * m) (Of d) (Rf d) σ H, ⟨vs.length, rfl, Nat.zero_le _, d0, h0, G, s, sl.weak (hR G), by rw [hO0, Nat.zero_mul]; exact w⟩, ?_⟩
  rintro i z σ' H' ⟨rfl, hi2, d, hP, G', s0, sl', w'⟩
  have hH' := at0 w'
  by_cases hlt : i < vs.length
  · have hxi : vs[i]? = some vs[i] := List.getElem?_eq_getElem hlt
    refine .inr ⟨⟨vs, vs[i], SqL.of hH', hxi⟩, fun σ H => ∃ d, P (i + 1) d ∧ At W G0 (n + (i + 1) * m) (Of d) (Rf d) σ H, fun σ H h' => ⟨vs.length - (i + 1), by omega, rfl, hlt, h'⟩, fun x H'' y => ?_⟩
    obtain ⟨rfl, y⟩ := y
    have hx : vs[i]? = some x := y vs (SqL.of hH')
    have hm1 : (i + 1) * m ≤ vs.length * m := Nat.mul_le_mul_right m hlt
    obtain ⟨Rs1, is, hg, hh⟩ := hb i x d { D with nx := fun σ H => ∃ d, P (i + 1) d ∧ At W G0 (n + (i + 1) * m) (Of d) (Rf d) σ H, ct := fun σ H => ∃ d, P (i + 1) d ∧ At W G0 (n + (i + 1) * m) (Of d) (Rf d) σ H, bk := u D } hx hP rfl (fun d' σ H hP' a => ⟨d', hP', a⟩) (by omega)
    obtain ⟨σ1, q1, q2, _⟩ := hg.h x σ' G' sl' rfl
    exact q1 H'' _ w'.r (hh _ _ ⟨G', s0, q2, w'⟩)
  · have e0 : i = vs.length := by omega
    subst e0
    exact .inl ⟨⟨vs, SqL.of hH', Nat.le_refl _⟩, hd d hP _ _ ⟨G', s0, sl', w'⟩⟩
/-- .. at its end -/
theorem hl_lateE {vs : List V} (hi : Rs[i]? = some (some (cst (.ref p)))) (h : EL W ((p, OEx (.lst vs)) :: O) k te Rs R) (hl : vs.length ≤ 100000) (q : HL W G0 (n + k) O Rs u D) (hn : n + k ≤ 1000000 := by omega) : HL W G0 n ((p, OEx (.lst vs)) :: O) Rs (tSeq (tDrop (tBM K "list" rAppend (tVar i) (tCons te tNil))) u) D := fun σ H ⟨G, s, sl, w⟩ => by
  obtain ⟨v, h1, h2⟩ := sl.get i _ hi
  obtain rfl : v = .ref p := h2
  obtain ⟨_, _, _, o, w4, _, e4⟩ := w.o _ (List.mem_cons_self ..)
  obtain rfl : o = .lst vs := e4
  refine ⟨_, h1, .inl ⟨rfl, vs, SqL.of w4⟩, ?_⟩
  show te σ H _
  refine h σ G H n _ sl w hn fun v G2 H2 s2 w2 pv => ?_
  obtain ⟨_, _, _, o, z4, _, e4⟩ := w2.o _ (List.mem_cons_self ..)
  obtain rfl : o = .lst vs := e4
  have : sizeLine = 16777216 := sizeLine_eq
  have w3 : Wd W (n + k) ((p, ⟨fun _ _ => True, fun _ h => h⟩) :: O) G2 (upd H2 p (.lst (vs ++ [v]))) := w2.put (fun u e => by
    have e : u = .lst vs := e
    rw [e]; rfl) rfl trivial
  exact ⟨p, vs, v, rfl, rfl, z4, by omega, q _ _ ⟨G2, s.trans s2, sl.st s2, w3.drop (List.sublist_cons_self ..)⟩⟩
/-! ### errors -/
/-- C(e), in this world: what is told of the error -/
theorem mkO_L {C : Addr} {f : Str} (h : EL W O k te Rs R) {σ : L2.St} {H : Hp} {Q : XK} (a : At W G0 n O Rs σ H) (hn : n + k ≤ 1000000) (q : ∀ v d G2 H2, Same G0 G2 → Wd W (n + k) O G2 H2 → R.p v G2 → H2 d = some (.xd [(f, v)]) → Q (.ref C) (some d) H2) : tMkO C (sp_exI C f) [] (tCons te tNil) σ H Q := by
  obtain ⟨G, s, sl, w⟩ := a
  show te σ H _
  refine h σ G H n _ sl w hn fun v G2 H2 s2 w2 p => ?_
  have hm := mkO_run (b := true) (C := C) (f := f) (te := tC v) (σ := σ) (R := R) (ev_cR p) w2.r (Q := Q) fun v' d G3 H3 g3 p3 n1 n2 n3 => q v' d G3 H3 ((s.trans s2).trans g3.g) (w2.go g3) p3 n3
  exact hm
theorem xr_callM {C : Addr} {f : Str} {val : ι → SR} {E : XK} {Q : VK} (i : ι) (ha : EAL W O k tr Rs (pre i)) (hok : ok i) {σ : L2.St} {H : Hp} (a : At W G0 n O Rs σ H) (hn : n + k ≤ 1000000) (q : ∀ v d G2 H2, Same G0 G2 → Wd W (n + k) O G2 H2 → (val i).p v G2 → H2 d = some (.xd [(f, v)]) → E (.ref C) (some d) H2) : tCall (spXM W.tb pre ok C f val) [] E tr σ H Q := by
  obtain ⟨G, s, sl, w⟩ := a
  exact ha σ G H n _ sl w hn fun vs G2 H2 s2 w2 al => ⟨i, W.s, W.c, n + k, O, G2, w2, by omega, hok, by rw [List.append_nil]; exact al, fun v d G3 H3 s3 w3 pv hd => q v d G3 H3 ((s.trans s2).trans s3) w3 pv hd⟩
theorem xr_callF {ι : Type} {pre : ι → List SR} {ok : ι → Prop} {C : Addr} {f : Str} {val : ι → SR} {b' : Bool} {E : XK} {Q : VK} (i : ι) (ha : EAL W O k tr Rs (pre i)) (hok : ok i) {σ : L2.St} {H : Hp} (a : At W G0 n O Rs σ H) (hn : n + k ≤ 1000000) (q : ∀ v d G2 H2, Same G0 G2 → Wd W (n + k) O G2 H2 → (val i).p v G2 → H2 d = some (.xd [(f, v)]) → E (.ref C) (some d) H2) : tCall (spX b' pre ok C f val) [] E tr σ H Q := by
  obtain ⟨G, s, sl, w⟩ := a
  exact ha σ G H n _ sl w hn fun vs G2 H2 s2 w2 al => ⟨i, G2, rel_any w2.r, hok, by rw [List.append_nil]; exact al, fun v d G3 H3 g hv n1 n2 hd => q v d G3 H3 ((s.trans s2).trans g.g) (w2.go g) hv hd⟩
end
end Gd

-- part P12
set_option Elab.async false
set_option linter.all false
set_option maxRecDepth 100000
set_option maxHeartbeats 1000000
namespace Gd
open PySem PySem.Spec PyProof.Rows L2
section
variable {K : PySem.W.Frag} {s c : Addr} {σ : L2.St} {G G' H : Hp} {α : Type} {e : α → SR} {D : Ends} {u : TS}
theorem td_for {wi : TI} {xs : List α} {g : TG} {tb : TS} {G0 H0 : Hp} {n0 n m : Nat} (d0 : Dr s c n0 G0 H0) (k0 : GoS s c G0 H0 G H) (d : Dr s c n G H) (r : Rel true G H) (Iv : Nat → L2.St → Hp → Hp → Prop) (hi : EvI true wi σ G e xs)
    (h0 : ∀ G2 H2, Go G H G2 H2 → Iv 0 σ G2 H2)
    (hb : ∀ (i : Nat) (a : α), xs[i]? = some a → ∀ x σ' G' H' G2 H2 (D' : Ends), Iv i σ' G' H' → GoS s c G0 H0 G' H' → Dr s c (n + i * m) G' H' → Rel true G' H' → Same G G' → Go G' H' G2 H2 → (e a).p x G2 → D'.rt = D.rt →
      (∀ σ2 G3 H3, GoS s c G0 H0 G3 H3 → Dr s c (n + (i + 1) * m) G3 H3 → Rel true G3 H3 → Same G2 G3 → Iv (i + 1) σ2 G3 H3 → D'.nx σ2 H3) → g x σ' H2 fun σ2 H3 => tb D' σ2 H3)
    (hd : ∀ σ' G' H', Iv xs.length σ' G' H' → GoS s c G0 H0 G' H' → Dr s c (n + xs.length * m) G' H' → Rel true G' H' → Same G G' → D.nx σ' H') : tFor wi g tb D σ H := by
  refine hi.run r fun J G2 H2 g2 W => ?_
  have d2 := d.go g2
  refine ⟨fun i z σ H => z = xs.length - i ∧ i ≤ xs.length ∧ ∃ G', GoS s c G0 H0 G' H ∧ Dr s c (n + i * m) G' H ∧ Rel true G' H ∧ Same G2 G' ∧ Iv i σ G' H, ⟨xs.length, rfl, Nat.zero_le _, G2, k0.tr g2.st d0 d, by rw [Nat.zero_mul]; exact d2, g2.r _ r, Same.refl _, h0 G2 H2 g2⟩, ?_⟩
  rintro i z σ' H' ⟨rfl, hi2, G', kq, dq, rq, sq, hv⟩
  by_cases hlt : i < xs.length
  · refine .inr ⟨W.goes i G' H' hlt sq rq trivial, fun σ H => ∃ G', GoS s c G0 H0 G' H ∧ Dr s c (n + (i + 1) * m) G' H ∧ Rel true G' H ∧ Same G2 G' ∧ Iv (i + 1) σ G' H, fun σ H h' => ⟨xs.length - (i + 1), by omega, rfl, hlt, h'⟩, fun x H'' y => ?_⟩
    have hxi : xs[i]? = some xs[i] := List.getElem?_eq_getElem hlt
    obtain ⟨G4, g4, pa⟩ := W.yields i xs[i] G' H' x H'' hxi sq rq trivial y
    exact hb i xs[i] hxi x σ' G' H' G4 H'' _ hv kq dq rq (g2.g.trans sq) g4 pa rfl fun σ2 G3 H3 k3 d3 r3 s3 p3 => ⟨G3, k3, d3, r3, (sq.trans g4.g).trans s3, p3⟩
  · have e0 : i = xs.length := by omega
    subst e0
    exact .inl ⟨W.stops G' H' sq rq trivial, hd σ' G' H' hv kq dq rq (g2.g.trans sq)⟩
theorem tdq_for {wi : TI} {xs : List α} {g : TG} {tb : TS} {G0 H0 : Hp} {n0 n m : Nat} (d0 : Dr s c n0 G0 H0) (k0 : GoS s c G0 H0 G H) (d : Dr s c n G H) (r : Rel true G H) (Iv : Nat → L2.St → Hp → Hp → Prop) (hi : EvI true wi σ G e xs)
    (h0 : ∀ G2 H2, Go G H G2 H2 → Iv 0 σ G2 H2)
    (hb : ∀ (i : Nat) (a : α), xs[i]? = some a → ∀ x σ' G' H' G2 H2 (D' : Ends), Iv i σ' G' H' → GoS s c G0 H0 G' H' → Dr s c (n + i * m) G' H' → Rel true G' H' → Same G G' → Go G' H' G2 H2 → (e a).p x G2 → D'.rt = D.rt →
      (∀ σ2 G3 H3, GoS s c G0 H0 G3 H3 → Dr s c (n + (i + 1) * m) G3 H3 → Rel true G3 H3 → Same G2 G3 → Iv (i + 1) σ2 G3 H3 → D'.nx σ2 H3) → g x σ' H2 fun σ2 H3 => tb D' σ2 H3)
    (hd : ∀ σ' G' H', Iv xs.length σ' G' H' → GoS s c G0 H0 G' H' → Dr s c (n + xs.length * m) G' H' → Rel true G' H' → Same G G' → u D σ' H') : tSeq (tFor wi g tb) u D σ H := td_for (D := { D with nx := u D }) d0 k0 d r Iv hi h0 hb hd
end
theorem nodup_len {α : Type} [DecidableEq α] : ∀ {l cs : List α}, l.Nodup → (∀ x ∈ l, x ∈ cs) → l.length ≤ cs.length
  | [], _, _, _ => Nat.zero_le _
  | x :: l, cs, nd, h => by
    obtain ⟨n1, n2⟩ := List.nodup_cons.mp nd
    have hx : x ∈ cs := h x (List.mem_cons_self ..)
    have := nodup_len (cs := cs.erase x) n2 fun y hy => (List.mem_erase_of_ne (fun e => n1 (by rw [← e]; exact hy))).mpr (h y (List.mem_cons_of_mem _ hy))
    rw [List.length_erase_of_mem hx] at this
    have hp : 0 < cs.length := List.length_pos_of_mem hx
    rw [List.length_cons]
    omega
theorem lot_len {cs l : List Str} (h : lotOf cs l) : l.length ≤ cs.length := nodup_len h.2.1 h.2.2
section
variable {P : Program} {w : World} {K : PySem.W.Frag} {mg : Str → Option Value} {base : Heap} {aL : Addr}
abbrev MR (K : PySem.W.Frag) : Rule → SR := Tr K S (Lst S) (Lst S)
def eTB (K : PySem.W.Frag) : Str ⊕ List Str → SR
  | .inl s => S s
  | .inr l => Sq K S l
def eRow (K : PySem.W.Frag) (r : Rule) : SR := Sq K (eTB K) [.inl r.1, .inr r.2.1, .inr r.2.2]
theorem mr_row {r : Rule} {u : V} {G : Hp} (h : (MR K r).p u G) : (eRow K r).p u G := by
  obtain ⟨a, v, w, z, rfl, h1, h2, h3, h4⟩ := h
  exact .inr ⟨a, [v, w, z], rfl, h1, by show 3 ≤ sizeLine; decide, .cons (show (eTB K (.inl r.1)).p v G from h2) (.cons (show (eTB K (.inr r.2.1)).p w G from .inl h3) (.cons (show (eTB K (.inr r.2.2)).p z G from .inl h4) .nil))⟩
theorem row_ru {r : Rule} {u : V} {G : Hp} (h : (eRow K r).p u G) : (Ru K r).p u G := by
  rcases h with ⟨a, vs, rfl, h1, _, al⟩ | ⟨a, vs, rfl, h1, _, al⟩
  · cases al with
    | cons q1 al => cases al with
      | cons q2 al => cases al with
        | cons q3 al => cases al; exact ⟨a, _, _, _, rfl, .inl h1, q1, q2, q3⟩
  · cases al with
    | cons q1 al => cases al with
      | cons q2 al => cases al with
        | cons q3 al => cases al; exact ⟨a, _, _, _, rfl, .inr h1, q1, q2, q3⟩
theorem sq_conv {α : Type} {e f : α → SR} {xs : List α} {u : V} {G : Hp} (h : ∀ a v, (e a).p v G → (f a).p v G) (p : (Sq K e xs).p u G) : (Sq K f xs).p u G := by
  rcases p with ⟨a, vs, rfl, h1, h2, al⟩ | ⟨a, vs, rfl, h1, h2, al⟩
  · exact .inl ⟨a, vs, rfl, h1, h2, Al.conv1 h al⟩
  · exact .inr ⟨a, vs, rfl, h1, h2, Al.conv1 h al⟩
theorem lo_row {n : Nat} (r : Rule) : Lo K (n + 2) (eRow K r) 4 := by
  have : Lo K (n + 2) (Sq K (eTB K) [.inl r.1, .inr r.2.1, .inr r.2.2]) (3 * 1 + 1) := .q (m := 1) fun x hx => by
    cases x with
    | inl s => exact .s s
    | inr l =>
      have : Lo K (n + 1) (Sq K S l) (l.length * 0 + 1) := .q fun y _ => .s y
      rwa [Nat.mul_zero] at this
  exact this
/-- the same rule, its lots turned about -/
def rel2 (r r' : Rule) : Prop := r'.1 = r.1 ∧ r'.2.1.Perm r.2.1 ∧ r'.2.2.Perm r.2.2
def sp_ru_made (K : PySem.W.Frag) (C : Addr) : Sp := spD (fun i : List Str × List Rule => [Lst S i.1, Lst (RT K) i.2]) (fun i => Sd PyData.str i.1 ∧ goodN i.1 ∧ i.1.length ≤ 9 ∧ i.2.length ≤ 40 ∧ ∀ r ∈ i.2, lotRule i.1 r) (fun _ => 1100) (fun i => RU K C i)
theorem mkU_eq {cs cs' : List Str} {rs rs' : List Rule} (h1 : Sd PyData.str cs) (p1 : cs'.Perm cs) (h2 : ∀ r ∈ rs, lotRule cs r) (hl : rs'.length = rs.length) (h3 : ∀ (i : Nat) (r r' : Rule), rs[i]? = some r → rs'[i]? = some r' → rel2 r r') : mkU (cs', rs') = (cs, rs) := by
  unfold mkU
  have e1 : srt PyData.str cs' = cs := srt_eq alk_S eqE_S p1 h1
  have e2 : rs'.map norm = rs := by
    refine List.ext_getElem? fun i => ?_
    rw [List.getElem?_map]
    cases q : rs[i]? with
    | none =>
      have : rs'[i]? = none := by
        rw [List.getElem?_eq_none_iff] at q ⊢
        omega
      rw [this]; rfl
    | some r =>
      have hi : i < rs'.length := by rw [hl]; exact (List.getElem?_eq_some_iff.mp q).1
      rw [List.getElem?_eq_getElem hi]
      obtain ⟨q1, q2, q3⟩ := h3 i r rs'[i] q (List.getElem?_eq_getElem hi)
      obtain ⟨_, l1, l2⟩ := h2 r (List.mem_of_getElem? q)
      show some (norm rs'[i]) = some r
      unfold norm
      rw [q1, srt_eq alk_S eqE_S q2 l1.1, srt_eq alk_S eqE_S q3 l2.1]
  rw [e1, e2]
end
end Gd

-- part P13
set_option Elab.async false
set_option linter.all false
set_option maxRecDepth 100000
set_option maxHeartbeats 1000000
namespace Gd
open PySem PySem.Spec PyProof.Rows L2
theorem once_fold : ∀ (xs acc : List Str), acc.Nodup → (xs.foldl ostep acc).Nodup ∧ ∀ x, x ∈ xs.foldl ostep acc ↔ x ∈ acc ∨ x ∈ xs
  | [], acc, h => ⟨h, fun x => by simp⟩
  | y :: xs, acc, h => by
    rw [List.foldl_cons]
    by_cases hy : y ∈ acc
    · rw [show ostep acc y = acc from if_pos (decide_eq_true hy)]
      obtain ⟨h1, h2⟩ := once_fold xs acc h
      refine ⟨h1, fun x => (h2 x).trans ?_⟩
      rw [List.mem_cons]
      exact ⟨fun z => z.elim .inl fun z => .inr (.inr z), fun z => z.elim .inl fun z => z.elim (fun e => .inl (e ▸ hy)) .inr⟩
    · rw [show ostep acc y = acc ++ [y] from if_neg (by simpa using hy)]
      obtain ⟨h1, h2⟩ := once_fold xs (acc ++ [y]) (by
        rw [List.nodup_append]
        exact ⟨h, by simp, fun a ha b hb e => by rw [List.mem_singleton.mp hb] at e; exact hy (e ▸ ha)⟩)
      refine ⟨h1, fun x => (h2 x).trans ?_⟩
      simp [or_assoc]
theorem once_nodup (xs : List Str) : (once xs).Nodup := (once_fold xs [] List.nodup_nil).1
theorem mem_once {xs : List Str} {x : Str} : x ∈ once xs ↔ x ∈ xs := by
  refine ((once_fold xs [] List.nodup_nil).2 x).trans ?_
  simp
def more1 (l : List Str) (o : Str) : List Str := srt PyData.str (once (l ++ [o]))
theorem mem_more1 {l : List Str} {o x : Str} : x ∈ more1 l o ↔ x ∈ l ∨ x = o := by unfold more1; rw [mem_srt, mem_once, List.mem_append, List.mem_singleton]
theorem lot_more1 {cs l : List Str} {o : Str} (h : lotOf cs l) (ho : o ∈ cs) : lotOf cs (more1 l o) := ⟨srt_sd _ _, srt_nodup.mpr (once_nodup _), fun x hx => (mem_more1.mp hx).elim (h.2.2 x) fun e => e ▸ ho⟩
theorem lot_nil (cs : List Str) : lotOf cs [] := ⟨List.Pairwise.nil, List.nodup_nil, fun x h => by cases h⟩
theorem lot_one {cs : List Str} {o : Str} (h : o ∈ cs) : lotOf cs [o] := ⟨List.pairwise_singleton .., by simp, fun x hx => by rw [List.mem_singleton.mp hx]; exact h⟩
/-- a rule that changes nothing -/
def idleR (cs : List Str) (rs : List Rule) (q : Rule) : Prop := lotRule cs q ∧ (q.2.1 = [q.1] ∨ (∃ o, q.2.1 = [o] ∧ q.2.2 = [o]) ∨ (∃ r0 ∈ rs, ∃ o, q = (r0.1, more1 r0.2.1 o, r0.2.2)) ∨ ∃ r0 ∈ rs, ∃ o, q = (r0.1, r0.2.1, more1 r0.2.2 o))
section
variable {P : Program} {w : World} {K : PySem.W.Frag} {mg : Str → Option Value} {base : Heap} {aL : Addr}
theorem gName_I {i : Nat} {x : V} {σ : L2.St} {H : Hp} {Q : L2.St → Hp → Prop} (h : Q (σ.set i (some x)) H) : gName i x σ H Q := h
theorem tq_append {b : Bool} {σ : L2.St} {G H : Hp} {te : TE} {R : SR} {i : Nat} {p : Addr} {vs : List V} {D : Ends} {u : TS} (h : Ev b te σ G R) (hv : σ[i]? = some (some (.ref p))) (nG : G p = none) (hp : H p = some (.lst vs)) (hl : vs.length ≤ 100000) (r : Rel b G H)
    (k : ∀ v G2 H2, Go G H G2 H2 → G2 p = none → R.p v G2 → u D σ (upd H2 p (.lst (vs ++ [v])))) : tSeq (tDrop (tBM K "list" rAppend (tVar i) (tCons te tNil))) u D σ H := ts_append (D := { D with nx := u D }) h hv nG hp hl r k
theorem tCons_op {r2 : R2} {ta tb : TE} {tr : TA} {σ : L2.St} {H : Hp} {Q : List V → Hp → Prop} (h : ta σ H fun x H1 => tb σ H1 fun y H2 => r2 x y H2 fun z H3 => tr σ H3 fun xs H4 => Q (z :: xs) H4) : tCons (tOp r2 ta tb) tr σ H Q := h
theorem seq_lst {X : TE} {tr : TA} {g : TG} {u : TS} {D : Ends} {σ : L2.St} {H : Hp} (h : X σ H fun x H1 => tr σ H1 fun xs H2 => (x :: xs).length ≤ sizeLine ∧ ∀ p, H2 p = none → g (.ref p) σ (upd H2 p (.lst (x :: xs))) (u D)) : tSeq (tAsg (tLst (tCons X tr)) g) u D σ H := h
theorem cons1 {Y : TE} {σ : L2.St} {H : Hp} {Q : List V → Hp → Prop} (h : Y σ H fun x H1 => Q [x] H1) : tCons Y tNil σ H Q := h
theorem ev_rep1' {b : Bool} {σ : L2.St} {G : Hp} {v : V} {o : Str} {d : Nat} (h : (Tpl K S [o]).p v G) (hd : d < 2) : Ev b (tOp (rRep1 K) (tC v) (tC (.int d))) σ G (ExR (fun t => t = [] ∨ t = [o]) (Tpl K S)) := fun G1 H1 a r Q k => by
  obtain ⟨ad, vs, rfl, h1, h2, al⟩ := (Tpl K S [o]).st a h
  refine ⟨ad, d, vs, rfl, rfl, r.seqT h1, (fun e => by have := al.len; rw [e] at this; cases this), ?_⟩
  have : d = 0 ∨ d = 1 := by omega
  rcases this with rfl | rfl
  · exact .inr ⟨rfl, fun p hp => k _ _ _ (Go.new r hp) ⟨[], .inl rfl, p, [], rfl, SqT.of upd_same, Nat.zero_le _, .nil⟩⟩
  · exact .inl ⟨rfl, k _ G1 H1 (Go.refl _ _) ⟨[o], .inr rfl, ad, vs, rfl, h1, h2, al⟩⟩
theorem rep_run {G H : Hp} {v : V} {o : Str} {d : Nat} {Q : VK} (h : (Tpl K S [o]).p v G) (hd : d < 2) (r : Rel true G H) (k : ∀ u G2 H2, Go G H G2 H2 → (ExR (fun t => t = [] ∨ t = [o]) (Tpl K S)).p u G2 → Q u H2) : rRep1 K v (.int d) H Q := (ev_rep1' (σ := []) h hd).run r k
theorem ev_one {b : Bool} {σ : L2.St} {G : Hp} {te : TE} {o : Str} (h : Ev b te σ G (S o)) : Ev b (tTup (tCons te tNil)) σ G (Tpl K S [o]) := ev_tpl (xs := [o]) (ea_cons h ea_nil) (by simp)
/-- tuple(sorted(each_once(l + (o,)))) -/
theorem ev_more {σ : L2.St} {G : Hp} {tl to : TE} {l : List Str} {o : Str} (h1 : Ev true tl σ G (Tpl K S l)) (h2 : Ev true to σ G (S o)) (hl : l.length ≤ 100) : Ev true (tCB (rTupOf K) (tCons (tCB (rSrt K) (tCons (tCall (sp_each_once K) [] C8.E0 (tCons (tOp (rCatA K) tl (tTup (tCons to tNil))) tNil)) tNil)) tNil)) σ G (Tpl K S (more1 l o)) := by
  have hc : Ev true (tCall (sp_each_once K) [] C8.E0 (tCons (tOp (rCatA K) tl (tTup (tCons to tNil))) tNil)) σ G (Lst S (once (l ++ [o]))) := ev_call (ι := List Str) (pre := fun xs => [Sq K S xs]) (ok := fun xs => xs.length ≤ 1000) (post := fun xs => Lst S (once xs)) (l ++ [o]) (ea_cons (Ev.sqT (ev_catT h1 (ev_one h2) (by simp; omega))) ea_nil) (by simp; omega)
  exact ev_tupleL (EvN.ev (en_sorted (Ev.sqL hc) enc_S alk_S (sortable_S _)))
def sp_ru_idle (K : PySem.W.Frag) : Sp := spD (fun i : List Str × List Rule => [Lst S i.1, Lst (RT K) i.2]) (fun i => i.1.length ≤ 9 ∧ i.2.length ≤ 100 ∧ ∀ r ∈ i.2, lotRule i.1 r) (fun _ => 30) (fun i => ExR (fun rs : List Rule => rs.length ≤ 2 ∧ ∀ q ∈ rs, idleR i.1 i.2 q) (Lst (RT K)))
end
end Gd

-- part M1
set_option Elab.async false
set_option linter.all false
set_option maxRecDepth 100000
set_option maxHeartbeats 1000000
/-! ### the plain law -/
namespace Gd
open PySem PySem.Spec PyProof.Rows L2
theorem srt_cL (xs : List (List Str)) : srt cL xs = srt cT xs := rfl
theorem viol_eq (h t : List Str) (p : Rule) : lviol h t p = viol h t p := by
  unfold lviol viol within
  cases decide (p.1 ∈ h) <;> cases (p.2.1.all fun x => decide (x ∈ h)) <;> cases (p.2.2.any fun x => decide (x ∈ t)) <;> rfl
theorem lkp_eq (ts : List Rule) (h t : List Str) : lkp ts h t = kp ts h t := by
  unfold lkp kp
  congr 1
  congr 1
  funext p
  exact viol_eq h t p
theorem map_nodup {α β : Type} {f : α → β} {xs : List α} (h : ∀ a ∈ xs, ∀ b ∈ xs, f a = f b → a = b) (nd : xs.Nodup) : (xs.map f).Nodup := by
  induction xs with
  | nil => exact List.nodup_nil
  | cons x xs ih =>
    obtain ⟨n1, n2⟩ := List.nodup_cons.mp nd
    rw [List.map_cons, List.nodup_cons]
    refine ⟨fun hm => ?_, ih (fun a ha b hb => h a (List.mem_cons_of_mem _ ha) b (List.mem_cons_of_mem _ hb)) n2⟩
    obtain ⟨y, hy, e⟩ := List.mem_map.mp hm
    have := h y (List.mem_cons_of_mem _ hy) x (List.mem_cons_self ..) e
    exact n1 (this ▸ hy)
theorem lots_nodup {cs : List Str} : cs.Nodup → (lots cs).Nodup := by
  induction cs using snoc_ind with
  | h0 => intro _; simp [lots]
  | hs xs x ih =>
    intro nd
    rw [List.nodup_append] at nd
    obtain ⟨n1, _, n3⟩ := nd
    rw [lots_snoc, List.nodup_append]
    refine ⟨ih n1, map_nodup (fun a _ b _ e => (List.append_left_inj _).mp e) (ih n1), fun a ha b hb e => ?_⟩
    obtain ⟨m, hm, rfl⟩ := List.mem_map.mp hb
    have hs := mem_lots.mp ha
    have hx : x ∈ xs := hs.subset (by rw [e]; simp)
    exact n3 x hx x (by simp) rfl
/-- what the folding holds -/
theorem pfold_mem (ts : List Rule) : ∀ (xs : List (List Str)) (acc : PL) (q : List Str × List Str), q ∈ xs.foldl (pstep ts) acc ↔ q ∈ acc ∨ (q.2 ∈ xs ∧ kp ts q.2 q.2 = true ∧ q.1 ∈ lots q.2 ∧ kp ts q.1 q.2 = true)
  | [], acc, q => by simp
  | x :: xs, acc, q => by
    rw [List.foldl_cons, pfold_mem ts xs]
    have hstep : q ∈ pstep ts acc x ↔ q ∈ acc ∨ (q.2 = x ∧ kp ts q.2 q.2 = true ∧ q.1 ∈ lots q.2 ∧ kp ts q.1 q.2 = true) := by
      unfold pstep
      obtain ⟨h, t⟩ := q
      by_cases e : kp ts x x = true
      · rw [if_pos e, List.mem_append, List.mem_map]
        refine or_congr Iff.rfl ⟨fun ⟨h', hm, e'⟩ => ?_, fun ⟨e1, e2, e3, e4⟩ => ?_⟩
        · cases e'
          obtain ⟨m1, m2⟩ := List.mem_filter.mp hm
          exact ⟨rfl, e, mem_srt.mp m1, m2⟩
        · have e1 : t = x := e1
          subst e1
          exact ⟨h, List.mem_filter.mpr ⟨mem_srt.mpr e3, e4⟩, rfl⟩
      · rw [if_neg e]
        refine ⟨.inl, fun z => z.elim id fun ⟨e1, e2, _⟩ => ?_⟩
        have e1 : t = x := e1
        subst e1
        exact absurd e2 e
    rw [hstep, List.mem_cons, or_assoc]
    refine or_congr Iff.rfl ⟨fun z => ?_, fun ⟨z, r⟩ => ?_⟩
    · rcases z with ⟨z, r⟩ | ⟨z, r⟩
      · exact ⟨.inl z, r⟩
      · exact ⟨.inr z, r⟩
    · rcases z with z | z
      · exact .inl ⟨z, r⟩
      · exact .inr ⟨z, r⟩
theorem pfold_nodup (ts : List Rule) : ∀ (xs : List (List Str)) (acc : PL), acc.Nodup → xs.Nodup → (∀ q ∈ acc, q.2 ∉ xs) → (∀ x ∈ xs, x.Nodup) → (xs.foldl (pstep ts) acc).Nodup
  | [], acc, h, _, _, _ => h
  | x :: xs, acc, h, nd, hd, hn => by
    obtain ⟨n1, n2⟩ := List.nodup_cons.mp nd
    rw [List.foldl_cons]
    refine pfold_nodup ts xs _ ?_ n2 ?_ fun y hy => hn y (List.mem_cons_of_mem _ hy)
    · unfold pstep
      split
      · rw [List.nodup_append]
        refine ⟨h, map_nodup (fun a _ b _ e => (Prod.mk.inj e).1) (List.Nodup.sublist List.filter_sublist (srt_nodup.mpr (lots_nodup (hn x (List.mem_cons_self ..))))), fun a ha b hb e => ?_⟩
        obtain ⟨y, _, rfl⟩ := List.mem_map.mp hb
        exact hd a ha (by rw [e]; exact List.mem_cons_self ..)
      · exact h
    · intro q hq
      unfold pstep at hq
      split at hq
      · rcases List.mem_append.mp hq with hq | hq
        · exact fun z => hd q hq (List.mem_cons_of_mem _ z)
        · obtain ⟨y, _, rfl⟩ := List.mem_map.mp hq
          exact n1
      · exact fun z => hd q hq (List.mem_cons_of_mem _ z)
/-- the pairs, as a set -/
theorem mem_pairsP {cs : List Str} {ts : List Rule} {h t : List Str} : (h, t) ∈ pairsP (cs, ts) ↔ t.Sublist cs ∧ h.Sublist t ∧ kp ts t t = true ∧ kp ts h t = true := by
  unfold pairsP
  rw [mem_srt, pfold_mem]
  simp only [List.not_mem_nil, false_or, mem_srt, mem_lots]
  exact ⟨fun ⟨a, b, c, d⟩ => ⟨a, c, b, d⟩, fun ⟨a, c, b, d⟩ => ⟨a, b, c, d⟩⟩
theorem pairsP_nodup {cs : List Str} {ts : List Rule} (nd : cs.Nodup) : (pairsP (cs, ts)).Nodup := by
  unfold pairsP
  rw [srt_nodup]
  exact pfold_nodup ts _ [] List.nodup_nil (srt_nodup.mpr (lots_nodup nd)) (by simp) fun x hx => List.Nodup.sublist (mem_lots.mp (mem_srt.mp hx)) nd
theorem pairsP_sd (cs : List Str) (ts : List Rule) : Sd cP (pairsP (cs, ts)) := srt_sd _ _
theorem alk_cP : Alk cP := alk_pr (alk_tpl alk_S) (alk_tpl alk_S)
theorem eqE_cP : EqE cP := eqE_pr (eqE_tpl eqE_S) (eqE_tpl eqE_S)
/-- two such lists are one -/
theorem pl_ext {xs ys : PL} (h1 : Sd cP xs) (h2 : Sd cP ys) (n1 : xs.Nodup) (n2 : ys.Nodup) (h : ∀ q, q ∈ xs ↔ q ∈ ys) : xs = ys := sd_unique alk_cP eqE_cP h1 h2 ((List.perm_ext_iff_of_nodup n1 n2).mpr h)
/-- (A) the law's own pairs -/
theorem foldl_ext {α γ : Type} {f g : γ → α → γ} : ∀ (xs : List α) (acc : γ), (∀ x ∈ xs, ∀ acc, f acc x = g acc x) → xs.foldl f acc = xs.foldl g acc
  | [], _, _ => rfl
  | x :: xs, acc, h => by
    rw [List.foldl_cons, List.foldl_cons, h x (List.mem_cons_self ..)]
    exact foldl_ext xs _ fun y hy => h y (List.mem_cons_of_mem _ hy)
theorem lsubs_sd {cs : List Str} (h : Sd PyData.str cs) : lsubs cs = srt cT (lots cs) := by
  unfold lsubs
  rw [srt_of_sd h, srt_cL]
theorem lpairs_eq {cs : List Str} {ts : List Rule} (h : Sd PyData.str cs) : lpairs (cs, ts) = pairsP (cs, ts) := by
  unfold lpairs pairsP
  show srt cP ((lsubs cs).foldl (lpstep ts) []) = srt cP ((srt cT (lots cs)).foldl (pstep ts) [])
  rw [lsubs_sd h]
  congr 1
  refine foldl_ext _ _ fun th hth acc => ?_
  have hs : Sd PyData.str th := h.sub (mem_lots.mp (mem_srt.mp hth))
  unfold lpstep pstep
  rw [lsubs_sd hs, lkp_eq]
  have : (fun h => lkp ts h th) = fun h => kp ts h th := funext fun h => lkp_eq ts h th
  rw [this]
/-- (D) rules that say the same -/
theorem pairs_congr {cs : List Str} {ts ts' : List Rule} (nd : cs.Nodup) (h : ∀ h t : List Str, h.Sublist t → t.Sublist cs → kp ts h t = kp ts' h t) : pairsP (cs, ts) = pairsP (cs, ts') := by
  refine pl_ext (pairsP_sd _ _) (pairsP_sd _ _) (pairsP_nodup nd) (pairsP_nodup nd) fun ⟨a, t⟩ => ?_
  rw [mem_pairsP, mem_pairsP]
  refine and_congr_right fun h1 => and_congr_right fun h2 => ?_
  rw [h t t (List.Sublist.refl t) h1, h a t h2 h1]
end Gd

-- part M2
set_option Elab.async false
set_option linter.all false
set_option maxRecDepth 100000
set_option maxHeartbeats 1000000
/-! ### the plain law: more rules, idle rules -/
namespace Gd
open PySem PySem.Spec PyProof.Rows L2
theorem viol_iff {h t : List Str} {p : Rule} : viol h t p = true ↔ p.1 ∉ h ∧ (∀ x ∈ p.2.1, x ∈ h) ∧ ∀ x ∈ p.2.2, x ∉ t := by
  unfold viol
  simp
theorem kp_iff {ts : List Rule} {h t : List Str} : kp ts h t = true ↔ ∀ p ∈ ts, ¬ (p.1 ∉ h ∧ (∀ x ∈ p.2.1, x ∈ h) ∧ ∀ x ∈ p.2.2, x ∉ t) := by
  unfold kp
  rw [Bool.not_eq_true', ← Bool.not_eq_true, List.any_eq_true]
  constructor
  · intro hh p hp hv
    exact hh ⟨p, hp, viol_iff.mpr hv⟩
  · rintro hh ⟨p, hp, hv⟩
    exact hh p hp (viol_iff.mp hv)
theorem kp_app {ts ts' : List Rule} {h t : List Str} : kp (ts ++ ts') h t = true ↔ kp ts h t = true ∧ kp ts' h t = true := by
  rw [kp_iff, kp_iff, kp_iff]
  simp only [List.mem_append]
  exact ⟨fun z => ⟨fun p hp => z p (.inl hp), fun p hp => z p (.inr hp)⟩, fun ⟨z1, z2⟩ p hp => hp.elim (z1 p) (z2 p)⟩
theorem kp_mem {ts ts' : List Rule} {h t : List Str} (e : ∀ p, p ∈ ts ↔ p ∈ ts') : kp ts h t = kp ts' h t := by
  rw [Bool.eq_iff_iff, kp_iff, kp_iff]
  exact ⟨fun z p hp => z p ((e p).mpr hp), fun z p hp => z p ((e p).mp hp)⟩
/-- (C) -/
theorem pairs_more {cs : List Str} {rs more : List Rule} (nd : cs.Nodup) : pairsP (cs, rs ++ more) = (pairsP (cs, rs)).filter fun q => decide (q ∈ pairsP (cs, more)) := by
  refine pl_ext (pairsP_sd _ _) ((pairsP_sd _ _).sub List.filter_sublist) (pairsP_nodup nd) (List.Nodup.sublist List.filter_sublist (pairsP_nodup nd)) fun ⟨a, t⟩ => ?_
  rw [List.mem_filter, decide_eq_true_eq, mem_pairsP, mem_pairsP, mem_pairsP, kp_app, kp_app]
  exact ⟨fun ⟨h1, h2, ⟨h3, h4⟩, h5, h6⟩ => ⟨⟨h1, h2, h3, h5⟩, h1, h2, h4, h6⟩, fun ⟨⟨h1, h2, h3, h5⟩, _, _, h4, h6⟩ => ⟨h1, h2, ⟨h3, h4⟩, h5, h6⟩⟩
/-- (D) -/
theorem pairs_idle {cs : List Str} {rs idle some' : List Rule} (nd : cs.Nodup) (hi : ∀ q ∈ idle, idleR cs rs q) (p : some'.Perm (rs ++ idle)) : pairsP (cs, some') = pairsP (cs, rs) := by
  refine pairs_congr nd fun h t hs ht => ?_
  rw [kp_mem (ts' := rs ++ idle) fun q => p.mem_iff, Bool.eq_iff_iff, kp_app]
  refine ⟨fun z => z.1, fun z => ⟨z, kp_iff.mpr fun q hq hv => ?_⟩⟩
  obtain ⟨v1, v2, v3⟩ := hv
  have z := kp_iff.mp z
  rcases (hi q hq).2 with e | ⟨o, e1, e2⟩ | ⟨r0, hr0, o, e⟩ | ⟨r0, hr0, o, e⟩
  · rw [e] at v2
    exact v1 (v2 q.1 (by simp))
  · rw [e1] at v2
    rw [e2] at v3
    exact v3 o (by simp) (hs.subset (v2 o (by simp)))
  · subst e
    exact z r0 hr0 ⟨v1, fun x hx => v2 x (mem_more1.mpr (.inl hx)), v3⟩
  · subst e
    exact z r0 hr0 ⟨v1, v2, fun x hx => v3 x (mem_more1.mpr (.inl hx))⟩
theorem norm_lot {cs : List Str} {r : Rule} (h : lotRule cs r) : norm r = r := by
  unfold norm
  rw [srt_of_sd h.2.1.1, srt_of_sd h.2.2.1]
theorem norm_lots {cs : List Str} : ∀ {rs : List Rule}, (∀ r ∈ rs, lotRule cs r) → rs.map norm = rs
  | [], _ => rfl
  | r :: rs, h => by rw [List.map_cons, norm_lot (h r (List.mem_cons_self ..)), norm_lots fun q hq => h q (List.mem_cons_of_mem _ hq)]
theorem mkU_lots {cs : List Str} {rs : List Rule} (hs : Sd PyData.str cs) (h : ∀ r ∈ rs, lotRule cs r) : mkU (cs, rs) = (cs, rs) := by
  unfold mkU
  rw [srt_of_sd hs, norm_lots h]
theorem lot_good {cs : List Str} {r : Rule} (h : lotRule cs r) : goodR cs r := ⟨h.1, ⟨h.2.1.2.1, h.2.1.2.2⟩, h.2.2.2.1, h.2.2.2.2⟩
/-! (B) settled readings -/
theorem keptOf_closed {ts : List Rule} {ab h : List Str} : closedB (keptOf ts ab) (· ∈ h) ↔ ∀ p ∈ ts, (∀ x ∈ p.2.2, x ∈ ab) → (∀ x ∈ p.2.1, x ∈ h) → p.1 ∈ h := by
  unfold closedB keptOf
  simp only [List.mem_map, List.mem_filter, List.all_eq_true, decide_eq_true_eq]
  constructor
  · intro z p hp h1 h2
    exact z (p.1, p.2.1) ⟨p, ⟨hp, h1⟩, rfl⟩ h2
  · rintro z _ ⟨p, ⟨hp, h1⟩, rfl⟩ h2
    exact z p hp h1 h2
/-- ab: what of cs isn't in t -/
theorem kp_closed {cs : List Str} {ts : List Rule} {h t ab : List Str} (hl : ∀ r ∈ ts, lotRule cs r) (hab : ∀ x, x ∈ ab ↔ x ∈ cs ∧ x ∉ t) : kp ts h t = true ↔ closedB (keptOf ts ab) (· ∈ h) := by
  rw [kp_iff, keptOf_closed]
  refine forall_congr' fun p => forall_congr' fun hp => ?_
  have hu := (hl p hp).2.2.2.2
  constructor
  · intro z h1 h2
    by_cases q : p.1 ∈ h
    · exact q
    · exact absurd ⟨q, h2, fun x hx => ((hab x).mp (h1 x hx)).2⟩ z
  · rintro z ⟨z1, z2, z3⟩
    exact z1 (z (fun x hx => (hab x).mpr ⟨hu x hx, z3 x hx⟩) z2)
theorem der_mem {cs : List Str} {ts : List Rule} {ab : List Str} (hl : ∀ r ∈ ts, lotRule cs r) {x : Str} (h : Der (keptOf ts ab) x) : x ∈ cs := h (· ∈ cs) (keptOf_closed.mpr fun p hp _ _ => (hl p hp).1)
/-- t is its own reduct's least set, just if it is alone -/
theorem alone_iff {cs : List Str} {ts : List Rule} {t ab : List Str} (nd : cs.Nodup) (hl : ∀ r ∈ ts, lotRule cs r) (ht : t.Sublist cs) (hab : ∀ x, x ∈ ab ↔ x ∈ cs ∧ x ∉ t) :
    (kp ts t t = true ∧ ∀ h : List Str, h.Sublist t → kp ts h t = true → h = t) ↔ ∀ x, x ∈ t ↔ Der (keptOf ts ab) x := by
  classical
  have ndt : t.Nodup := List.Nodup.sublist ht nd
  constructor
  · rintro ⟨h1, h2⟩ x
    have c1 := (kp_closed hl hab).mp h1
    refine ⟨fun hx => ?_, fun hx => hx _ c1⟩
    have e := h2 (t.filter fun y => decide (Der (keptOf ts ab) y)) List.filter_sublist ((kp_closed hl hab).mpr ?_)
    · rw [← e] at hx
      exact of_decide_eq_true (List.mem_filter.mp hx).2
    · intro p hp hb
      have hd : Der (keptOf ts ab) p.1 := der_closed _ p hp fun y hy => of_decide_eq_true (List.mem_filter.mp (hb y hy)).2
      exact List.mem_filter.mpr ⟨hd _ c1, decide_eq_true hd⟩
  · intro z
    refine ⟨(kp_closed hl hab).mpr fun p hp hb => (z p.1).mpr (der_closed _ p hp fun y hy => (z y).mp (hb y hy)), fun h hs hk => ?_⟩
    have c := (kp_closed hl hab).mp hk
    have hsub : ∀ x ∈ t, x ∈ h := fun x hx => (z x).mp hx _ c
    exact hs.eq_of_length_le (nodup_len ndt hsub)
end Gd

-- part Q4a
set_option Elab.async false
set_option linter.all false
set_option maxRecDepth 100000
set_option maxHeartbeats 1000000
namespace Gd
open PySem PySem.Spec PyProof.Rows L2
section
variable {K : PySem.W.Frag} {b : Bool} {σ : L2.St} {G G' H : Hp} {t ta tb te : TE} {R R' : SR} {α β γ : Type} {e : α → SR}
/-! ### slices -/
theorem al_cut {xs : List α} {vs : List V} {G : Hp} (h : Al e xs vs G) (lo hi : Nat) : Al e ((xs.drop lo).take (hi - lo)) ((vs.drop lo).take (hi - lo)) G := (h.drop lo).take _
theorem cut_mid (vs : List V) (lo hi : Nat) : cutV vs (some (lo : Int)) (some (hi : Int)) = (vs.drop lo).take (hi - lo) := by
  unfold cutV
  rw [HT.sIx_nat, HT.sIx_nat]
  by_cases h1 : lo ≤ vs.length
  · rw [Nat.min_eq_left h1]
    by_cases h2 : hi ≤ vs.length
    · rw [Nat.min_eq_left h2]
    · rw [Nat.min_eq_right (by omega), List.take_of_length_le (by rw [List.length_drop]; omega), List.take_of_length_le (by rw [List.length_drop]; omega)]
  · rw [List.drop_of_length_le (by omega), List.drop_of_length_le (by omega), List.take_nil, List.take_nil]
theorem cut_from (vs : List V) (lo : Nat) : cutV vs (some (lo : Int)) none = vs.drop lo := by
  unfold cutV
  rw [HT.sIx_nat, HT.sIx_none]
  by_cases h1 : lo ≤ vs.length
  · rw [Nat.min_eq_left h1, List.take_of_length_le (by rw [List.length_drop]; omega)]
  · rw [List.drop_of_length_le (by omega), List.drop_of_length_le (by omega), List.take_nil]
theorem en_midL {tl th : TO} {xs : List α} {lo hi : Nat} (ha : Ev b te σ G (Lst e xs)) (hl : EvO b tl σ G (some (lo : Int))) (hh : EvO b th σ G (some (hi : Int))) : EvN b (tSl (rSlL K) te tl th) σ G e ((xs.drop lo).take (hi - lo)) := fun G1 H1 a r Q k =>
  ha G1 H1 a r _ fun u G2 H2 g p => hl G2 H2 (a.trans g.g) (g.r _ r) _ fun G3 H3 g' => hh G3 H3 ((a.trans g.g).trans g'.g) ((g.trans g').r _ r) _ fun G4 H4 g'' => by
    obtain ⟨ad, vs, rfl, h1, h2, h3⟩ := p
    have gA := (g.trans g').trans g''
    have r4 := gA.r _ r
    refine ⟨ad, vs, rfl, r4.seqL (SqL.of (g''.g _ _ (g'.g _ _ h1))), fun p' hp => ?_⟩
    rw [cut_mid]
    exact k p' _ G4 _ (gA.trans (Go.own r4 hp)) (gA.free hp) (r4.free hp) upd_same (by rw [List.length_take, List.length_drop]; omega) (al_cut ((h3.st g'.g).st g''.g) lo hi)
theorem en_dropL {tl : TO} {xs : List α} {lo : Nat} (ha : Ev b te σ G (Lst e xs)) (hl : EvO b tl σ G (some (lo : Int))) : EvN b (tSl (rSlL K) te tl tNoPart) σ G e (xs.drop lo) := fun G1 H1 a r Q k =>
  ha G1 H1 a r _ fun u G2 H2 g p => hl G2 H2 (a.trans g.g) (g.r _ r) _ fun G3 H3 g' => by
    obtain ⟨ad, vs, rfl, h1, h2, h3⟩ := p
    have gA := g.trans g'
    have r4 := gA.r _ r
    refine ⟨ad, vs, rfl, r4.seqL (SqL.of (g'.g _ _ h1)), fun p' hp => ?_⟩
    rw [cut_from]
    exact k p' _ G3 _ (gA.trans (Go.own r4 hp)) (gA.free hp) (r4.free hp) upd_same (by rw [List.length_drop]; omega) ((h3.st g'.g).drop lo)
theorem lst_conv {f : β → SR} {c : α → β} {xs : List α} {u : V} {G : Hp} (h : ∀ a v, (e a).p v G → (f (c a)).p v G) (p : (Lst e xs).p u G) : (Lst f (xs.map c)).p u G := by
  obtain ⟨a, vs, h1, h2, h3, h4⟩ := p
  exact ⟨a, vs, h1, h2, h3, h4.conv h⟩
/-! ### the odd things -/
inductive Odd
  | n | i (k : Int) | b (v : Bool) | s (x : Str) | d | u | f | t | l (xs : List Str)
def eO (K : PySem.W.Frag) (C gm : Addr) (i : List Str × List Rule) : Odd → SR
  | .n => N
  | .i k => I k
  | .b v => B v
  | .s x => S x
  | .d => DX
  | .u => RU K C i
  | .f => cst (.ref gm)
  | .t => Tpl K S []
  | .l xs => Lst S xs
variable {C gm : Addr} {i : List Str × List Rule}
theorem hty_ru (IC : C8.InsC K C) {v : V} {G H : Hp} {b : Bool} (r : Rel b G H) (h : (RU K C i).p v G) : TyX K H v (.ref C) := by
  obtain ⟨a, dx, fs, y, z, rfl, h2, _⟩ := h
  exact .base (.ins (r.at h2 rfl) IC.cl IC.ha IC.hn IC.htk IC.hm)
/-- what is known of the class Rules where isinstance asks -/
structure RKit (K : PySem.W.Frag) (C : Addr) : Prop where
  ins : C8.InsC K C
  str : PySem.W.kitOne K (.ref C) (.type "str") = some false
  bool : PySem.W.kitOne K (.ref C) (.type "bool") = some false
  list : PySem.W.kitOne K (.ref C) (.type "list") = some false
  tuple : PySem.W.kitOne K (.ref C) (.type "tuple") = some false
theorem noSeq_ru (k : RKit K C) : NoSeq K (RU K C i) := fun v b G H r h => .inl ⟨.ref C, hty_ru k.ins r h, kitAny_cons k.list (fun _ => kitAny_cons k.tuple (fun _ => kitAny_nil) (fun h => by cases h)) (fun h => by cases h)⟩
theorem noStr_ru (k : RKit K C) : NoStr K (RU K C i) := fun v b G H r h => ⟨.ref C, hty_ru k.ins r h, k.str⟩
theorem nt_ru : NT (RU K C i) := fun v G ⟨a, dx, fs, y, z, h1, h2, h3, h4, h5, h6⟩ => ⟨a, dx, fs, y, z, h1, noT_at h2 rfl, h3, nt_lst (fun _ => nt_S) _ _ h4, h5, nt_lst (fun _ => nt_tr (fun _ => nt_S) (fun _ => nt_tpl fun _ => nt_S) (fun _ => nt_tpl fun _ => nt_S)) _ _ h6⟩
theorem nt_eO : ∀ o : Odd, NT (eO K C gm i o)
  | .n => nt_cst
  | .i _ => nt_cst
  | .b _ => nt_cst
  | .s _ => nt_S
  | .d => fun v G ⟨a, kvs, h1, h2⟩ => ⟨a, kvs, h1, noT_at h2 rfl⟩
  | .u => nt_ru
  | .f => nt_cst
  | .t => nt_tpl fun _ => nt_S
  | .l _ => nt_lst fun _ => nt_S
def eSI : Str ⊕ Int → SR
  | .inl s => S s
  | .inr i => I i
theorem sm_si {n : Nat} {xs : List (Str ⊕ Int)} : Sm K (n + 1) (Tpl K eSI xs) := .t fun x _ => by
  cases x
  · exact .s _
  · exact .i _
theorem same_noT {G0 G' : Hp} (h : ∀ a o, G0 a = some o → isTb o = false) (s : Same G0 G') : Same G0 (noT G') := fun a o e => noT_at (s a o e) (h a o e)
end
section
variable {X : Cx}
/-- a def that raises, called in a lambda -/
theorem pe_lx {A : Around} {outer : List Env} {s : Shared} {H : Hp} {E : XK} {scope : Scope} {f c' : Addr} {k j : Nat} {x : Str} {ps : List Str} {sp : Sp} {e : Expr} {es : List Expr} {ta : TA} {p pos : Pos} (c : CalX X.prog X.w X.K X.mg X.base k x ps sp) (hr : Room j (A.deeper (LamX.lamEnv X scope s.heap.objs.size f c'))) (hk : k ≤ j)
    (hg : Gl (LamX.lamCx X A outer s H E scope f c') x) (ha : PA (LamX.lamCx X A outer s H E scope f c') (e :: es) ta) (hdb : (x == ("__debug__" : Str)) = false := by decide)
    (he : starEach (e :: es) (LamX.lamCx X A outer s H E scope f c').env = (false, eval e (LamX.lamCx X A outer s H E scope f c').env) :: starEach es (LamX.lamCx X A outer s H E scope f c').env := by rfl) (hpl : (backTo pos (starEach es (LamX.lamCx X A outer s H E scope f c').env)).any (·.1) = false := by rfl) :
    PE (LamX.lamCx X A outer s H E scope f c') (.Call (.Name x p) (e :: es) [] pos) (tCall sp [] E ta) :=
  pe_cx (X := LamX.lamCx X A outer s H E scope f c') c hr hk hg (lam_pass (X := X)) ha hdb he hpl
end
end Gd

-- part Gd47
set_option Elab.async false
set_option linter.all false
set_option maxRecDepth 100000
set_option maxHeartbeats 1000000
/-! ### a def's object == itself -/
namespace PySem
open Sem (wp)
namespace FnT
open PySem.F
theorem qFn : Slot "function" "__eq__" "object.__eq__" := .of (owner := "object") (n := "__eq__") (by rw [typeLookup_type, builtinLookup_eq_fast]; kernel_rfl) (by decide +kernel) (by decide +kernel) (by decide +kernel) (by first | exact .inl (by decide +kernel) | exact .inr (by decide +kernel)) (by rw [isSubtype_type]; kernel_rfl)
theorem selfEq {prog : Program} {w : World} {A : Around} {E : Value → Shared → Prop} {s : Shared} {a : Addr} {o : Obj} {Q : Value → Shared → Prop} (hx : s.heap.get? a = some o) (hc : o.cls = .type "function") (hu : A.units < cLine) (hq : Q (.bool true) s) : wpAny (model prog w) A (richCompare .Eq (.ref a) (.ref a)) Q E s := by
  have hT : s.TypeIs (.ref a) "function" := ⟨_, hx, hc⟩
  refine wpAny_richCompare_same_room (T := "function") (id := "object.__eq__") hT hT qFn ?_ hu
  refine wpAny_call_entry qFn hT F.cmpEntry_eq ?_ (F.cmpArgs_eq _ _)
  exact objEq_entry_same ⟨.bool true, rfl, by simp, hq⟩
end FnT
end PySem
namespace Gd
open PySem PySem.Spec PyProof.Rows L2
/-- what type() tells, a def's object among it -/
def FnV (K : PySem.W.Frag) (v : V) : Prop := ∃ g oc od fd sl, v = .ref g ∧ K.lookup g = some ⟨oc, od, .func fd, sl⟩ ∧ oc = .type "function"
def TyY (K : PySem.W.Frag) (H : Hp) (v : V) (t : Value) : Prop := TyX K H v t ∨ (FnV K v ∧ t = .type "function")
def rIsiY (K : PySem.W.Frag) : List V → Hp → VK → Prop := fun xs H Q => ∃ (x c : V) (t u : Value) (b : Bool), xs = [x, c] ∧ ClsV c u ∧ TyY K H x t ∧ PySem.W.kitOne K t u = some b ∧ Q (.bl b) H
def rIsiTY (K : PySem.W.Frag) : List V → Hp → VK → Prop := fun xs H Q => ∃ (x : V) (tp : Addr) (cs : List V) (t : Value) (us : List Value) (b : Bool), xs = [x, .ref tp] ∧ H tp = some (.tup cs) ∧ Paired ClsV cs us ∧ TyY K H x t ∧ PySem.W.kitAny K t us = some b ∧ Q (.bl b) H
def rEqF (K : PySem.W.Frag) : R2 := fun x y H Q => x = y ∧ FnV K x ∧ Q (.bl true) H
section
variable {X : Cx} {K : PySem.W.Frag}
theorem call_isiY (hK : X.K = K := by rfl) : CallR X (.builtin "isinstance") (rIsiY K) := by
  subst hK
  intro pins s σ H xs us Q I r h
  obtain ⟨x, c, t, u, b, rfl, hc, hT | ⟨⟨g, oc, od, fd, sl, rfl, hk, hoc⟩, rfl⟩, e, q⟩ := h
  · exact call_isi pins s σ H [x, c] us Q I r ⟨x, c, t, u, b, rfl, hc, hT, e, q⟩
  · obtain ⟨u1, u2, rfl, r1, r2⟩ := vals2 r
    cases (show u1 = Value.ref g from r1)
    have e2 := hc.eq r2
    subst e2
    exact PySem.W.kia_one PySem.FnT.kitx_fn I.kIn ⟨_, I.kIn _ _ hk, hoc⟩ e (fun z => nomatch z) fun tk => ⟨.bl b, H, I.tok tk, rfl, q⟩
theorem call_isiTY (hK : X.K = K := by rfl) : CallR X (.builtin "isinstance") (rIsiTY K) := by
  subst hK
  intro pins s σ H xs us Q I r h
  obtain ⟨x, tp, cs, t, ws, b, rfl, hT, k, hY | ⟨⟨g, oc, od, fd, sl, rfl, hk, hoc⟩, rfl⟩, e, q⟩ := h
  · exact call_isiT pins s σ H _ us Q I r ⟨x, tp, cs, t, ws, b, rfl, hT, k, hY, e, q⟩
  · obtain ⟨u1, u2, rfl, r1, r2⟩ := vals2 r
    cases (show u1 = Value.ref g from r1)
    cases (show u2 = Value.ref tp from r2)
    obtain ⟨_, its, rv, o, h1, h2, n, h3⟩ := (show ObjOk X.prog X.w H s.heap tp (.tup cs) from I.hok tp _ hT)
    have e3 := ClsV.all k rv
    subst e3
    obtain ⟨oc', od', dt, sl⟩ := o
    simp only at h2 h3
    subst h2 h3
    exact PySem.W.kia_tup PySem.FnT.kitx_fn I.kIn ⟨_, I.kIn _ _ hk, hoc⟩ h1 e (fun z => nomatch z) fun tk => ⟨.bl b, H, I.tok tk, rfl, q⟩
theorem op_eqF (hu : X.A.units < cLine) (hK : X.K = K := by rfl) : OpR X (compareOp .Eq) (rEqF K) := by
  subst hK
  intro pins s σ H x y v u Q I rx ry h
  obtain ⟨rfl, ⟨g, oc, od, fd, sl, rfl, hk, hoc⟩, q⟩ := h
  cases (show v = Value.ref g from rx)
  cases (show u = Value.ref g from ry)
  exact PySem.FnT.selfEq (I.kIn _ _ hk) hoc hu ⟨.bl true, H, I, rfl, q⟩
end
/-- classes with their own ==: what it asks of two of their instances -/
structure OwnEqR (P : Program) (w : World) (K : PySem.W.Frag) (mg : Str → Option Value) (base : Heap) (k : Nat) (C : Addr) (R : Addr → Addr → Hp → Prop) : Prop where
  ex : ∃ f fd, PySem.W.findIn K (.ref C) "__eq__" = some (some (.ref f)) ∧ PySem.W.isFn K (.ref f) = true ∧ FnOk P w K mg base C8.CX0 k f fd ["self", "other"] (spEq R) ∧ Binds K fd ["self", "other"] []
theorem op_eqOwn {X : Cx} {k j : Nat} {C : Addr} {R : Addr → Addr → Hp → Prop} (c : OwnEqR X.prog X.w X.K X.mg X.base k C R) (hr : Room j X.A) (hk : k ≤ j) : OpR X (compareOp .Eq) (rEqG (DIns C R)) := by
  obtain ⟨f, fd, h1, h2, F, hb⟩ := c.ex
  exact op_eqG (rcG_ins (E := C8.E0) F h1 h2 hb C8.pass0) (hr.mono hk)
/-- two things that are equal: alike scalars, instances, defs -/
def rEqX (K : PySem.W.Frag) (D : Eqv) : R2 := fun x y H Q => rEq x y H Q ∨ (rEqG D x y H Q ∨ rEqF K x y H Q)
/-! ### the same, odd things among it -/
structure AtOk (K : PySem.W.Frag) (D : Eqv) (R : SR) : Prop where
  ty : ∀ v b G H, Rel b G H → R.p v G → ∃ t, TyY K H v t ∧ PySem.W.kitOne K t (.type "int") = some false ∧ PySem.W.kitOne K t (.type "list") = some false ∧ PySem.W.kitOne K t (.type "tuple") = some false ∧ PySem.W.kitOne K t (.type "dict") = some false
  eq : ∀ u v G H, Rel true G H → R.p u G → R.p v G → (scal u v = true ∧ u = v) ∨ D u v H ∨ (u = v ∧ FnV K u)
/-- one layer: alike of what is alike by Z -/
inductive SmS (K : PySem.W.Frag) (At' : SR → Prop) (Z : SR → Prop) : SR → Prop
  | s (x : Str) : SmS K At' Z (S x)
  | i (x : Int) : SmS K At' Z (I x)
  | b (x : Bool) : SmS K At' Z (B x)
  | a {R : SR} : At' R → SmS K At' Z R
  | l {α : Type} {e : α → SR} {xs : List α} : (∀ x ∈ xs, Z (e x)) → SmS K At' Z (Lst e xs)
  | t {α : Type} {e : α → SR} {xs : List α} : (∀ x ∈ xs, Z (e x)) → SmS K At' Z (Tpl K e xs)
  | p {α β : Type} {e : α → SR} {f : β → SR} {x : α × β} : Z (e x.1) → Z (f x.2) → SmS K At' Z (Pr K e f x)
  | d {α : Type} {e : α → SR} {kvs : List (Str × α)} : (∀ p ∈ kvs, okS p.1 = true) → Z (Lst (Pr K S e) kvs) → SmS K At' Z (Dct e kvs)
def SmN (K : PySem.W.Frag) (At' : SR → Prop) : Nat → SR → Prop
  | 0 => fun _ => False
  | n + 1 => SmS K At' (SmN K At' n)
theorem SmN.succ {K : PySem.W.Frag} {At' : SR → Prop} : ∀ {n : Nat} {R : SR}, SmN K At' n R → SmN K At' (n + 1) R
  | 0, _, h => h.elim
  | n + 1, R, h => by
    have h : SmS K At' (SmN K At' n) R := h
    show SmS K At' (SmN K At' (n + 1)) R
    cases h with
    | s x => exact .s x
    | i x => exact .i x
    | b x => exact .b x
    | a q => exact .a q
    | l q => exact .l fun x hx => SmN.succ (q x hx)
    | t q => exact .t fun x hx => SmN.succ (q x hx)
    | p h1 h2 => exact .p (SmN.succ h1) (SmN.succ h2)
    | d h1 h2 => exact .d h1 (SmN.succ h2)
theorem SmN.le {K : PySem.W.Frag} {At' : SR → Prop} {n m : Nat} {R : SR} (h : SmN K At' n R) (q : n ≤ m) : SmN K At' m R := by
  induction q with
  | refl => exact h
  | step _ ih => exact ih.succ
def sp_sameZ (K : PySem.W.Frag) (Z : SR → Prop) : Sp := spF true (fun R : SR => [R, R]) Z (fun _ => B true)
abbrev sp_sameX (K : PySem.W.Frag) (At' : SR → Prop) (n : Nat) : Sp := sp_sameZ K (SmN K At' n)
section
variable {K : PySem.W.Frag} {b : Bool} {σ : L2.St} {G H : Hp} {ta tb te : TE} {α β : Type} {e : α → SR} {f : β → SR} {R : SR}
theorem ev_isiY {t : String} {r : Bool} (ha : Ev b ta σ G R) (ht : ∀ v b G H, Rel b G H → R.p v G → ∃ tt, TyY K H v tt ∧ PySem.W.kitOne K tt (.type t) = some r) : Ev b (tCB (rIsiY K) (tCons ta (tCons (tC (.ty t)) tNil))) σ G (B r) := fun G1 H1 a rr Q k => ha G1 H1 a rr _ fun u G2 H2 g p => by
  obtain ⟨tt, h1, h2⟩ := ht u b G2 H2 (g.r _ rr) p
  exact ⟨u, .ty t, tt, .type t, r, rfl, .ty t, h1, h2, k _ G2 H2 g rfl⟩
theorem kitAny_all {K : PySem.W.Frag} {t : Value} : ∀ us : List Value, (∀ u ∈ us, PySem.W.kitOne K t u = some false) → PySem.W.kitAny K t us = some false
  | [], _ => kitAny_nil
  | u :: us, h => kitAny_cons (h u (List.mem_cons_self ..)) (fun _ => kitAny_all us fun v hv => h v (List.mem_cons_of_mem _ hv)) (fun z => by cases z)
theorem ev_isiTY2 {r : Bool} (ha : Ev b ta σ G R) (ht : ∀ v b G H, Rel b G H → R.p v G → ∃ tt, TyY K H v tt ∧ PySem.W.kitAny K tt [.type "list", .type "tuple"] = some r) : Ev b (tCB (rIsiTY K) (tCons ta (tCons (tTup (tCons (tC (.ty "list")) (tCons (tC (.ty "tuple")) tNil))) tNil))) σ G (B r) := fun G1 H1 a rr Q k => ha G1 H1 a rr _ fun u G2 H2 g p => by
  refine ⟨(by show 2 ≤ sizeLine; decide), fun p' hp => ?_⟩
  have r2 := g.r _ rr
  have gn := Go.new r2 (o := .tup [.ty "list", .ty "tuple"]) hp
  obtain ⟨tt, h1, h2⟩ := ht u b _ _ (gn.r _ r2) (R.st gn.g p)
  exact ⟨u, p', _, tt, _, r, rfl, upd_same, .cons (.ty _) (.cons (.ty _) .nil), h1, h2, k _ _ _ (g.trans gn) rfl⟩
theorem ev_isiTY4 {r : Bool} (ha : Ev b ta σ G R) (ht : ∀ v b G H, Rel b G H → R.p v G → ∃ tt, TyY K H v tt ∧ PySem.W.kitAny K tt [.type "int", .type "list", .type "tuple", .type "dict"] = some r) : Ev b (tCB (rIsiTY K) (tCons ta (tCons (tTup (tCons (tC (.ty "int")) (tCons (tC (.ty "list")) (tCons (tC (.ty "tuple")) (tCons (tC (.ty "dict")) tNil))))) tNil))) σ G (B r) := fun G1 H1 a rr Q k => ha G1 H1 a rr _ fun u G2 H2 g p => by
  refine ⟨(by show 4 ≤ sizeLine; decide), fun p' hp => ?_⟩
  have r2 := g.r _ rr
  have gn := Go.new r2 (o := .tup [.ty "int", .ty "list", .ty "tuple", .ty "dict"]) hp
  obtain ⟨tt, h1, h2⟩ := ht u b _ _ (gn.r _ r2) (R.st gn.g p)
  exact ⟨u, p', _, tt, _, r, rfl, upd_same, .cons (.ty _) (.cons (.ty _) (.cons (.ty _) (.cons (.ty _) .nil))), h1, h2, k _ _ _ (g.trans gn) rfl⟩
/-- a built-in type's answers -/
theorem tyY_ty {T t : String} {r : Bool} (h : HasTy K R T) (hk : kitB T t = some r := by decide +kernel) : ∀ v b G H, Rel b G H → R.p v G → ∃ tt, TyY K H v tt ∧ PySem.W.kitOne K tt (.type t) = some r := fun v b G H r p => ⟨.type T, .inl (h v b G H r p), kit_ty hk⟩
theorem ev_eqX {D : Eqv} (A : AtOk K D R) (ha : Ev true ta σ G R) (hb : Ev true tb σ G R) : Ev true (tOp (rEqX K D) ta tb) σ G (B true) := ev_op ha hb fun x y G1 H1 _ r px py Q k => by
  rcases A.eq x y G1 H1 r px py with ⟨h1, rfl⟩ | h | ⟨rfl, h⟩
  · exact .inl ⟨h1, by rw [decide_eq_true rfl]; exact k _ G1 H1 (Go.refl _ _) rfl⟩
  · exact .inr (.inl ⟨h, fun H' e => k _ G1 H' ⟨Same.refl _, e, fun a o h1 h2 => (by rw [h1] at h2; cases h2), fun _ _ _ => rfl, fun a o h1 h2 => (by rw [h1] at h2; cases h2)⟩ rfl⟩)
  · exact .inr (.inr ⟨rfl, h, k _ G1 H1 (Go.refl _ _) rfl⟩)
theorem ev_eqXs {D : Eqv} {c : Bool} {R' : SR} (ha : Ev b ta σ G R) (hb : Ev b tb σ G R') (h : ∀ x y G, R.p x G → R'.p y G → scal x y = true ∧ decide (x = y) = c) : Ev b (tOp (rEqX K D) ta tb) σ G (B c) := ev_opP ha hb fun x y G1 H1 _ r px py => ⟨_, rfl, fun Q q => .inl ⟨(h x y G1 px py).1, by rw [(h x y G1 px py).2]; exact q⟩⟩
theorem ald_items {G G' : Hp} (s : Same G G') : ∀ {kv : List (Str × α)} {vs : List (Key × V)} {ts : List Addr}, AlD e kv vs G → Paired (fun (t : Addr) (q : Key × V) => G' t = some (.tup [kV q.1, q.2])) ts vs → (∀ p ∈ kv, okS p.1 = true) → Al (Pr K S e) kv (ts.map V.ref) G'
  | _, _, _, .nil, .nil, _ => .nil
  | _, _, _, .cons hq ald, .cons h1 h2, hok => .cons ⟨_, _, _, rfl, SqT.of h1, ⟨rfl, hok _ (List.mem_cons_self ..)⟩, (e _).st s hq⟩ (ald_items s ald h2 fun p hp => hok p (List.mem_cons_of_mem _ hp))
/-- list(d.items()) -/
theorem en_listItems {kvs : List (Str × α)} (ha : Ev true ta σ G (Dct e kvs)) (hok : ∀ p ∈ kvs, okS p.1 = true) : EvN true (LiI.tListItems ta) σ G (Pr K S e) kvs := fun G1 H1 a r Q k => ha G1 H1 a r _ fun u G2 H2 g p => by
  obtain ⟨d, vs, rfl, hd, hl, ald⟩ := p
  have r2 := g.r _ r
  refine ⟨d, vs, rfl, r2.ex hd, fun H' p ts hs hp ht hpt hp' hts => ?_⟩
  have tup : ∀ t ∈ ts, ∃ xs, H' t = some (.tup xs) := fun t h => by
    obtain ⟨j, q, _, _, e3⟩ := LiI.paired_ix hts h
    exact ⟨_, e3⟩
  have out : ∀ {a : Addr} {o : HO}, H2 a = some o → a ∉ ts := fun {a} {o} h z => by rw [ht a z] at h; cases h
  have gg : Go G2 H2 (fun a => if a ∈ ts then H' a else G2 a) H' := by
    refine ⟨fun a o h => ?_, hs, fun a o h1 h2 => ?_, fun a o h => ?_, fun a o h1 h2 => ?_⟩
    · show (if a ∈ ts then H' a else G2 a) = some o
      rw [if_neg (out (r2.ex h))]
      exact h
    · have h2 : (if a ∈ ts then H' a else G2 a) = some o := h2
      by_cases z : a ∈ ts
      · rw [if_pos z] at h2
        exact h2
      · rw [if_neg z, h1] at h2
        cases h2
    · show (if a ∈ ts then H' a else G2 a) = G2 a
      rw [if_neg (out h)]
    · have h2 : (if a ∈ ts then H' a else G2 a) = some o := h2
      by_cases z : a ∈ ts
      · rw [if_pos z] at h2
        obtain ⟨xs, e⟩ := tup a z
        rw [e] at h2
        cases h2
        rfl
      · rw [if_neg z, h1] at h2
        cases h2
  have e1 := congrArg List.length ald.keys
  rw [List.length_map, List.length_map, List.length_map] at e1
  have hlen : (ts.map V.ref).length ≤ sizeLine := by
    rw [List.length_map, hts.length]
    exact hl
  refine k p (ts.map V.ref) _ H' (g.trans gg) (g.free hp) (by show (if p ∈ ts then H' p else G2 p) = none; rw [if_neg hpt]; exact r2.free hp) hp' hlen ?_
  have h9 : ∀ (ts' : List Addr) (vs' : List (Key × V)), (∀ t ∈ ts', t ∈ ts) → Paired (fun (t : Addr) (q : Key × V) => H' t = some (.tup [kV q.1, q.2])) ts' vs' → Paired (fun (t : Addr) (q : Key × V) => (if t ∈ ts then H' t else G2 t) = some (.tup [kV q.1, q.2])) ts' vs' := by
    intro ts' vs' hsub hpd
    induction hpd with
    | nil => exact .nil
    | cons h1 h2 ih => exact .cons (by rw [if_pos (hsub _ (List.mem_cons_self ..))]; exact h1) (ih fun t ht => hsub t (List.mem_cons_of_mem _ ht))
  exact ald_items gg.g ald (h9 ts vs (fun _ h => h) hts) hok
end
end Gd

-- part Gd48
set_option Elab.async false
set_option linter.all false
set_option maxRecDepth 100000
set_option maxHeartbeats 1000000
/-! ### the catcher in the judgement; what is frozen, told in all slots -/
namespace Gd
open PySem PySem.Spec PyProof.Rows L2
universe u
section
variable {K : PySem.W.Frag} {W : SC} {G0 : Hp} {n k m : Nat} {O O' L : Own} {Rs Rs' : RL} {R : SR} {te ta tb to : TE} {tr : TA} {t u : TS} {D : Ends} {α β : Type} {e : α → SR} {xs : List α} {p : Addr} {i j : Nat} {ι : Type u} {pre : ι → List SR} {ok : ι → Prop} {C : Addr} {f told word : Str} {val : ι → SR}
theorem hl_frz {Ro : OR} (h : ∀ G, (∃ o, G p = some o ∧ Ro.p o G) → Slk G Rs Rs') (q : HL W G0 n O Rs' t D) : HL W G0 n ((p, Ro) :: O) Rs t D := fun σ H ⟨G, s, sl, w⟩ => by
  obtain ⟨o, h1, h2, s3, w3⟩ := w.freeze
  exact q _ _ ⟨_, s.trans s3, (sl.st s3).weak (h _ ⟨o, upd_same, Ro.st s3 h2⟩), w3⟩
/-- a pair whose second is the very thing -/
abbrev PW (K : PySem.W.Frag) (word : Str) (R : SR) : SR := Pr K S (fun R : SR => R) (word, R)
theorem el_metX (i : ι) (ha : EAL W O k tr Rs (pre i)) (hok : ok i) (hw : okS word = true := by decide +kernel) : EL W O k (LamX.tLam W.tb (TMet C f told word) (fun E => tCall (spXM W.tb pre ok C f val) [] E tr)) Rs (PW K word (val i)) := fun σ G H n Q sl w hn kk => by
  refine ⟨w.tb, fun H1 e t1 => ?_⟩
  have w1 : Wd W n O G H1 := w.gx (GoX.ext e) t1
  show tCall (spXM W.tb pre ok C f val) [] (exIn C f word Q) tr σ H1 _
  refine xr_callM (G0 := G) (n := n) i ha hok ⟨G, Same.refl G, sl, w1⟩ hn fun v d G2 H2 s2 w2 pv hd => ⟨rfl, d, v, rfl, hd, fun p hp => ?_⟩
  have s3 := Same.new (o := .tup [.str word, v]) (w2.r.free hp)
  exact kk (.ref p) _ _ (s2.trans s3) (w2.new hp rfl) ⟨p, .str word, v, rfl, SqT.of upd_same, ⟨rfl, hw⟩, (val i).st s3 pv⟩
/-- the very list at p -/
def LAt (p : Addr) (xs : List Str) : SR := ⟨fun u G => u = .ref p ∧ (Lst S xs).p u G, fun s ⟨h1, h2⟩ => ⟨h1, (Lst S xs).st s h2⟩⟩
theorem al_S {G G' : Hp} : ∀ {xs : List Str} {vs : List V}, Al S xs vs G → Al S xs vs G'
  | _, _, .nil => .nil
  | _, _, .cons h t => .cons h (al_S t)
/-- something new that tells of a list of our own, which is read meanwhile -/
theorem el_held {xs : List Str} {Rr : SR} (hi : Rs[i]? = some (some (cst (.ref p)))) (hR : ∀ v G, Rr.p v G → (PW K word (LAt p xs)).p v G) (h : ∀ F, EL W (exAll F O) k te (Rs.set i (some (LAt p xs))) Rr) : EL W ((p, OL S xs) :: O) k te Rs (PW K word (cst (.ref p))) := fun σ G H n Q sl w hn kk => by
  have w0 := w.exact
  obtain ⟨o, h1, ⟨h2a, h2⟩, s3, w3⟩ := w0.freeze
  have hL : (Lst S xs).p (.ref p) (upd G p o) := ol_lst o _ ((OL S xs).st s3 h2) upd_same
  refine h (fun a => (H a).getD (.lst [])) σ _ H n _ ((sl.st s3).conv hi fun v hv => ?_) w3 hn fun v G2 H2 s2 w2 pv => ?_
  · obtain rfl : v = .ref p := hv
    exact ⟨rfl, hL⟩
  · obtain ⟨n1, n2, n3, _⟩ := w.o _ (List.mem_cons_self ..)
    obtain ⟨t, x, z, rfl, hT, hx, rfl, _⟩ := hR v G2 pv
    have sG : Same G (fun a => if a = p then none else G2 a) := fun a u e => by
      show (if a = p then none else G2 a) = some u
      rw [if_neg (fun z => by rw [z, n3] at e; cases e)]
      exact s2 _ _ (s3 _ _ e)
    have hp2 : G2 p = some o := s2 _ _ upd_same
    have sub : ∀ a u, (if a = p then none else G2 a) = some u → a ≠ p ∧ G2 a = some u := fun a u e => by
      by_cases z : a = p
      · rw [if_pos z] at e; cases e
      · rw [if_neg z] at e; exact ⟨z, e⟩
    obtain ⟨vs, rfl, hl, al⟩ := h2
    refine kk (.ref t) _ H2 sG ⟨fun a u e => .inl (w2.r.ex (sub a u e).2), fun a u e => w2.nt a u (sub a u e).2, w2.tb, ?_, w.nd, fun q hq => ?_⟩ ⟨t, x, .ref p, rfl, ?_, hx, rfl⟩
    · obtain ⟨d1, d2, d3, d4⟩ := w2.d
      exact ⟨d1, by show (if _ then none else _) = none; split <;> first | rfl | exact d2, by show (if _ then none else _) = none; split <;> first | rfl | exact d3, d4⟩
    · obtain ⟨q1, q2, q3, ho, q4, q5, q6⟩ := w.o q hq
      refine ⟨q1, q2, ?_, ho, ?_, q5, q.2.st sG q6⟩
      · rcases List.mem_cons.mp hq with rfl | hq'
        · show (if p = p then none else _) = none
          rw [if_pos rfl]
        · obtain ⟨_, _, z3, _⟩ := w2.o (q.1, exO ((H q.1).getD (.lst [])) q.2) (List.mem_map.mpr ⟨q, hq', rfl⟩)
          show (if q.1 = p then none else G2 q.1) = none
          split <;> first | rfl | exact z3
      · rcases List.mem_cons.mp hq with rfl | hq
        · rw [h1] at q4
          cases q4
          exact w2.r.ex hp2
        · obtain ⟨_, _, _, ho', z4, _, z6, _⟩ := w2.o (q.1, exO ((H q.1).getD (.lst [])) q.2) (List.mem_map.mpr ⟨q, hq, rfl⟩)
          rw [z4, z6, q4]
          rfl
    · have ne : ∀ u, G2 t = some u → isLD u = false → (if t = p then none else G2 t) = some u := fun u hu hn => by
        rw [if_neg (fun z => by
          rw [z, hp2] at hu
          cases hu
          cases hn)]
        exact hu
      rcases hT with (hT | ⟨o', hT⟩) | hT
      · exact .inl (.inl (ne _ hT rfl))
      · exact .inl (.inr ⟨o', ne _ hT rfl⟩)
      · exact .inr hT
end
end Gd

-- part Gd50
set_option Elab.async false
set_option linter.all false
set_option maxRecDepth 100000
set_option maxHeartbeats 2000000
/-! ### dicts whose keys are tuples, sorted -/
namespace Gd
open PySem PySem.Spec PyProof.Rows L2
open PySem.W (EachIs AllAlike dataLe)
def KeyIs (H : Hp) (k : List Key) (v : V) : Prop := ∃ x, v = .ref x ∧ H x = some (.tup (k.map kV))
def rSrtT (K : PySem.W.Frag) : List V → Hp → VK → Prop := fun vs H Q => ∃ (a : Addr) (kvs : List (List Key × V)) (β : Type) (bs : List β) (enc : β → PyData) (ky : β → List Key), vs = [.ref a] ∧ H a = some (.dT kvs) ∧ kvs.map (·.1) = bs.map ky ∧
  (∀ b, b ∈ bs → ∀ v, KeyIs H (ky b) v → Dp K H v (enc b)) ∧ AllAlike (bs.map enc) ∧ Sortable2 (bs.map enc) ∧ (∀ b, b ∈ bs → (enc b).depth ≤ 60) ∧
  ∀ ws p, H p = none → EachIs (fun v b => KeyIs H (ky b) v) ws (bs.mergeSort (dataLe false enc)) → Q (.ref p) (upd H p (.lst ws))
theorem each_keys {H : Hp} {β : Type} {ky : β → List Key} : ∀ {kvs : List (List Key × V)} {ks : List (List Key × Addr × Value)} {bs : List β}, KT H kvs ks → kvs.map (·.1) = bs.map ky → EachIs (fun u b => ∃ v, RelV v u ∧ KeyIs H (ky b) v) (ks.map fun x => Value.ref x.2.1) bs
  | _, _, [], .nil, _ => .nil
  | _, _, b :: bs, .nil, h => by cases h
  | _, _, [], .cons _ _, h => by cases h
  | _, _, b :: bs, .cons h t, e => by
    rw [List.map_cons, List.map_cons] at e
    injection e with e1 e2
    exact .cons ⟨V.ref _, rfl, _, rfl, by rw [← e1]; exact h.2.1⟩ (each_keys t e2)
section
variable {X : Cx}
open PySem.W in
theorem cr_srtT (hc : X.calm = true) (hu : X.A.units + 64 < cLine) : CallR X (.builtin "sorted") (rSrtT X.K) := by
  intro pins s σ H vs us Q I r h
  obtain ⟨a, kvs, β, bs, enc, ky, rfl, hd, hks, hdp0, hal, hk, hdp, q⟩ := h
  rw [Vals.ref1 r]
  obtain ⟨z, hs, ks, pr, o, es, ep, ho, hx, hdt, he, hn⟩ := (show ObjOk X.prog X.w H s.heap a (.dT kvs) from I.hok a _ hd)
  have l1 : es.size = ks.length := size_of_entries he
  have l2 : kvs.length = ks.length := Paired.length pr
  refine Calls.call_function_entry kind_sorted plain_sorted entry_sorted (args_sorted1 _) ?_
  unfold Builtin.«sorted»
  refine wpAny_bind (m := checkCount "sorted" 1 1 _) (wpAny_pure ?_)
  refine wpAny_bind (PySem.W.kdu_collect (A := X.A.in1) (kdl_raw hs hx hdt) (I.ok.hd hc) ho (by omega) fun h' tk acc hkp it => ?_)
  have ea : acc.toList = ks.map fun x => Value.ref x.2.1 := by
    have hl : acc.toList.length = ks.length := by rw [Array.length_toList, it.1]; exact l1
    apply List.ext_getElem?
    intro j
    rw [List.getElem?_map]
    cases hj : acc.toList[j]? with
    | none =>
      rw [List.getElem?_eq_none (by have := List.getElem?_eq_none_iff.mp hj; omega)]
      rfl
    | some v =>
      obtain ⟨en, hen, hv⟩ := it.2 j v (by rw [← Array.getElem?_toList]; exact hj)
      have qe := entry_at he j
      rw [hen] at qe
      cases hb : ks[j]? with
      | none => rw [hb] at qe; cases qe
      | some b =>
        rw [hb] at qe
        have e2 := Option.some.inj (show some en = some _ from qe)
        rw [hv, e2]
        rfl
  have I1 : Inv X pins σ H { s with heap := h', toks := tk } := I.kept hkp
  have hE := each_keys pr hks
  rw [← ea] at hE
  have hlen : acc.toList.length ≤ sizeLine := by rw [ea, List.length_map, ← l2]; exact z
  refine wpAny_bind (wpAny_newList ?_ hlen)
  have hoL : (h'.push (seqObj "list" acc.toList.toArray 0)).get? h'.objs.size = some (seqObj "list" acc.toList.toArray 0) := Heap.get?_push_size _ rfl
  show wpAny _ _ _ _ _ { s with heap := h'.push (seqObj "list" acc.toList.toArray 0), toks := tk }
  have hold : ∀ b o, h'.get? b = some o → (sortingHeap (h'.push (seqObj "list" acc.toList.toArray 0)) h'.objs.size acc.toList).get? b = some o := fun b o e =>
    sortingHeap_old (Nat.ne_of_lt (Heap.lt_size e)) (Heap.get?_push_of_some _ e)
  have hmem : EachIs (fun u b => b ∈ bs ∧ ∃ v, RelV v u ∧ KeyIs H (ky b) v) acc.toList bs := by
    have gen : ∀ {us : List Value} {cs : List β}, (∀ c ∈ cs, c ∈ bs) → EachIs (fun u b => ∃ v, RelV v u ∧ KeyIs H (ky b) v) us cs → EachIs (fun u b => b ∈ bs ∧ ∃ v, RelV v u ∧ KeyIs H (ky b) v) us cs := by
      intro us cs hc h
      induction h with
      | nil => exact .nil
      | cons h t ih => exact .cons ⟨hc _ (List.mem_cons_self ..), h⟩ (ih fun c hcm => hc c (List.mem_cons_of_mem _ hcm))
    exact gen (fun c h => h) hE
  have er : EachIs (fun u b => ∃ as, Reads (sortingHeap (h'.push (seqObj "list" acc.toList.toArray 0)) h'.objs.size acc.toList) u (enc b) as) acc.toList bs := hmem.mono fun u b ⟨hb, v, rv, hv⟩ => by
    obtain ⟨as, rd⟩ := Dp.reads I1 (enc b) v u (hdp0 b hb v hv) rv
    exact ⟨as, PyProof.Rows.Reads.keeps hold rd⟩
  refine wpAny_bind (wpAny_holding (wpAny_call_entry slot_list_sort ⟨_, hoL, rfl⟩ entry_list_sort
    (list_sort_vals (s := { s with heap := h'.push (seqObj "list" acc.toList.toArray 0), toks := tk }) hoL
      (SortsAt.data2 (s := { s with heap := sortingHeap (h'.push (seqObj "list" acc.toList.toArray 0)) h'.objs.size acc.toList, toks := tk }) (each_map (R := fun v d => ∃ as, Reads (sortingHeap (h'.push (seqObj "list" acc.toList.toArray 0)) h'.objs.size acc.toList) v d as) enc er) hal hk (bound_map fun b hb => ?_)) hlen ⟨_, rfl, ?_⟩) (args_list_sort _)))
  · have := hdp b hb
    show X.A.units + 2 + (enc b).depth < cLine
    omega
  · obtain ⟨ws, hv, hw⟩ := each_vals (sortVals_data false hE er hal)
    obtain ⟨e', he'⟩ := PyProof.Rows.sortedHeap_at (vs := acc.toList) (out := (sortVals (dataKind (sortingHeap (h'.push (seqObj "list" acc.toList.toArray 0)) h'.objs.size acc.toList) (bs.map enc)) false acc.toList acc.toList).toArray) hoL
    have hz : ws.length ≤ sizeLine := by rw [hw.length, List.length_mergeSort, ← hE.length]; exact hlen
    refine wpAny_pure ⟨_, rfl, .ref h'.objs.size, upd H h'.objs.size (.lst ws), I1.laid (t' := tk) (fun b u e => ?_) (Nat.le_refl _) ⟨hz, _, e', hv, by simpa using he'⟩, rfl, q ws _ (I1.hok.fresh (Nat.le_refl _)) hw⟩
    have hb : b < h'.objs.size := Heap.lt_size e
    rw [PyProof.Rows.sortedHeap_old (Nat.ne_of_lt hb) (by rw [size_push']; exact Nat.lt_succ_of_lt hb)]
    exact Heap.get?_push_of_some _ e
end
end Gd

-- part Gd51
set_option Elab.async false
set_option linter.all false
set_option maxRecDepth 100000
set_option maxHeartbeats 1000000
/-! ### dicts whose keys are pairs of names; an object that is being made -/
namespace Gd
open PySem PySem.Spec PyProof.Rows L2
open PySem.W (EachIs AllAlike dataLe)
universe u
theorem call_srtT {X : Cx} {K : PySem.W.Frag} (hu : X.A.units + 64 < cLine) (hc : X.calm = true := by rfl) (hK : X.K = K := by rfl) : CallR X (.builtin "sorted") (rSrtT K) := by
  subst hK
  exact cr_srtT hc hu
/-- a tuple that is told itself -/
def TpR {α : Type} (e : α → SR) (xs : List α) : SR := ⟨fun u G => ∃ a vs, u = .ref a ∧ G a = some (.tup vs) ∧ vs.length ≤ sizeLine ∧ Al e xs vs G,
  fun s ⟨a, vs, h1, h2, h3, h4⟩ => ⟨a, vs, h1, s _ _ h2, h3, h4.st s⟩⟩
section
variable {K : PySem.W.Frag} {b : Bool} {σ : L2.St} {G H : Hp} {te : TE} {α : Type} {e : α → SR} {xs : List α} {u : V}
theorem tpR_tpl (h : (TpR e xs).p u G) : (Tpl K e xs).p u G := let ⟨a, vs, h1, h2, h3, h4⟩ := h; ⟨a, vs, h1, SqT.of h2, h3, h4⟩
theorem ev_tupR (ha : Ev b te σ G (Lst e xs)) : Ev b (tCB (rTupOf K) (tCons te tNil)) σ G (TpR e xs) :=
  ev_cb (ea_cons ha ea_nil) fun vs G1 H1 a r al Q k => by
    obtain ⟨v, rfl, ad, ws, rfl, h1, h2, h3⟩ := alr1 al
    exact ⟨ad, ws, rfl, .inl ⟨r.seqL (SqL.of h1), fun l hl => k _ _ _ (Go.new r hl) ⟨l, ws, rfl, upd_same, h2, h3.st (Same.new (r.free hl))⟩⟩⟩
end
abbrev kP (p : Str × Str) : List Key := [Sum.inr p.1, Sum.inr p.2]
theorem kP_inj {p q : Str × Str} (h : kP p = kP q) : p = q := by
  injection h with h1 h2
  injection h2 with h2 _
  exact Prod.ext (Sum.inr.inj h1) (Sum.inr.inj h2)
theorem al_str : ∀ {xs : List Str} {vs : List V} {G : Hp}, Al S xs vs G → vs = xs.map V.str
  | _, _, _, .nil => rfl
  | _, _, _, .cons h t => by
    obtain ⟨rfl, _⟩ := h
    rw [List.map_cons, ← al_str t]
theorem tpR_key {p : Str × Str} {v : V} {G : Hp} (h : (TpR S [p.1, p.2]).p v G) : ∃ a, v = .ref a ∧ G a = some (.tup ((kP p).map kV)) := by
  obtain ⟨a, vs, rfl, h2, _, h4⟩ := h
  rw [al_str h4] at h2
  exact ⟨a, rfl, h2⟩
/-- a dict of one's own, its keys pairs -/
def OT (ks : List (Str × Str)) : OR := ⟨fun o _ => ∃ kvs, o = .dT kvs ∧ kvs.length ≤ sizeLine ∧ kvs.map (·.1) = ks.map kP, fun _ h => h⟩
theorem valT {p : Str × Str} : ∀ {kvs : List (List Key × V)} {ks : List (Str × Str)}, kvs.map (·.1) = ks.map kP → (valV kvs (kP p)).isSome = decide (p ∈ ks)
  | [], [], _ => rfl
  | [], _ :: _, h => by cases h
  | _ :: _, [], h => by cases h
  | q :: kvs, k :: ks, h => by
    rw [List.map_cons, List.map_cons] at h
    injection h with h1 h2
    by_cases e : p = k
    · subst e
      rw [valV_pos h1]
      simp
    · rw [valV_neg fun z => e (kP_inj (z.symm.trans h1)), valT h2]
      simp [e]
section
variable {K : PySem.W.Frag} {W : SC} {O O' L : Own} {n k m : Nat} {G0 G H : Hp} {Rs Rs' : RL} {R : SR} {te ta tb ty to : TE} {t u : TS} {E : Ends} {α : Type} {e : α → SR} {xs : List α} {D x : Addr} {i j : Nat} {ks : List (Str × Str)} {p : Str × Str}
theorem el_tupR (ha : EL W O k te Rs (Lst e xs)) : EL W O k (tCB (rTupOf K) (tCons te tNil)) Rs (TpR e xs) := el_f1 (fun a => tCB (rTupOf K) (tCons a tNil)) ha fun _ _ _ p => ev_tupR (ev_cR' p)
theorem elo_dnewT : ELO W O 0 tDNewT Rs (OT []) := fun σ G H n Q sl w hn kk d hd => kk d G _ (Same.refl G) (w.own hd rfl ⟨[], rfl, Nat.zero_le _, rfl⟩)
theorem el_inT (hO : (D, OT ks) ∈ O) (hi : Rs[i]? = some (some (cst (.ref D)))) (h : EL W O k ty Rs (TpR S [p.1, p.2])) : EL W O k (tDIn ty (tVar i)) Rs (B (decide (p ∈ ks))) := fun σ G H n Q sl w hn kk => by
  refine h σ G H n _ sl w hn fun y G2 H2 s2 w2 py => ?_
  obtain ⟨x, h1, h2⟩ := sl.get i _ hi
  obtain rfl : x = .ref D := h2
  obtain ⟨a, rfl, ha⟩ := tpR_key py
  obtain ⟨_, _, _, o, h4, _, kvs, rfl, h7, h8⟩ := w2.o _ hO
  exact ⟨_, h1, D, valV kvs (kP p), rfl, .inr ⟨kvs, kP p, a, .inl h4, rfl, w2.r.ex ha, rfl⟩, by rw [valT h8]; exact kk _ G2 H2 s2 w2 rfl⟩
/-- known[(a, b)] = v -/
theorem hl_putT {v : V} (hi : Rs[i]? = some (some (cst (.ref D)))) (h : EL W ((D, OT ks) :: O) k ty Rs (TpR S [p.1, p.2])) (hp : p ∉ ks) (hl : ks.length ≤ 100000) (q : HL W G0 (n + k) ((D, OT (ks ++ [p])) :: O) Rs u E) (hn : n + k ≤ 1000000 := by omega) : HL W G0 n ((D, OT ks) :: O) Rs (tSeq (sDPut (tVar i) ty (tC v)) u) E := fun σ H ⟨G, s, sl, w⟩ => by
  obtain ⟨x, h1, h2⟩ := sl.get i _ hi
  obtain rfl : x = .ref D := h2
  refine ⟨_, h1, h σ G H n _ sl w hn fun y G2 H2 s2 w2 py => ?_⟩
  obtain ⟨a, rfl, ha⟩ := tpR_key py
  obtain ⟨_, _, _, o, h4, _, kvs, rfl, h7, h8⟩ := w2.o _ (List.mem_cons_self ..)
  have hlen : kvs.length = ks.length := by
    have := congrArg List.length h8
    rwa [List.length_map, List.length_map] at this
  have : sizeLine = 16777216 := sizeLine_eq
  have hput : putK kvs (kP p) v = kvs ++ [(kP p, v)] := by
    unfold putK
    rw [valV_any, valT h8, if_neg (by simpa using hp)]
  refine ⟨D, _, rfl, .inr ⟨kvs, kP p, a, h4, rfl, w2.r.ex ha, by omega, rfl⟩, q _ _ ⟨G2, s.trans s2, sl.st s2, ?_⟩⟩
  rw [hput]
  exact w2.put (R' := OT (ks ++ [p])) (o := .dT (kvs ++ [(kP p, v)])) (fun u ⟨_, e, _⟩ => by rw [e]; rfl) rfl ⟨_, rfl, by rw [List.length_append, List.length_singleton]; omega, by rw [List.map_append, List.map_append, h8]; rfl⟩
/-- a tuple is told at any time -/
theorem Wd.frzT {vs : List V} (w : Wd W n O G H) (h : H x = some (.tup vs)) : ∃ G2, Same G G2 ∧ Wd W n O G2 H ∧ G2 x = some (.tup vs) := by
  cases e : G x with
  | some o =>
    have := w.r.ex e
    rw [h] at this
    cases this
    exact ⟨G, Same.refl G, w, e⟩
  | none =>
    obtain ⟨_, _, _, _, _, _, _, es, ec, _⟩ := w.d
    have ns : x ≠ W.s := fun z => by rw [z, es] at h; cases h
    have nc : x ≠ W.c := fun z => by rw [z, ec] at h; cases h
    refine ⟨upd G x (.tup vs), Same.new e, ⟨w.r.give h, w.nt.up rfl, w.tb, w.d.give ns nc, w.nd, fun q hq => ?_⟩, upd_same⟩
    obtain ⟨q1, q2, q3, ho, q4, q5, q6⟩ := w.o q hq
    have ne : q.1 ≠ x := fun z => by
      rw [z, h] at q4
      cases q4
      cases q5
    exact ⟨q1, q2, by rw [upd_ne ne]; exact q3, ho, q4, q5, q.2.st (Same.new e) q6⟩
theorem Wd.frzTs : ∀ {ws : List V} {bs : List (Str × Str)} {G : Hp}, Wd W n O G H → EachIs (fun v b => KeyIs H (kP b) v) ws bs → (∀ b ∈ bs, okS b.1 = true ∧ okS b.2 = true) → ∃ G2, Same G G2 ∧ Wd W n O G2 H ∧ Al (Pr K S S) bs ws G2
  | _, _, G, w, .nil, _ => ⟨G, Same.refl G, w, .nil⟩
  | _, _, G, w, .cons (a := v) (b := c) ⟨x, e, hx⟩ t, ok => by
    obtain ⟨G2, s2, w2, h2⟩ := w.frzT hx
    obtain ⟨G3, s3, w3, h3⟩ := Wd.frzTs w2 t fun b hb => ok b (List.mem_cons_of_mem _ hb)
    obtain ⟨o1, o2⟩ := ok c (List.mem_cons_self ..)
    exact ⟨G3, s2.trans s3, w3, .cons ⟨x, .str c.1, .str c.2, e, SqT.of (s3 _ _ h2), ⟨rfl, o1⟩, ⟨rfl, o2⟩⟩ h3⟩
abbrev pT : Str × Str → PyData := fun p => .tuple [.str p.1, .str p.2]
theorem eln_srtT (hO : (D, OT ks) ∈ O) (hi : Rs[i]? = some (some (cst (.ref D)))) (hok : ∀ b ∈ ks, okS b.1 = true ∧ okS b.2 = true) : ELN W O 0 (tCB (rSrtT K) (tCons (tVar i) tNil)) Rs (Pr K S S) (srt pT ks) := fun σ G H n Q sl w hn kk => by
  obtain ⟨x, h1, h2⟩ := sl.get i _ hi
  obtain rfl : x = .ref D := h2
  obtain ⟨_, _, _, o, h4, _, kvs, rfl, h7, h8⟩ := w.o _ hO
  have hA : Alk pT := alk_pr alk_S alk_S
  refine ⟨_, h1, D, kvs, Str × Str, ks, pT, kP, rfl, h4, h8, fun b hb v ⟨x, e, hx⟩ => ?_, fun d hd d' hd' => ?_, sortable_pr _ _ ks, fun b hb => Nat.le_trans ((enc_pr (K := K) enc_S enc_S).dep b) (by decide), fun ws p hp hE => ?_⟩
  · subst e
    exact .tup (SqT.of hx) (.cons (.str _) (.cons (.str _) .nil))
  · obtain ⟨x, _, rfl⟩ := List.mem_map.mp hd
    obtain ⟨y, _, rfl⟩ := List.mem_map.mp hd'
    exact hA.ak x y
  · obtain ⟨G2, s2, w2, al⟩ := Wd.frzTs (K := K) w hE fun b hb => hok b (List.mem_mergeSort.mp hb)
    refine kk p G2 _ s2 (w2.own hp rfl ⟨ws, rfl, ?_, al⟩)
    rw [al.len, List.length_mergeSort]
    have e := congrArg List.length h8
    rw [List.length_map, List.length_map] at e
    rw [← e]
    exact h7
end
end Gd

-- part Gd52
set_option Elab.async false
set_option linter.all false
set_option maxRecDepth 100000
set_option maxHeartbeats 1000000
/-! ### an object that is being made; dicts of new lists in its fields -/
namespace Gd
open PySem PySem.Spec PyProof.Rows L2
universe u
/-- an instance of C, its fields told -/
def OI (C : Addr) (L : List (Str × SR)) : OR := ⟨fun o G => ∃ dx fs, o = .ins C dx fs ∧ fs.length ≤ L.length ∧ ∀ q ∈ L, ∃ v, fs.lookup q.1 = some v ∧ q.2.p v G,
  fun s ⟨dx, fs, h1, h2, h3⟩ => ⟨dx, fs, h1, h2, fun q hq => let ⟨v, h4, h5⟩ := h3 q hq; ⟨v, h4, q.2.st s h5⟩⟩⟩
section
variable {K : PySem.W.Frag} {W : SC} {O O' : Own} {n k m : Nat} {G0 G H : Hp} {Rs Rs' : RL} {R : SR} {te ta tb to : TE} {t u : TS} {E : Ends} {α : Type} {e : α → SR} {xs : List α} {D C p : Addr} {i j : Nat} {L : List (Str × SR)} {f : Str}
theorem oi_put {dx : Addr} {fs : List (Str × V)} {v : V} (h : (OI C L).p (.ins C dx fs) G) (hf : ∀ q ∈ L, q.1 ≠ f) (hv : R.p v G) : (OI C ((f, R) :: L)).p (.ins C dx (putF f v fs)) G := by
  obtain ⟨dx', fs', e1, h2, h3⟩ := h
  cases e1
  refine ⟨dx, _, rfl, Nat.le_trans (length_putF f v fs) (by rw [List.length_cons]; omega), fun q hq => ?_⟩
  rcases List.mem_cons.mp hq with rfl | hq
  · exact ⟨v, by rw [lookup_putF, if_pos rfl], hv⟩
  · obtain ⟨z, h4, h5⟩ := h3 q hq
    exact ⟨z, by rw [lookup_putF, if_neg (hf q hq)]; exact h4, h5⟩
/-- self.f = te -/
theorem hl_fld (cl : Cls K C) (na : NoAttr K C f) (hi : Rs[i]? = some (some (cst (.ref p)))) (h : EL W ((p, OI C L) :: O) k te Rs R) (q : HL W G0 (n + k) ((p, OI C ((f, R) :: L)) :: O) Rs u E) (hf : ∀ q ∈ L, q.1 ≠ f) (hL : L.length ≤ 100) (hn : n + k ≤ 1000000 := by omega) : HL W G0 n ((p, OI C L) :: O) Rs (tSeq (sFld K (tVar i) te f) u) E := fun σ H ⟨G, s, sl, w⟩ => by
  refine h σ G H n _ sl w hn fun v G2 H2 s2 w2 pv => ?_
  obtain ⟨x, h1, h2⟩ := sl.get i _ hi
  obtain rfl : x = .ref p := h2
  obtain ⟨_, _, _, o, h4, _, hO⟩ := w2.o _ (List.mem_cons_self ..)
  obtain ⟨dx, fs, rfl, h5, h6⟩ := id hO
  refine ⟨_, h1, p, C, dx, fs, rfl, h4, cl, na, by omega, q _ _ ⟨G2, s.trans s2, sl.st s2, ?_⟩⟩
  exact w2.put (fun u ⟨_, _, e, _⟩ => by rw [e]; rfl) rfl (oi_put hO hf pv)
/-- its fields, read -/
theorem el_fldO (cl : Cls K C) (na : NoAttr K C f) (hi : Rs[i]? = some (some (cst (.ref p)))) (hO : (p, OI C L) ∈ O) (hf : (f, R) ∈ L) : EL W O 0 (tFld K (tVar i) f) Rs R := fun σ G H n Q sl w hn kk => by
  obtain ⟨x, h1, h2⟩ := sl.get i _ hi
  obtain rfl : x = .ref p := h2
  obtain ⟨_, _, _, o, h4, _, dx, fs, rfl, h5, h6⟩ := w.o _ hO
  obtain ⟨v, h7, h8⟩ := h6 _ hf
  exact ⟨_, h1, p, C, dx, fs, v, rfl, h4, cl, na, h7, kk v G H (Same.refl G) w h8⟩
theorem WalkR.st {b : Bool} {J : It} {G2 : Hp} (h : WalkR b J e xs G (fun _ => True)) (s : Same G G2) : WalkR b J e xs G2 (fun _ => True) :=
  ⟨h.len, fun i G3 H3 hi s3 => h.goes i G3 H3 hi (s.trans s3), fun G3 H3 s3 => h.stops G3 H3 (s.trans s3), fun i a G3 H3 x H' hx s3 => h.yields i a G3 H3 x H' hx (s.trans s3)⟩
/-- {c: [] for c in ..} -/
theorem elm_new {cs : List Str} (e : α → SR) (K : PySem.W.Frag) {wi : TI} (hi : EIL W O k wi Rs S cs) (nd : cs.Nodup) (σ : L2.St) (G H : Hp) (n : Nat) (Q : VK) (sl : Slots G σ Rs) (w : Wd W n O G H) (hn : n + k ≤ 1000000) (kk : ∀ D pl G2 H2, Same G G2 → Wd W (n + k) (omO e D pl (fun _ => []) cs ++ O) G2 H2 → Q (.ref D) H2) (hj : j < Rs.length := by simp) : tDc wi (gName j) tYes (tVar j) (tLst tNil) [j] σ H Q :=
  hi σ G H n _ sl w hn fun J G2 H2 s2 w2 WR => by
    refine om_new (K := K) (wi := fun _ H Q => Q J H) (σ := σ) (G := G2) (H := H2) (fun G1 H1 s1 r1 Rr k => k J G1 H1 (Go.refl _ _) (WR.st s1)) nd (fun a ha x G' s' hx => ⟨_, gto_name, ?_, ev_var ?_ hx⟩) w2.r fun D pl G3 H3 g o => kk D pl G3 H3 (s2.trans g.g) (om_own w2 g o nd)
    · exact (wipe_set (List.mem_singleton.mpr rfl)).trans (by
        apply List.ext_getElem?
        intro z
        rw [wipe_get, wipe_get, wipe_length]
        split <;> rfl)
    · rw [List.getElem?_set_self]
      rw [wipe_length, sl.len]
      exact hj
/-- self.f = {c: [] for c in ..} -/
theorem hl_fldM {cs : List Str} (e : α → SR) (cl : Cls K C) (na : NoAttr K C f) {wi : TI} (hi : Rs[i]? = some (some (cst (.ref p)))) (h : EIL W ((p, OI C L) :: O) k wi Rs S cs) (nd : cs.Nodup) (q : ∀ D pl, HL W G0 (n + k) ((p, OI C ((f, cst (.ref D)) :: L)) :: (omO e D pl (fun _ => []) cs ++ O)) Rs u E) (hf : ∀ q ∈ L, q.1 ≠ f) (hL : L.length ≤ 100) (hn : n + k ≤ 1000000 := by omega) (hj : j < Rs.length := by simp) : HL W G0 n ((p, OI C L) :: O) Rs (tSeq (sFld K (tVar i) (tDc wi (gName j) tYes (tVar j) (tLst tNil) [j]) f) u) E := fun σ H ⟨G, s, sl, w⟩ => by
  refine elm_new e K h nd σ G H n (fun y H1 => tVar i σ H1 fun x H2 => ∃ a C dx fs, x = V.ref a ∧ H2 a = some (.ins C dx fs) ∧ Cls K C ∧ NoAttr K C f ∧ fs.length < 1000 ∧ u E σ (upd H2 a (.ins C dx (putF f y fs)))) sl w hn (fun D pl G2 H2 s2 w2 => ?_) hj
  obtain ⟨x, h1, h2⟩ := sl.get i _ hi
  obtain rfl : x = .ref p := h2
  have w3 : Wd W (n + k) ((p, OI C L) :: (omO e D pl (fun _ => []) cs ++ O)) G2 H2 := w2.perm List.perm_middle.symm
  obtain ⟨_, _, _, o, h4, _, hO⟩ := w3.o _ (List.mem_cons_self ..)
  obtain ⟨dx, fs, rfl, h5, h6⟩ := id hO
  refine ⟨_, h1, p, C, dx, fs, rfl, h4, cl, na, by omega, q D pl _ _ ⟨G2, s.trans s2, sl.st s2, ?_⟩⟩
  exact w3.put (fun u ⟨_, _, e, _⟩ => by rw [e]; rfl) rfl (oi_put (R := cst (.ref D)) hO hf rfl)
/-- found[c].append(a), found told by what else is owned -/
theorem hl_pushM2 {pl : Str → Addr} {acc : Str → List α} {cs : List Str} {c : Str} {a : α} (nd : cs.Nodup) (hc : c ∈ cs) (ho : ∀ O', (D, OEx (.dK (cs.map fun c => (Sum.inr c, V.ref (pl c))))) ∈ O' → (∀ q ∈ O, q ∈ O') → EL W O' k to Rs (cst (.ref (pl c)))) (h : ∀ O', EL W O' m te Rs (e a)) (hl : (acc c).length ≤ 100000) (q : HL W G0 (n + (k + m)) (omO e D pl (fun x => if x = c then acc c ++ [a] else acc x) cs ++ O) Rs u E) (hn : n + (k + m) ≤ 1000000 := by omega) : HL W G0 n (omO e D pl acc cs ++ O) Rs (tSeq (tDrop (tBM K "list" rAppend to (tCons te tNil))) u) E := by
  obtain ⟨rest, h1, h2⟩ := om_perm (e := e) (D := D) (pl := pl) (acc := acc) (O := O) nd hc
  refine HL.perm ?_ h1.symm
  exact hl_pushE (ho _ (h1.mem_iff.mp (List.mem_append_left _ (List.mem_cons_self ..))) fun q hq => h1.mem_iff.mp (List.mem_append_right _ hq)) (h _) hl (HL.perm q (h2 _).symm) hn
/-- d[k], d a dict of one's own that an expression tells -/
theorem el_dgetE {M : Addr} {kvs : List (Key × V)} {s : Str} {v : V} {ty : TE} (hd : EL W O k ta Rs (cst (.ref M))) (hM : (M, OEx (.dK kvs)) ∈ O) (hb : EL W O m ty Rs (S s)) (hv : valV kvs (Sum.inr s : Key) = some v) : EL W O (k + m) (tDGet ta ty) Rs (cst v) := fun σ G H n Q sl w hn kk => by
  refine hd σ G H n _ sl w (by omega) fun x G1 H1 s1 w1 hx => ?_
  obtain rfl : x = .ref M := hx
  refine hb σ G1 H1 (n + k) _ (sl.st s1) w1 (by omega) fun y G2 H2 s2 w2 ⟨q, _⟩ => ?_
  subst q
  obtain ⟨_, _, _, o, h4, _, rfl⟩ := w2.o _ hM
  exact ⟨M, v, rfl, .inl ⟨kvs, Sum.inr s, .inl h4, rfl, hv.symm⟩, kk v G2 H2 (s1.trans s2) (w2.eq (by omega)) rfl⟩
/-! ### while True, left by a return -/
theorem hl_forever {tt : TT} {tb' : TS} {δ : Type} (P : Nat → δ → Prop) (Of : δ → Own) (Rf : δ → RL) (z : Nat) (d0 : δ) (h0 : P 0 d0) (hO : Of d0 = O) (hR : ∀ G, Slk G Rs (Rf d0)) (ht : ∀ d, ETL W (Of d) 0 tt (Rf d) true)
    (hb : ∀ (i : Nat) (d : δ) (E' : Ends) (G1 : Hp), P i d → i < z → E'.rt = E.rt → Same G0 G1 → (∀ d' σ H, P (i + 1) d' → i + 1 < z → At W G1 n (Of d') (Rf d') σ H → E'.nx σ H) → HL W G1 n (Of d) (Rf d) tb' E') (hz : 0 < z) (hn : n ≤ 1000000 := by omega) : HL W G0 n O Rs (tSeq (tWhile tt tb') u) E := fun σ H ⟨G, s, sl, w⟩ => by
  refine ⟨fun y σ H => ∃ i, y = z - i ∧ i < z ∧ ∃ d, P i d ∧ ∃ G', Same G0 G' ∧ Slots G' σ (Rf d) ∧ Wd W n (Of d) G' H, ⟨z, 0, rfl, hz, d0, h0, G, s, sl.weak (hR G), by rw [hO]; exact w⟩, ?_⟩
  rintro y σ' H' ⟨i, rfl, hi, d, hP, G', s0, sl', w'⟩
  refine ht d σ' G' H' n _ sl' w' hn fun b G2 H2 s2 w2 eb => ?_
  subst eb
  rw [if_pos rfl]
  refine ⟨fun σ H => i + 1 < z ∧ ∃ d, P (i + 1) d ∧ ∃ G', Same G0 G' ∧ Slots G' σ (Rf d) ∧ Wd W n (Of d) G' H, fun σ H ⟨h1, h2⟩ => ⟨z - (i + 1), by omega, i + 1, rfl, h1, h2⟩, ?_⟩
  exact hb i d { E with nx := fun σ H => i + 1 < z ∧ ∃ d, P (i + 1) d ∧ ∃ G', Same G0 G' ∧ Slots G' σ (Rf d) ∧ Wd W n (Of d) G' H, ct := fun σ H => i + 1 < z ∧ ∃ d, P (i + 1) d ∧ ∃ G', Same G0 G' ∧ Slots G' σ (Rf d) ∧ Wd W n (Of d) G' H, bk := u E } G2 hP hi rfl (s0.trans s2) (fun d' σ H hP' hi' ⟨G, z1, z2, z3⟩ => ⟨hi', d', hP', G, (s0.trans s2).trans z1, z2, z3⟩) σ' H2 ⟨G2, Same.refl _, sl'.st s2, w2⟩
end
end Gd

-- part D1
set_option Elab.async false
set_option linter.all false
set_option maxRecDepth 100000
set_option maxHeartbeats 1000000
/-! ### debates -/
namespace Gd
open PySem PySem.Spec PyProof.Rows L2
universe u
abbrev s_as_tuples : Stmt := topS 11
theorem sc_as_tuples : FnScope ["thing", "part"] ["thing"] (defScope s_as_tuples) := ⟨rfl, rfl, rfl, by decide +kernel, rfl, by decide +kernel, by decide +kernel⟩
abbrev s_checked_statements : Stmt := topS 19
theorem sc_checked_statements : FnScope ["statements", "index", "thing"] ["statements"] (defScope s_checked_statements) := ⟨rfl, rfl, rfl, by decide +kernel, rfl, by decide +kernel, by decide +kernel⟩
abbrev s_is_pair_of : Stmt := topS 20
theorem sc_is_pair_of : FnScope ["thing", "statements", "one"] ["thing", "statements"] (defScope s_is_pair_of) := ⟨rfl, rfl, rfl, by decide +kernel, rfl, by decide +kernel, by decide +kernel⟩
abbrev s_checked_objections : Stmt := topS 21
theorem sc_checked_objections : FnScope ["objections", "statements", "known", "index", "thing"] ["objections", "statements"] (defScope s_checked_objections) := ⟨rfl, rfl, rfl, by decide +kernel, rfl, by decide +kernel, by decide +kernel⟩
abbrev s_Debate_init : Stmt := inClass (topS 22) 0
theorem sc_Debate_init : FnScope ["self", "statements", "objections", "one", "other", "statement"] ["self", "statements", "objections"] (defScope s_Debate_init) := ⟨rfl, rfl, rfl, by decide +kernel, rfl, by decide +kernel, by decide +kernel⟩
/-- a pair, a list or a tuple -/
abbrev Pq (K : PySem.W.Frag) (p : Str × Str) : SR := Sq K S [p.1, p.2]
abbrev Deb := List Str × List (Str × Str)
theorem sqv_of' {K : PySem.W.Frag} {α : Type} {e : α → SR} {xs : List α} {v : V} {G : Hp} (h : (Sq K e xs).p v G) : (SqV K).p v G := sqv_of h
theorem al_ok : ∀ {xs : List Str} {vs : List V} {G : Hp}, Al S xs vs G → ∀ x ∈ xs, okS x = true
  | _, _, _, .nil, _, h => by cases h
  | _, _, _, .cons p t, x, h => by
    rcases List.mem_cons.mp h with rfl | h
    · exact p.2
    · exact al_ok t x h
theorem sq_ok {K : PySem.W.Frag} {xs : List Str} {v : V} {G : Hp} (h : (Sq K S xs).p v G) : ∀ x ∈ xs, okS x = true := by
  rcases h with ⟨_, _, _, _, _, h⟩ | ⟨_, _, _, _, _, h⟩ <;> exact al_ok h
section
variable {P : Program} {w : World} {K : PySem.W.Frag} {mg : Str → Option Value} {base : Heap} {aL : Addr}
def sp_is_listF : Sp := spF false (fun s : Str => [S s]) (fun _ => True) (fun _ => B false)
theorem ok_is_listF (F : Fn K mg "is_list" s_is_list ["thing"]) (T : Txt K mg aL) : C8.Cal P w K mg base 1 "is_list" sp_is_listF [] := by
  refine cal_of F sc_is_list (fun vs H Q E h => spF_len h fun _ => rfl) (fun f cdv A outer s H vs Q E hr h => ?_)
  obtain ⟨x, G, v, rfl, r, _, hv, k⟩ := sp1 h fun _ => rfl
  refine ⟨_, (pss_one (ps_ret (pe_callB (call_isiTK (K := K)) rfl T.isinstance boot_isinstance (pa_cons (pv 0) (pa_cons (pe_tup (pa_cons (pe_bltn (v := .ty "list") rfl T.list boot_list rfl) (pa_cons (pe_bltn (v := .ty "tuple") rfl T.tuple boot_tuple rfl) pa_nil))) pa_nil))))), ?_⟩
  exact ts_ret (ev_isiLT0 (ev_var rfl hv) hty_S) r k
def sp_asB : Sp := fun vs H Q E => False
theorem ok_asB (F : Fn K mg "as_tuples" s_as_tuples ["thing"]) : C8.Cal P w K mg base 1 "as_tuples" sp_asB [] := cal_of F sc_as_tuples (fun vs H Q E h => h.elim) (fun f cdv A outer s H vs Q E hr h => h.elim)
def sp_as0 : Sp := spF true (fun s : Str => [S s]) (fun _ => True) (fun s => S s)
theorem ok_as0 (F : Fn K mg "as_tuples" s_as_tuples ["thing"]) (T : Txt K mg aL) (c_is_listF : C8.Cal P w K mg base 1 "is_list" sp_is_listF []) (c_as_tuples : C8.Cal P w K mg base 1 "as_tuples" sp_asB []) : C8.Cal P w K mg base 2 "as_tuples" sp_as0 [] := by
  refine cal_of F sc_as_tuples (fun vs H Q E h => spF_len h fun _ => rfl) (fun f cdv A outer s H vs Q E hr h => ?_)
  obtain ⟨x, G, v, rfl, r, _, hv, k⟩ := sp1 h fun _ => rfl
  refine ⟨_, (pss_one (ps_ret (pe_ifExp (pt_val (C8.pe_c c_is_listF hr (by first | decide | omega) rfl (pa_cons (pv 0) pa_nil))) (pe_callTy (call_tupK (K := K)) rfl T.tuple boot_tuple (pa_cons (pe_lc (own := [("part", 1)]) rfl sc_as_tuples.nd (pi_seqK (K := K) (pv 0)) (blkOk_by (by kernel_rfl)) (fun _ _ _ _ _ => (pg_name (i := 1) sc_as_tuples.nd rfl (by first | exact Or.inl rfl | exact Or.inr rfl))) (fun _ _ _ _ _ => pts_nil) (fun _ _ _ _ _ => (C8.pe_c c_as_tuples hr (by first | decide | omega) rfl (pa_cons (pv 1) pa_nil)))) pa_nil)) (pv 0)))), ?_⟩
  exact ts_ret (ev_if (c := false) (et_B (ev_call x (ea_cons (ev_var rfl hv) ea_nil) trivial)) (fun h => by cases h) fun _ => ev_var rfl hv) r k
def sp_as1 (K : PySem.W.Frag) : Sp := spF true (fun xs : List Str => [Sq K S xs]) (fun _ => True) (fun xs => TpR S xs)
theorem ok_as1 (F : Fn K mg "as_tuples" s_as_tuples ["thing"]) (T : Txt K mg aL) (c_is_list : C8.Cal P w K mg base 1 "is_list" (sp_is_list K) []) (c_as_tuples : C8.Cal P w K mg base 2 "as_tuples" sp_as0 []) : C8.Cal P w K mg base 3 "as_tuples" (sp_as1 K) [] := by
  refine cal_of F sc_as_tuples (fun vs H Q E h => spF_len h fun _ => rfl) (fun f cdv A outer s H vs Q E hr h => ?_)
  obtain ⟨xs, G, v, rfl, r, _, hv, k⟩ := sp1 h fun _ => rfl
  refine ⟨_, (pss_one (ps_ret (pe_ifExp (pt_val (C8.pe_c c_is_list hr (by first | decide | omega) rfl (pa_cons (pv 0) pa_nil))) (pe_callTy (call_tupK (K := K)) rfl T.tuple boot_tuple (pa_cons (pe_lc (own := [("part", 1)]) rfl sc_as_tuples.nd (pi_seqK (K := K) (pv 0)) (blkOk_by (by kernel_rfl)) (fun _ _ _ _ _ => (pg_name (i := 1) sc_as_tuples.nd rfl (by first | exact Or.inl rfl | exact Or.inr rfl))) (fun _ _ _ _ _ => pts_nil) (fun _ _ _ _ _ => (C8.pe_c c_as_tuples hr (by first | decide | omega) rfl (pa_cons (pv 1) pa_nil)))) pa_nil)) (pv 0)))), ?_⟩
  refine ts_ret (ev_if (c := true) (et_B (ev_call () (ea_cons ((ev_var rfl hv).is fun _ _ _ q => sqv_of' q) ea_nil) trivial)) (fun _ => ?_) fun h => by cases h) r k
  have h : EvN true (tLc (iSeq K (tVar 0)) (gName 1) tYes (tCall sp_as0 [] C8.E0 (tCons (tVar 1) tNil)) [1]) [some v, none] G S (xs.map fun a => a) := en_map (ei_sq (ev_var (i := 0) rfl hv)) fun a ha y G' s hy => ⟨_, gto_name, rfl, ev_call a (ea_cons (ev_var rfl hy) ea_nil) trivial⟩
  rw [List.map_id'] at h
  exact ev_tupR h.ev
def sp_checked_statements (K : PySem.W.Frag) : Sp := spF false (fun xs : List Str => [Sq K S xs]) (fun xs => (∀ x ∈ xs, isName x = true) ∧ xs.Nodup) (fun xs => Lst S (srt PyData.str xs))
theorem ok_checked_statements (F : Fn K mg "checked_statements" s_checked_statements ["statements"]) (T : Txt K mg aL) (c_is_list : C8.Cal P w K mg base 1 "is_list" (sp_is_list K) []) (c_is_name : C8.Cal P w K mg base 1 "is_name" sp_is_name []) : C8.Cal P w K mg base 2 "checked_statements" (sp_checked_statements K) [] := by
  refine cal_of F sc_checked_statements (fun vs H Q E h => spF_len h fun _ => rfl) (fun f cdv A outer s H vs Q E hr h => ?_)
  obtain ⟨xs, G, v, rfl, r, ⟨hx, nd⟩, hv, k⟩ := sp1 h fun _ => rfl
  have hu64 := hu64_of hr
  refine ⟨_, (pss_cons (ps_if (pt_not (pt_val (C8.pe_c c_is_list hr (by first | decide | omega) rfl (pa_cons (pv 0) pa_nil)))) (pss_one ps_never) pss_nil)
      (pss_cons (ps_for PassesOwn.never rfl (pi_enumK (K := K) rfl T.enumerate (pa_cons (pv 0) pa_nil)) (pg_tupK (K := K) (n := 2) rfl (pgs_cons (pg_name (i := 1) sc_checked_statements.nd rfl (by first | exact Or.inl rfl | exact Or.inr rfl)) (pgs_cons (pg_name (i := 2) sc_checked_statements.nd rfl (by first | exact Or.inl rfl | exact Or.inr rfl)) pgs_nil))) (pss_one (ps_if (PW.pt (pw_or (pt_not (pt_val (C8.pe_c c_is_name hr (by first | decide | omega) rfl (pa_cons (pv 2) pa_nil)))) (pw_or1 (pt_cmpR (op_inK (K := K)) (pv 2) (pe_slice (sl_qK (K := K)) (pv 0) po_none (po_some (pv 1))) (by with_unfolding_all rfl))))) (pss_one ps_never) pss_nil)))
      (pss_one (ps_ret (pe_callB (call_srtK (K := K) hu64) rfl T.sorted boot_sorted (pa_cons (pv 0) pa_nil)))))), ?_⟩
  refine tq_ifF (EvT.eq (et_not (et_B (ev_call () (ea_cons ((ev_var rfl hv).is fun _ _ _ q => sqv_of q) ea_nil) trivial))) rfl) r fun G2 H2 g => ?_
  have hv2 := (Sq K S xs).st g.g hv
  refine tq_each (fun σ => ∃ y1 y2, σ = [some v, y1, y2]) ⟨_, _, rfl⟩ (ei_enum (ev_var rfl hv2)) (g.r _ r) ?_ ?_
  · rintro i ⟨j, x⟩ hp y G' H' σ' D' s r' ⟨ad, v1, v2, rfl, hT, h1, h2⟩ ⟨y1, y2, rfl⟩ _ kn
    obtain ⟨rfl, hxi⟩ := enumI_get hp
    refine gto_tup2 hT H' r' _ ?_
    refine ts_ifFN (EvT.eq (et_or (et_not (et_B (ev_call x (ea_cons (ev_var rfl h2) ea_nil) (hx x (List.mem_of_getElem? hxi))))) fun _ => et_test (ev_in (ev_var rfl h2) (ev_takeQ (ev_var rfl ((Sq K S xs).st s hv2)) (eo_some (ev_var rfl h1))))) ?_) r' fun G3 H3 g3 => kn _ G3 H3 g3 ⟨_, _, rfl⟩
    have hn : x ∉ xs.take i := nodup_take nd hxi
    simp [hn]
  · rintro σ' G3 H3 g3 ⟨y1, y2, rfl⟩
    refine ts_ret (EvN.ev (en_sorted (ev_var rfl ((Sq K S xs).st g3.g hv2)) enc_S alk_S (sortable_S xs))) (g3.r _ (g.r _ r)) fun u G4 H4 g4 p => k u G4 H4 ((g.trans g3).trans g4) p
def sp_is_pair_of (K : PySem.W.Frag) : Sp := spF true (fun i : (Str × Str) × List Str => [Pq K i.1, Sq K S i.2]) (fun i => i.1.1 ∈ i.2 ∧ i.1.2 ∈ i.2) (fun _ => B true)
theorem ok_is_pair_of (F : Fn K mg "is_pair_of" s_is_pair_of ["thing", "statements"]) (T : Txt K mg aL) (c_is_list : C8.Cal P w K mg base 1 "is_list" (sp_is_list K) []) : C8.Cal P w K mg base 2 "is_pair_of" (sp_is_pair_of K) [] := by
  refine cal_of F sc_is_pair_of (fun vs H Q E h => spF_len h fun _ => rfl) (fun f cdv A outer s H vs Q E hr h => ?_)
  obtain ⟨⟨p, cs⟩, G, v, w, rfl, r, ⟨h1, h2⟩, hv, hw, k⟩ := sp2 h fun _ => rfl
  refine ⟨_, (pss_one (ps_ret (pe_and (C8.pe_c c_is_list hr (by first | decide | omega) rfl (pa_cons (pv 0) pa_nil)) (pe_and (pe_cmpR op_eq (pe_callB (call_lenK (K := K)) rfl T.len PySem.boot_len (pa_cons (pv 0) pa_nil)) pe_int (nomark _)) (pe_one (pe_callB (call_allK (K := K) rfl) rfl T.all boot_all (pa_cons (pe_lc (own := [("one", 2)]) rfl sc_is_pair_of.nd (pi_seqK (K := K) (pv 0)) (blkOk_by (by kernel_rfl)) (fun _ _ _ _ _ => (pg_name (i := 2) sc_is_pair_of.nd rfl (by first | exact Or.inl rfl | exact Or.inr rfl))) (fun _ _ _ _ _ => pts_nil) (fun _ _ _ _ _ => (pe_and (pe_callB (call_isiKK (K := K)) rfl T.isinstance boot_isinstance (pa_cons (pv 2) (pa_cons (pe_bltn (v := .ty "str") rfl T.str boot_str rfl) pa_nil))) (pe_one (pe_cmpR (op_inK (K := K)) (pv 2) (pv 1) (by with_unfolding_all rfl)))))) pa_nil))))))), ?_⟩
  refine ts_ret (Ev.eq (R' := B true) (ev_and (ev_call () (ea_cons ((ev_var rfl hv).is fun _ _ _ q => sqv_of' q) ea_nil) trivial) fun _ => ev_and (ev_eqI (ev_len (ev_var rfl hv)) ev_int) fun _ => ev_allL (en_map (ei_sq (ev_var rfl hv)) fun a ha y G' s hy =>
    ⟨_, gto_name, rfl, ev_and (ev_isi (r := true) (ev_var rfl hy) hty_S) fun _ => ev_in (ev_var rfl hy) (ev_var rfl ((Sq K S cs).st s hw))⟩)) ?_) r k
  simp [h1, h2]
end
end Gd

-- part D2
set_option Elab.async false
set_option linter.all false
set_option maxRecDepth 100000
set_option maxHeartbeats 1000000
namespace Gd
open PySem PySem.Spec PyProof.Rows L2
universe u
/-- an instance of C, frozen, its fields told -/
def InsR (C : Addr) (L : List (Str × SR)) : SR := ⟨fun u G => ∃ a dx fs, u = .ref a ∧ G a = some (.ins C dx fs) ∧ ∀ q ∈ L, ∃ v, fs.lookup q.1 = some v ∧ q.2.p v G,
  fun s ⟨a, dx, fs, h1, h2, h3⟩ => ⟨a, dx, fs, h1, s _ _ h2, fun q hq => let ⟨v, h4, h5⟩ := h3 q hq; ⟨v, h4, q.2.st s h5⟩⟩⟩
theorem ev_insF {K : PySem.W.Frag} {b : Bool} {σ : L2.St} {G : Hp} {te : TE} {C : Addr} {L : List (Str × SR)} {f : Str} {R : SR} (h : Ev b te σ G (InsR C L)) (cl : Cls K C) (na : NoAttr K C f) (hf : (f, R) ∈ L) : Ev b (tFld K te f) σ G R := ev_fld h cl na fun u G' ⟨a, dx, fs, h1, h2, h3⟩ => let ⟨v, h4, h5⟩ := h3 _ hf; ⟨a, dx, fs, v, h1, h2, h4, h5⟩
theorem el_insF {K : PySem.W.Frag} {W : SC} {O : Own} {k : Nat} {Rs : RL} {te : TE} {C : Addr} {L : List (Str × SR)} {f : Str} {R : SR} (h : EL W O k te Rs (InsR C L)) (cl : Cls K C) (na : NoAttr K C f) (hf : (f, R) ∈ L) : EL W O k (tFld K te f) Rs R := el_f1 (fun a => tFld K a f) h fun _ _ _ p => ev_insF (ev_cR' p) cl na hf
/-! ### the data of a debate -/
def tosP (ps : List (Str × Str)) (s : Str) : List Str := (ps.filter fun p => decide (p.2 = s)).map (·.1)
def fromP (ps : List (Str × Str)) (s : Str) : List Str := (ps.filter fun p => decide (p.1 = s)).map (·.2)
theorem tosP_snoc (ps : List (Str × Str)) (p : Str × Str) (s : Str) : tosP (ps ++ [p]) s = if s = p.2 then tosP ps p.2 ++ [p.1] else tosP ps s := by
  unfold tosP
  rw [List.filter_append, List.map_append]
  by_cases e : s = p.2
  · subst e; simp
  · rw [if_neg e]
    have : p.2 ≠ s := fun z => e z.symm
    simp [this]
theorem fromP_snoc (ps : List (Str × Str)) (p : Str × Str) (s : Str) : fromP (ps ++ [p]) s = if s = p.1 then fromP ps p.1 ++ [p.2] else fromP ps s := by
  unfold fromP
  rw [List.filter_append, List.map_append]
  by_cases e : s = p.1
  · subst e; simp
  · rw [if_neg e]
    have : p.1 ≠ s := fun z => e z.symm
    simp [this]
theorem tosP_len (ps : List (Str × Str)) (s : Str) : (tosP ps s).length ≤ ps.length := by
  unfold tosP
  rw [List.length_map]
  exact List.length_filter_le _ _
theorem fromP_len (ps : List (Str × Str)) (s : Str) : (fromP ps s).length ≤ ps.length := by
  unfold fromP
  rw [List.length_map]
  exact List.length_filter_le _ _
def dbF (K : PySem.W.Frag) (d : Deb) : List (Str × SR) := [("own_objected", Dct (Lst S) (d.1.map fun s => (s, fromP d.2 s))), ("own_objectors", Dct (Lst S) (d.1.map fun s => (s, tosP d.2 s))), ("own_objections", Lst (Pr K S S) d.2), ("own_statements", Lst S d.1)]
/-- an instance of Debate -/
abbrev DB (K : PySem.W.Frag) (C : Addr) (d : Deb) : SR := InsR C (dbF K d)
/-- the class -/
structure DCls (K : PySem.W.Frag) (C : Addr) : Prop where
  cl : Cls K C
  nS : NoAttr K C "own_statements"
  nO : NoAttr K C "own_objections"
  nT : NoAttr K C "own_objectors"
  nF : NoAttr K C "own_objected"
def okD (i : Deb) : Prop := ((∀ x ∈ i.1, isName x = true) ∧ i.1.Nodup ∧ i.1.length ≤ 1000) ∧ i.2.Nodup ∧ (∀ p ∈ i.2, p.1 ∈ i.1 ∧ p.2 ∈ i.1) ∧ i.2.length ≤ 10000
def mkD (i : Deb) : Deb := (srt PyData.str i.1, srt pT i.2)
section
variable {K : PySem.W.Frag} {W : SC} {O : Own} {k n : Nat} {Rs : RL} {te : TE} {C : Addr} {d : Deb} {b : Bool} {σ : L2.St} {G : Hp}
theorem el_dbS (T : DCls K C) (h : EL W O k te Rs (DB K C d)) : EL W O k (tFld K te "own_statements") Rs (Lst S d.1) := el_insF h T.cl T.nS (by unfold dbF; simp)
theorem el_dbO (T : DCls K C) (h : EL W O k te Rs (DB K C d)) : EL W O k (tFld K te "own_objections") Rs (Lst (Pr K S S) d.2) := el_insF h T.cl T.nO (by unfold dbF; simp)
theorem el_dbT (T : DCls K C) (h : EL W O k te Rs (DB K C d)) : EL W O k (tFld K te "own_objectors") Rs (Dct (Lst S) (d.1.map fun s => (s, tosP d.2 s))) := el_insF h T.cl T.nT (by unfold dbF; simp)
theorem el_dbF (T : DCls K C) (h : EL W O k te Rs (DB K C d)) : EL W O k (tFld K te "own_objected") Rs (Dct (Lst S) (d.1.map fun s => (s, fromP d.2 s))) := el_insF h T.cl T.nF (by unfold dbF; simp)
theorem ev_dbS (T : DCls K C) (h : Ev b te σ G (DB K C d)) : Ev b (tFld K te "own_statements") σ G (Lst S d.1) := ev_insF h T.cl T.nS (by unfold dbF; simp)
theorem ev_dbO (T : DCls K C) (h : Ev b te σ G (DB K C d)) : Ev b (tFld K te "own_objections") σ G (Lst (Pr K S S) d.2) := ev_insF h T.cl T.nO (by unfold dbF; simp)
theorem ev_dbT (T : DCls K C) (h : Ev b te σ G (DB K C d)) : Ev b (tFld K te "own_objectors") σ G (Dct (Lst S) (d.1.map fun s => (s, tosP d.2 s))) := ev_insF h T.cl T.nT (by unfold dbF; simp)
theorem ev_dbF (T : DCls K C) (h : Ev b te σ G (DB K C d)) : Ev b (tFld K te "own_objected") σ G (Dct (Lst S) (d.1.map fun s => (s, fromP d.2 s))) := ev_insF h T.cl T.nF (by unfold dbF; simp)
end
section
variable {P : Program} {w : World} {K : PySem.W.Frag} {mg : Str → Option Value} {base : Heap} {aL : Addr} {Tb : List (Addr × Str)}
def sp_checked_objections (K : PySem.W.Frag) (Tb : List (Addr × Str)) : Sp := spM Tb (fun i : List (Str × Str) × List Str => [Sq K (Pq K) i.1, Lst S i.2]) (fun i => i.1.Nodup ∧ (∀ p ∈ i.1, p.1 ∈ i.2 ∧ p.2 ∈ i.2) ∧ i.1.length ≤ 10000) (fun i => Lst (Pr K S S) (srt pT i.1))
theorem ok_checked_objections (F : Fn K mg "checked_objections" s_checked_objections ["objections", "statements"]) (T : Txt K mg aL) (c_is_list : C8.Cal P w K mg base 1 "is_list" (sp_is_list K) []) (c_is_pair_of : C8.Cal P w K mg base 2 "is_pair_of" (sp_is_pair_of K) []) (c_as_tuples : C8.Cal P w K mg base 3 "as_tuples" (sp_as1 K) []) : C8.Cal P w K mg base 4 "checked_objections" (sp_checked_objections K Tb) [] := by
  refine cal_of F sc_checked_objections (fun vs H Q E h => spM_len h fun _ => rfl) (fun f cdv A outer s H vs Q E hr h => ?_)
  have hu64 := hu64_of hr
  have hu := hu_of hr
  obtain ⟨⟨ps, ss⟩, st, c, n, O, G, w0, hn, ⟨nd, hm, hl⟩, al, k⟩ := h
  have hl : ps.length ≤ 10000 := hl
  have nd : ps.Nodup := nd
  refine ⟨_, (pss_cons (ps_if (pt_not (pt_val (C8.pe_c c_is_list hr (by first | decide | omega) rfl (pa_cons (pv 0) pa_nil)))) (pss_one ps_never) pss_nil)
      (pss_cons (ps_set (i := 2) sc_checked_objections.nd rfl (by first | exact Or.inl rfl | exact Or.inr rfl) pe_dnewT)
      (pss_cons (ps_for PassesOwn.never rfl (pi_enumK (K := K) rfl T.enumerate (pa_cons (pv 0) pa_nil)) (pg_tupK (K := K) (n := 2) rfl (pgs_cons (pg_name (i := 3) sc_checked_objections.nd rfl (by first | exact Or.inl rfl | exact Or.inr rfl)) (pgs_cons (pg_name (i := 4) sc_checked_objections.nd rfl (by first | exact Or.inl rfl | exact Or.inr rfl)) pgs_nil))) (pss_cons (ps_if (PW.pt (pw_or (pt_not (pt_val (C8.pe_c c_is_pair_of hr (by first | decide | omega) rfl (pa_cons (pv 4) (pa_cons (pv 1) pa_nil))))) (pw_or1 (pt_cmp (pc_din hu (C8.pe_c c_as_tuples hr (by first | decide | omega) rfl (pa_cons (pv 4) pa_nil)) (pv 2)))))) (pss_one ps_never) pss_nil)
      (pss_one (ps_dput hu (pv 2) (C8.pe_c c_as_tuples hr (by first | decide | omega) rfl (pa_cons (pv 4) pa_nil)) pe_bl rfl))))
      (pss_one (ps_ret (pe_callB (call_srtT (K := K) hu64) rfl T.sorted boot_sorted (pa_cons (pv 2) pa_nil))))))), ?_⟩
  have hok : ∀ s ∈ ss, okS s = true := by
    obtain ⟨v, w', rfl, h1, h2⟩ := alr2 al
    exact sq_ok (K := K) (.inl h2)
  refine (?_ : HL ⟨st, c, Tb⟩ G n O [some (Sq K (Pq K) ps), some (Lst S ss), none, none, none] _ _) _ _ ⟨G, Same.refl G, by have h := slots_start (N := ["objections", "statements", "known", "index", "thing"]) al; rw [alr_len al] at h; exact h, w0⟩
  refine hl_ifF (k := 0) (ETL.eq (etl_not (etl_B (el_call () (eal_cons ((el_var (i := 0) rfl).is fun _ _ q => sqv_of' q) eal_nil) trivial))) rfl) ?_
  refine hl_setN (k := 0) elo_dnewT fun D => ?_
  dsimp only [List.set]
  refine hl_for (k := 0) (e := Pr K I (Pq K)) (xs := enumI ps) (δ := List (Str × Str)) (fun i d => d = ps.take i) (fun d => (D, OT d) :: O) (fun _ => [some (Sq K (Pq K) ps), some (Lst S ss), some (cst (.ref D)), none, none]) 0 (eil_enum (el_var rfl)) [] rfl rfl (fun G => (.eq (.eq (.eq (.no (.no .nil)))))) ?_ ?_ (by omega)
  · rintro i ⟨j, p⟩ d E' G1 hp rfl hrt s1 kn hn1
    obtain ⟨rfl, hpi⟩ := enumI_get hp
    refine ⟨_, _, gl_pr gl_name gl_name, ?_⟩
    dsimp only [List.set]
    have hpm : p ∈ ps := List.mem_of_getElem? hpi
    have hpn : p ∉ ps.take i := nodup_take nd hpi
    have htl : (ps.take i).length ≤ 100000 := by rw [List.length_take]; omega
    refine hl_ifF (k := 0) (ETL.eq (etl_or (k := 0) (m := 0) (etl_not (etl_B (el_call (p, ss) (eal_cons (el_var rfl) (eal_cons (el_sqL (el_var rfl)) eal_nil)) (hm p hpm)))) fun _ => etl_test (el_inT (ks := ps.take i) (p := p) (List.mem_cons_self ..) rfl (el_call [p.1, p.2] (eal_cons (el_var rfl) eal_nil) trivial))) (by simp [hpn])) ?_
    refine hl_last ?_
    refine hl_putT (k := 0) (p := p) rfl (el_call [p.1, p.2] (eal_cons (el_var rfl) eal_nil) trivial) hpn htl ?_
    exact hl_nx fun σ H a => kn _ σ H (take_succ hpi).symm ((a.weak fun G => (.eq (.eq (.eq (.no (.no .nil)))))).le (by omega))
  · rintro d rfl
    rw [enumI_len, List.take_length]
    exact hl_ret (k := 0) (ELN.el (eln_srtT (List.mem_cons_self ..) rfl fun p hp => ⟨hok _ (hm p hp).1, hok _ (hm p hp).2⟩)) fun v G2 H2 s2 w2 p => k v G2 H2 s2 ((w2.drop (List.sublist_cons_self ..)).le (by omega)) p
end
end Gd

-- part D3
set_option Elab.async false
set_option linter.all false
set_option maxRecDepth 100000
set_option maxHeartbeats 1000000
namespace Gd
open PySem PySem.Spec PyProof.Rows L2
universe u
theorem tosP_map (ps : List (Str × Str)) (ss : List Str) : (ss.map fun s => (s, tosP ps s)) = ss.map fun s => (s, tosP ps s) := rfl
theorem srtS_nodup {xs : List Str} (h : xs.Nodup) : (srt PyData.str xs).Nodup := srt_nodup.mpr h
section
variable {P : Program} {w : World} {K : PySem.W.Frag} {mg : Str → Option Value} {base : Heap} {aL : Addr} {Tb : List (Addr × Str)}
def sp_initD (K : PySem.W.Frag) (C : Addr) (Tb : List (Addr × Str)) : Sp := fun vs H Q _ => ∃ (i : Deb) (st c : Addr) (n : Nat) (O : Own) (G : Hp) (p : Addr) (v w : V), vs = [.ref p, v, w] ∧ Wd ⟨st, c, Tb⟩ n ((p, OI C []) :: O) G H ∧ n ≤ 1000000 ∧ okD i ∧ (Sq K S i.1).p v G ∧ (Sq K (Pq K) i.2).p w G ∧
  ∀ G2 H2, Same G G2 → Wd ⟨st, c, Tb⟩ n O G2 H2 → (DB K C (mkD i)).p (.ref p) G2 → Q .non H2
def dbL (ss : List Str) (qs : List (Str × Str)) (D1 D2 : Addr) : List (Str × SR) := [("own_objected", cst (.ref D2)), ("own_objectors", cst (.ref D1)), ("own_objections", Lst (Pr K S S) qs), ("own_statements", Lst S ss)]
theorem db_made {C p D1 D2 : Addr} {ss : List Str} {qs : List (Str × Str)} {pl1 pl2 : Str → Addr} {acc1 acc2 : Str → List Str} {G : Hp} (hl : ss.length ≤ 100000) (e1 : ∀ s ∈ ss, acc1 s = tosP qs s) (e2 : ∀ s ∈ ss, acc2 s = fromP qs s)
    (h : ∀ q ∈ omO S D1 pl1 acc1 ss ++ (omO S D2 pl2 acc2 ss ++ [(p, OI C [("own_objected", cst (.ref D2)), ("own_objectors", cst (.ref D1)), ("own_objections", Lst (Pr K S S) qs), ("own_statements", Lst S ss)])]), ∃ o, G q.1 = some o ∧ q.2.p o G) : (DB K C (ss, qs)).p (.ref p) G := by
  obtain ⟨o, h1, dx, fs, rfl, _, h3⟩ := h _ (List.mem_append_right _ (List.mem_append_right _ (List.mem_singleton.mpr rfl)))
  refine ⟨p, dx, fs, rfl, h1, fun q hq => ?_⟩
  unfold dbF at hq
  simp only [List.mem_cons, List.not_mem_nil, or_false] at hq
  rcases hq with rfl | rfl | rfl | rfl
  · obtain ⟨v, h4, h5⟩ := h3 ("own_objected", cst (.ref D2)) (by simp)
    obtain rfl : v = .ref D2 := h5
    refine ⟨_, h4, ?_⟩
    have := om_dct (e := S) (D := D2) (pl := pl2) (acc := acc2) hl fun q hq => h q (List.mem_append_right _ (List.mem_append_left _ hq))
    rwa [List.map_congr_left fun s hs => by rw [e2 s hs]] at this
  · obtain ⟨v, h4, h5⟩ := h3 ("own_objectors", cst (.ref D1)) (by simp)
    obtain rfl : v = .ref D1 := h5
    refine ⟨_, h4, ?_⟩
    have := om_dct (e := S) (D := D1) (pl := pl1) (acc := acc1) hl fun q hq => h q (List.mem_append_left _ hq)
    rwa [List.map_congr_left fun s hs => by rw [e1 s hs]] at this
  · obtain ⟨v, h4, h5⟩ := h3 ("own_objections", Lst (Pr K S S) qs) (by simp)
    exact ⟨v, h4, h5⟩
  · obtain ⟨v, h4, h5⟩ := h3 ("own_statements", Lst S ss) (by simp)
    exact ⟨v, h4, h5⟩
theorem ok_initD {C : Addr} {f : Addr} {fd : FuncData} (M : Mk K C f) (F : L2.Fun K "__init__" "Debate.__init__" s_Debate_init f fd) (hm : mg "Debate" = some (.ref C)) (bi : Binds K fd ["self", "statements", "objections"] []) (T : Txt K mg aL) (DC : DCls K C)
    (c_checked_statements : C8.Cal P w K mg base 2 "checked_statements" (sp_checked_statements K) []) (c_checked_objections : C8.Cal P w K mg base 4 "checked_objections" (sp_checked_objections K Tb) []) : C8.Mak P w K mg base 5 "Debate" C (sp_initD K C Tb) [] := by
  refine ⟨f, fd, _, [], M, F.ok sc_Debate_init (fun vs H Q E h => ?_) (fun cdv A outer s H vs Q E hr h => ?_), hm, bi, .nil⟩
  · obtain ⟨i, st, c, n, O, G, p, v, w, rfl, _⟩ := h
    rfl
  · have hu64 := hu64_of hr
    have hu := hu_of hr
    obtain ⟨⟨cs, ps⟩, st, c, n, O, G, p, v, w', rfl, w0, hn, ⟨⟨hx, nd, hcl⟩, pnd, hpm, hpl⟩, hv, hw, k⟩ := h
    have hcl : cs.length ≤ 1000 := hcl
    have hpl : ps.length ≤ 10000 := hpl
    refine ⟨_, (pss_cons (ps_fldK (K := K) (pv 0) (C8.pe_c c_checked_statements hr (by first | decide | omega) rfl (pa_cons (pv 1) pa_nil)) rfl)
      (pss_cons (ps_fldK (K := K) (pv 0) (C8.pe_c c_checked_objections hr (by first | decide | omega) rfl (pa_cons (pv 2) (pa_cons (pe_fldK (K := K) (pv 0) rfl) pa_nil))) rfl)
      (pss_cons (ps_fldK (K := K) (pv 0) (pe_dc (own := [("statement", 5)]) rfl sc_Debate_init.nd (pi_seqK (K := K) (pe_fldK (K := K) (pv 0) rfl)) (blkOk_by (by kernel_rfl)) (fun _ _ _ _ _ => (pg_name (i := 5) sc_Debate_init.nd rfl (by first | exact Or.inl rfl | exact Or.inr rfl))) (fun _ _ _ _ _ => pts_nil) (fun _ _ _ _ _ => (pv 5)) (fun _ _ _ _ _ => (pe_lst pa_nil))) rfl)
      (pss_cons (ps_fldK (K := K) (pv 0) (pe_dc (own := [("statement", 5)]) rfl sc_Debate_init.nd (pi_seqK (K := K) (pe_fldK (K := K) (pv 0) rfl)) (blkOk_by (by kernel_rfl)) (fun _ _ _ _ _ => (pg_name (i := 5) sc_Debate_init.nd rfl (by first | exact Or.inl rfl | exact Or.inr rfl))) (fun _ _ _ _ _ => pts_nil) (fun _ _ _ _ _ => (pv 5)) (fun _ _ _ _ _ => (pe_lst pa_nil))) rfl)
      (pss_one (ps_for PassesOwn.never rfl (pi_seqK (K := K) (pe_fldK (K := K) (pv 0) rfl)) (pg_tupK (K := K) (n := 2) rfl (pgs_cons (pg_name (i := 3) sc_Debate_init.nd rfl (by first | exact Or.inl rfl | exact Or.inr rfl)) (pgs_cons (pg_name (i := 4) sc_Debate_init.nd rfl (by first | exact Or.inl rfl | exact Or.inr rfl)) pgs_nil))) (pss_cons (ps_expr (pe_bmK (K := K) PySem.F.plainAttrs_list PySem.F.slot_list_append PySem.F.type_list_append mt_append (pe_dget hu (pe_fldK (K := K) (pv 0) rfl) (pv 4) (fun _ _ => rfl)) (pa_cons (pv 3) pa_nil)))
      (pss_one (ps_expr (pe_bmK (K := K) PySem.F.plainAttrs_list PySem.F.slot_list_append PySem.F.type_list_append mt_append (pe_dget hu (pe_fldK (K := K) (pv 0) rfl) (pv 3) (fun _ _ => rfl)) (pa_cons (pv 4) pa_nil))))))))))), ?_⟩
    have hss : (srt PyData.str cs).length ≤ 100000 := by unfold srt; rw [List.length_mergeSort]; omega
    have hqs : (srt pT ps).length ≤ 10000 := by unfold srt; rw [List.length_mergeSort]; omega
    have hnd := srtS_nodup (xs := cs) nd
    have hqm : ∀ q ∈ srt pT ps, q.1 ∈ srt PyData.str cs ∧ q.2 ∈ srt PyData.str cs := fun q hq => ⟨mem_srt.mpr (hpm q (mem_srt.mp hq)).1, mem_srt.mpr (hpm q (mem_srt.mp hq)).2⟩
    generalize hSS : srt PyData.str cs = ss at *
    generalize hQS : srt pT ps = qs at *
    refine (?_ : HL ⟨st, c, Tb⟩ G n ((p, OI C []) :: O) [some (cst (.ref p)), some (Sq K S cs), some (Sq K (Pq K) ps), none, none, none] _ _) _ _ ⟨G, Same.refl G, slots_start (N := ["self", "statements", "objections", "one", "other", "statement"]) (vs := [.ref p, v, w']) (Ls := [cst (.ref p), Sq K S cs, Sq K (Pq K) ps]) (.cons rfl (.cons hv (.cons hw .nil))), w0⟩
    refine hl_fld (k := 0) DC.cl DC.nS rfl (el_call cs (eal_cons (el_var rfl) eal_nil) ⟨hx, nd⟩) ?_ (by simp) (by simp)
    rw [hSS]
    refine hl_fld (k := 0) DC.cl DC.nO rfl (el_callm (W := ⟨st, c, Tb⟩) (ι := List (Str × Str) × List Str) (post := fun i => Lst (Pr K S S) (srt pT i.1)) (ps, ss) (eal_cons (el_var rfl) (eal_cons (el_fldO DC.cl DC.nS rfl (List.mem_cons_self ..) (List.mem_cons_self ..)) eal_nil)) ⟨pnd, fun q hq => ?_, hpl⟩) ?_ (by simp; decide) (by simp)
    · rw [← hSS]; exact ⟨mem_srt.mpr (hpm q hq).1, mem_srt.mpr (hpm q hq).2⟩
    dsimp only
    rw [hQS]
    refine hl_fldM (k := 0) S DC.cl DC.nT rfl (eil_sq (el_sqL (el_fldO DC.cl DC.nS rfl (List.mem_cons_self ..) (by simp)))) hnd (fun D1 pl1 => ?_) (by simp; decide) (by simp)
    refine hl_fldM (k := 0) S DC.cl DC.nF rfl (eil_sq (el_sqL (el_fldO DC.cl DC.nS rfl (List.mem_cons_self ..) (by simp)))) hnd (fun D2 pl2 => ?_) (by simp; decide) (by simp)
    refine HL.perm (O' := omO S D1 pl1 (fun _ => []) ss ++ (omO S D2 pl2 (fun _ => []) ss ++ ((p, OI C [("own_objected", cst (.ref D2)), ("own_objectors", cst (.ref D1)), ("own_objections", Lst (Pr K S S) qs), ("own_statements", Lst S ss)]) :: O))) ?_ ?_
    · refine hl_for (k := 0) (e := Pr K S S) (xs := qs) (δ := Nat) (fun i d => d = i) (fun d => omO S D1 pl1 (tosP (qs.take d)) ss ++ (omO S D2 pl2 (fromP (qs.take d)) ss ++ ((p, OI C [("own_objected", cst (.ref D2)), ("own_objectors", cst (.ref D1)), ("own_objections", Lst (Pr K S S) qs), ("own_statements", Lst S ss)]) :: O))) (fun _ => [some (cst (.ref p)), some (Sq K S cs), some (Sq K (Pq K) ps), none, none, none]) 0 (eil_sq (el_sqL (el_fldO DC.cl DC.nO rfl (List.mem_append_right _ (List.mem_append_right _ (List.mem_cons_self ..))) (by simp)))) 0 rfl rfl (fun G => (.eq (.eq (.eq (.no (.no (.no .nil))))))) ?_ ?_ (by omega)
      · rintro i ⟨a, b⟩ d E' G1 hp rfl hrt s1 kn hn1
        refine ⟨_, _, gl_pr gl_name gl_name, ?_⟩
        dsimp only [List.set]
        obtain ⟨ha, hb⟩ := hqm _ (List.mem_of_getElem? hp)
        have htl : (qs.take d).length ≤ 100000 := by rw [List.length_take]; omega
        refine hl_pushM2 (k := 0) (m := 0) (c := b) (a := a) hnd hb (fun O' h1 h2 => el_dgetE (k := 0) (m := 0) (el_fldO DC.cl DC.nT rfl (h2 _ (List.mem_append_right _ (List.mem_cons_self ..))) (by simp)) h1 (el_var rfl) (valV_pl hb)) (fun O' => el_var rfl) (Nat.le_trans (tosP_len _ _) htl) ?_
        refine HL.perm ?_ (List.perm_append_comm_assoc _ _ _)
        refine hl_last ?_
        refine hl_pushM2 (k := 0) (m := 0) (c := a) (a := b) hnd ha (fun O' h1 h2 => el_dgetE (k := 0) (m := 0) (el_fldO DC.cl DC.nF rfl (h2 _ (List.mem_append_right _ (List.mem_cons_self ..))) (by simp)) h1 (el_var rfl) (valV_pl ha)) (fun O' => el_var rfl) (Nat.le_trans (fromP_len _ _) htl) ?_
        refine HL.perm ?_ (List.perm_append_comm_assoc _ _ _)
        refine hl_nx fun σ H at0 => kn _ σ H rfl ?_
        have e1 : omO S D1 pl1 (fun x => if x = b then tosP (qs.take d) b ++ [a] else tosP (qs.take d) x) ss = omO S D1 pl1 (tosP (qs.take (d + 1))) ss := omO_congr fun y _ => by rw [take_succ hp, tosP_snoc]
        have e2 : omO S D2 pl2 (fun x => if x = a then fromP (qs.take d) a ++ [b] else fromP (qs.take d) x) ss = omO S D2 pl2 (fromP (qs.take (d + 1))) ss := omO_congr fun y _ => by rw [take_succ hp, fromP_snoc]
        rw [← e1, ← e2]
        exact (at0.weak fun G => (.eq (.eq (.eq (.no (.no (.no .nil))))))).le (by omega)
      · rintro d rfl
        rw [List.take_length]
        refine hl_nx fun σ H ⟨G2, s2, sl, w2⟩ => ?_
        have e0 : ∀ (A1 A2 : Own) (X : Addr × OR), A1 ++ (A2 ++ (X :: O)) = (A1 ++ (A2 ++ [X])) ++ O := fun A1 A2 X => by simp
        rw [e0] at w2
        obtain ⟨G3, s3, w3, h3⟩ := w2.freezeAll
        refine k G3 H (s2.trans s3) (w3.le (by omega)) ?_
        show (DB K C (srt PyData.str cs, srt pT ps)).p _ _
        rw [hSS, hQS]
        exact db_made hss (fun _ _ => rfl) (fun _ _ => rfl) fun q hq => let ⟨o, _, h4, h5⟩ := h3 q hq; ⟨o, h4, h5⟩
    · exact (List.perm_append_comm_assoc ..).trans ((List.perm_middle.append_left _).trans List.perm_middle)
theorem el_mkD {C : Addr} {W : SC} {O : Own} {k : Nat} {Rs : RL} {ta : TA} {E : XK} {i : Deb} (ha : EAL W O k ta Rs [Sq K S i.1, Sq K (Pq K) i.2]) (hi : okD i) : EL W O k (tMake C (sp_initD K C W.tb) [] E ta) Rs (DB K C (mkD i)) := fun σ G H n Q sl w hn kk =>
  ha σ G H n _ sl w hn fun vs G2 H2 s2 w2 al => by
    obtain ⟨v, w', rfl, hv, hw⟩ := alr2 al
    intro x dx nx ndx hne
    refine ⟨i, W.s, W.c, n + k, O, G2, x, v, w', rfl, w2.fresh (w2.go (Go.made w2.r nx ndx)) (Nw.of nx) (w2.r.free nx) upd_same rfl ⟨dx, [], rfl, Nat.le_refl _, fun q hq => by cases hq⟩, hn, hi, hv, hw, fun G3 H3 s3 w3 hu => ⟨rfl, ?_⟩⟩
    exact kk _ G3 H3 (s2.trans s3) w3 hu
end
end Gd

-- part D4
set_option Elab.async false
set_option linter.all false
set_option maxRecDepth 100000
set_option maxHeartbeats 1000000
/-! ### who is answered by a lot -/
namespace Gd
open PySem PySem.Spec PyProof.Rows L2
universe u
abbrev s_hit_by : Stmt := topS 14
theorem sc_hit_by : FnScope ["debate", "members", "member", "other"] ["debate", "members"] (defScope s_hit_by) := ⟨rfl, rfl, rfl, by decide +kernel, rfl, by decide +kernel, by decide +kernel⟩
abbrev s_answered_in : Stmt := topS 15
theorem sc_answered_in : FnScope ["debate", "members", "hit", "rows", "statement", "objector"] ["debate", "members"] (defScope s_answered_in) := ⟨rfl, rfl, rfl, by decide +kernel, rfl, by decide +kernel, by decide +kernel⟩
def hitP (d : Deb) (ms : List Str) : List Str := ms.flatMap (fromP d.2)
def ansP (d : Deb) (ms : List Str) : List Str := d.1.filter fun s => (tosP d.2 s).all fun o => decide (o ∈ hitP d ms)
/-- what holds of a debate's own data -/
structure okB (d : Deb) : Prop where
  nd : d.1.Nodup
  ok : ∀ s ∈ d.1, okS s = true
  pm : ∀ p ∈ d.2, p.1 ∈ d.1 ∧ p.2 ∈ d.1
  l1 : d.1.length ≤ 1000
  l2 : d.2.length ≤ 10000
theorem mem_fromP {ps : List (Str × Str)} {s x : Str} : x ∈ fromP ps s ↔ (s, x) ∈ ps := by
  unfold fromP
  rw [List.mem_map]
  constructor
  · rintro ⟨⟨a, b⟩, h, rfl⟩
    obtain ⟨h1, h2⟩ := List.mem_filter.mp h
    obtain rfl : a = s := of_decide_eq_true h2
    exact h1
  · exact fun h => ⟨(s, x), List.mem_filter.mpr ⟨h, by simp⟩, rfl⟩
theorem mem_tosP {ps : List (Str × Str)} {s x : Str} : x ∈ tosP ps s ↔ (x, s) ∈ ps := by
  unfold tosP
  rw [List.mem_map]
  constructor
  · rintro ⟨⟨a, b⟩, h, rfl⟩
    obtain ⟨h1, h2⟩ := List.mem_filter.mp h
    obtain rfl : b = s := of_decide_eq_true h2
    exact h1
  · exact fun h => ⟨(x, s), List.mem_filter.mpr ⟨h, by simp⟩, rfl⟩
theorem mem_hitP {d : Deb} {ms : List Str} {x : Str} : x ∈ hitP d ms ↔ ∃ m ∈ ms, (m, x) ∈ d.2 := by
  unfold hitP
  rw [List.mem_flatMap]
  exact ⟨fun ⟨m, h1, h2⟩ => ⟨m, h1, mem_fromP.mp h2⟩, fun ⟨m, h1, h2⟩ => ⟨m, h1, mem_fromP.mpr h2⟩⟩
theorem mem_ansP {d : Deb} {ms : List Str} {x : Str} : x ∈ ansP d ms ↔ x ∈ d.1 ∧ ∀ o, (o, x) ∈ d.2 → ∃ m ∈ ms, (m, o) ∈ d.2 := by
  unfold ansP
  rw [List.mem_filter, List.all_eq_true]
  exact and_congr_right fun _ => ⟨fun h o ho => mem_hitP.mp (of_decide_eq_true (h o (mem_tosP.mpr ho))), fun h o ho => decide_eq_true (mem_hitP.mpr (h o (mem_tosP.mp ho)))⟩
theorem hitP_len (d : Deb) : ∀ {ms : List Str}, ms.Nodup → (hitP d ms).length ≤ d.2.length := by
  intro ms
  suffices h : ∀ (ps : List (Str × Str)) (ms : List Str), ms.Nodup → (ms.flatMap (fromP ps)).length ≤ (ps.filter fun p => decide (p.1 ∈ ms)).length from fun nd => Nat.le_trans (h d.2 ms nd) (List.length_filter_le _ _)
  intro ps ms nd
  induction ps with
  | nil =>
    have : ms.flatMap (fromP []) = [] := by induction ms with
      | nil => rfl
      | cons m ms ih => rw [List.flatMap_cons, ih (List.nodup_cons.mp nd).2]; rfl
    rw [this]
    exact Nat.zero_le _
  | cons p ps ih =>
    have e : ∀ s, (fromP (p :: ps) s).length = (if p.1 = s then 1 else 0) + (fromP ps s).length := fun s => by
      unfold fromP
      by_cases q : p.1 = s
      · simp [q]; omega
      · simp [q]
    have e2 : ∀ ms : List Str, ms.Nodup → (ms.flatMap (fromP (p :: ps))).length = (if p.1 ∈ ms then 1 else 0) + (ms.flatMap (fromP ps)).length := by
      intro ms
      induction ms with
      | nil => intro _; simp
      | cons m ms ih2 =>
        intro nd
        obtain ⟨n1, n2⟩ := List.nodup_cons.mp nd
        rw [List.flatMap_cons, List.flatMap_cons, List.length_append, List.length_append, ih2 n2, e m]
        by_cases q : p.1 = m
        · rw [if_pos q, if_neg (by rw [q]; exact n1), if_pos (by rw [q]; exact List.mem_cons_self ..)]
          omega
        · rw [if_neg q]
          by_cases q2 : p.1 ∈ ms
          · rw [if_pos q2, if_pos (List.mem_cons_of_mem _ q2)]; omega
          · rw [if_neg q2, if_neg (fun z => (List.mem_cons.mp z).elim q q2)]; omega
    rw [e2 ms nd]
    by_cases q : p.1 ∈ ms
    · rw [if_pos q, List.filter_cons_of_pos (by simpa using q), List.length_cons]; omega
    · rw [if_neg q, List.filter_cons_of_neg (by simpa using q)]; omega
theorem okB_mk {i : Deb} (h : okD i) (ok : ∀ s ∈ i.1, okS s = true) : okB (mkD i) := by
  obtain ⟨⟨h1, h2, h3⟩, h4, h5, h6⟩ := h
  refine ⟨srt_nodup.mpr h2, fun s hs => ok s (mem_srt.mp hs), fun p hp => ⟨mem_srt.mpr (h5 p (mem_srt.mp hp)).1, mem_srt.mpr (h5 p (mem_srt.mp hp)).2⟩, ?_, ?_⟩
  · show (srt PyData.str i.1).length ≤ _
    unfold srt
    rw [List.length_mergeSort]
    exact h3
  · show (srt pT i.2).length ≤ _
    unfold srt
    rw [List.length_mergeSort]
    exact h6
def okM (i : Deb × List Str) : Prop := okB i.1 ∧ (∀ m ∈ i.2, m ∈ i.1.1) ∧ i.2.Nodup
section
variable {P : Program} {w : World} {K : PySem.W.Frag} {mg : Str → Option Value} {base : Heap} {aL : Addr}
def sp_hit_by (K : PySem.W.Frag) (C : Addr) : Sp := spF true (fun i : Deb × List Str => [DB K C i.1, Sq K S i.2]) okM (fun i => Ks ((hitP i.1 i.2).foldl addS []))
theorem ok_hit_by {C : Addr} (F : Fn K mg "hit_by" s_hit_by ["debate", "members"]) (T : Txt K mg aL) (DC : DCls K C) : C8.Cal P w K mg base 1 "hit_by" (sp_hit_by K C) [] := by
  refine cal_of F sc_hit_by (fun vs H Q E h => spF_len h fun _ => rfl) (fun f cdv A outer s H vs Q E hr h => ?_)
  obtain ⟨⟨d, ms⟩, G, v, w, rfl, r, ⟨hd, hm, nd⟩, hv, hw, k⟩ := sp2 h fun _ => rfl
  have hu := hu_of hr
  have hl2 := hd.l2
  refine ⟨_, (pss_one (ps_ret (pe_dc2 (own := [("member", 2), ("other", 3)]) (vs1 := [3]) rfl sc_hit_by.nd (pi_seqK (K := K) (pv 1)) (blkOk_by (by kernel_rfl)) (by decide) (fun _ _ _ _ _ => (pg_name (i := 2) sc_hit_by.nd rfl (by first | exact Or.inl rfl | exact Or.inr rfl))) (fun _ _ _ _ _ => pts_nil) (fun _ _ _ _ _ => (pi_seqK (K := K) (pe_dget hu (pe_fldK (K := K) (pv 0) rfl) (pv 2) (fun _ _ => rfl)))) (fun _ _ _ _ _ => (pg_name (i := 3) sc_hit_by.nd rfl (by first | exact Or.inl rfl | exact Or.inr rfl))) (fun _ _ _ _ _ => pts_nil) (fun _ _ _ _ _ => (pv 3)) (fun _ _ _ _ _ => pe_bl)))), ?_⟩
  refine ts_ret (ev_dc2 (e := S) (f := fromP d.2) (Rv := B true) (ei_sq (ev_var rfl hw)) (Nat.le_trans (hitP_len d nd) (Nat.le_trans hl2 (by decide))) fun m hmm x G' s hx => ?_) r k
  have hmd : m ∈ d.1 := hm m hmm
  exact ⟨_, gto_name, rfl, ei_sq (Ev.sqL (ev_dget (ev_dbF DC (ev_var (i := 0) rfl ((DB K C d).st s hv))) (ev_var rfl hx) (lookup_map hmd))), fun z hz y G2 s2 hy => ⟨_, gto_name, rfl, ev_var rfl hy, ev_bl⟩⟩
def sp_answered_in (K : PySem.W.Frag) (C : Addr) : Sp := spN true (fun i : Deb × List Str => [DB K C i.1, Sq K S i.2]) okM S (fun i => ansP i.1 i.2)
theorem ok_answered_in {C : Addr} (F : Fn K mg "answered_in" s_answered_in ["debate", "members"]) (T : Txt K mg aL) (DC : DCls K C) (c_hit_by : C8.Cal P w K mg base 1 "hit_by" (sp_hit_by K C) []) : C8.Cal P w K mg base 2 "answered_in" (sp_answered_in K C) [] := by
  refine cal_of F sc_answered_in (fun vs H Q E h => spN_len h fun _ => rfl) (fun f cdv A outer s H vs Q E hr h => ?_)
  obtain ⟨⟨d, ms⟩, G, r, hok, al, k⟩ := h
  obtain ⟨v, w', rfl, hv, hw⟩ := alr2 al
  have hu := hu_of hr
  have hd : okB d := hok.1
  refine ⟨_, (pss_cons (ps_set (i := 2) sc_answered_in.nd rfl (by first | exact Or.inl rfl | exact Or.inr rfl) (C8.pe_c c_hit_by hr (by first | decide | omega) rfl (pa_cons (pv 0) (pa_cons (pv 1) pa_nil))))
      (pss_cons (ps_set (i := 3) sc_answered_in.nd rfl (by first | exact Or.inl rfl | exact Or.inr rfl) (pe_fldK (K := K) (pv 0) rfl))
      (pss_one (ps_ret (pe_lock (pe_lc (own := [("statement", 4)]) rfl sc_answered_in.nd (pi_keys (pv 3)) (blkOk_by (by kernel_rfl)) (fun _ _ _ _ _ => (pg_name (i := 4) sc_answered_in.nd rfl (by first | exact Or.inl rfl | exact Or.inr rfl))) (fun _ _ _ _ _ => (pts_one (pt_val (pe_callB (call_allK (K := K) rfl) rfl T.all boot_all (pa_cons (pe_lc (own := [("objector", 5)]) rfl sc_answered_in.nd (pi_seqK (K := K) (pe_dget hu (pv 3) (pv 4) (fun _ _ => rfl))) (blkOk_by (by kernel_rfl)) (fun _ _ _ _ _ => (pg_name (i := 5) sc_answered_in.nd rfl (by first | exact Or.inl rfl | exact Or.inr rfl))) (fun _ _ _ _ _ => pts_nil) (fun _ _ _ _ _ => (pe_cmp (pc_din hu (pv 5) (pv 2))))) pa_nil))))) (fun _ _ _ _ _ => (pv 4)))))))), ?_⟩
  refine tq_set (R := Ks ((hitP d ms).foldl addS [])) (ev_call (d, ms) (ea_cons (ev_var rfl hv) (ea_cons (ev_var rfl hw) ea_nil)) hok) r fun u G1 H1 g1 hu1 => ?_
  have r1 := g1.r _ r
  refine tq_set (ev_dbT DC (ev_var (i := 0) rfl ((DB K C d).st g1.g hv))) r1 fun z G2 H2 g2 hz => ?_
  have r2 := g2.r _ r1
  have hu2 := (Ks _).st g2.g hu1
  obtain ⟨dd, kvs, rfl, hdd, hkl, ald⟩ := id hz
  refine ts_retN (EvN.eq (en_lcK (fn := fun s => s) (p := fun s => (tosP d.2 s).all fun o => decide (o ∈ hitP d ms)) (er := S) (xs := d.1) rfl hdd hkl hd.ok (by rw [ald.keys, List.map_map, List.map_map]; rfl) fun a ha x G' s hx => ⟨_, gto_name, rfl, ?_, fun _ => ev_var rfl hx⟩) (List.map_id' _)) r2 fun p vs G3 H3 g3 h0 => k p vs G3 H3 ((g1.trans g2).trans g3) ((g1.trans g2).free h0)
  refine EvT.eq (et_B (ev_allL (p := fun o => decide (o ∈ (hitP d ms).foldl addS [])) (en_map (ei_sq (Ev.sqL (ev_dget (ev_var (i := 3) rfl ((Dct (Lst S) _).st s hz)) (ev_var rfl hx) (lookup_map ha)))) fun o ho y G'' s' hy => ⟨_, gto_name, rfl, ev_inK (ev_var rfl hy) (ev_var (i := 2) rfl ((Ks _).st (s.trans s') hu2))⟩))) ?_
  congr 1
  funext o
  have e : o ∈ (hitP d ms).foldl addS [] ↔ o ∈ hitP d ms := by
    rw [mem_adds]
    exact ⟨fun h => h.resolve_left fun z => (by cases z), fun h => .inr h⟩
  simp only [e]
end
end Gd

-- part Gd53
set_option Elab.async false
set_option linter.all false
set_option maxRecDepth 100000
set_option maxHeartbeats 1000000
/-! ### a list of new lists that grows -/
namespace Gd
open PySem PySem.Spec PyProof.Rows L2
universe u
abbrev eAt : Addr × List Str → SR := fun z => LAt z.1 z.2
/-- what was no one's before -/
def NwF (W : SC) (G0 : Hp) (O : Own) (p : Addr) : Prop := p ≠ W.s ∧ p ≠ W.c ∧ G0 p = none ∧ p ∉ O.map (·.1)
theorem atI_last {α : Type} {xs : List α} {a : α} (h : xs.getLast? = some a) : atI xs (-1) = some a := by
  have hne : xs ≠ [] := fun z => by rw [z] at h; cases h
  have hl : 0 < xs.length := List.length_pos_iff.mpr hne
  rw [List.getLast?_eq_getElem?] at h
  have e : ixN xs.length (-1) = some (xs.length - 1) := by
    unfold ixN
    rw [if_neg (by decide), if_pos (by omega)]
    congr 1
    omega
  unfold atI
  rw [e]
  exact h
theorem at_refs : ∀ {qs : List (Addr × List Str)} {vs : List V} {G : Hp}, Al eAt qs vs G → vs = (qs.map (·.1)).map V.ref
  | _, _, _, .nil => rfl
  | _, _, _, .cons h t => by
    rw [List.map_cons, List.map_cons, ← at_refs t, h.1]
section
variable {K : PySem.W.Frag} {W : SC} {O O' : Own} {n k m : Nat} {G0 G G2 H H2 : Hp} {Rs Rs' : RL} {R : SR} {te ta tb to : TE} {t u : TS} {E : Ends} {α : Type} {e : α → SR} {xs : List Str} {p pf : Addr} {i j : Nat} {qs : List (Addr × List Str)}
theorem Wd.nwF (w : Wd W n ((p, OL S xs) :: O) G H) (s : Same G0 G) : NwF W G0 O p := by
  obtain ⟨h1, h2, h3, _⟩ := w.o _ (List.mem_cons_self ..)
  refine ⟨h1, h2, ?_, (List.nodup_cons.mp w.nd).1⟩
  cases e : G0 p with
  | none => rfl
  | some o =>
    have := s _ _ e
    rw [h3] at this
    cases this
/-- found = [te] -/
theorem hl_newAt (h : ELN W O k te Rs S xs) (q : ∀ p z, NwF W G0 O z → HL W G0 (n + k) ((p, OL eAt [(z, xs)]) :: O) (Rs.set i (some (cst (.ref p)))) u E) (hn : n + k ≤ 1000000 := by omega) : HL W G0 n O Rs (tSeq (tAsg (tLst (tCons te tNil)) (gName i)) u) E := fun σ H ⟨G, s, sl, w⟩ => by
  refine h σ G H n _ sl w hn fun z G2 H2 s2 w2 => ⟨by show 1 ≤ sizeLine; decide, fun p hp => ?_⟩
  have hf := w2.nwF (s.trans s2)
  obtain ⟨o, h1, ⟨vs, rfl, h5, h6⟩, s3, w3⟩ := w2.freeze
  refine q p z hf _ _ ⟨_, (s.trans s2).trans s3, (sl.st (s2.trans s3)).set (R := cst (.ref p)) rfl, w3.own (R := OL eAt [(z, xs)]) hp rfl ⟨[.ref z], rfl, by show 1 ≤ sizeLine; decide, .cons ⟨rfl, z, vs, rfl, upd_same, h5, h6.st s3⟩ .nil⟩⟩
/-- found.append(later) -/
theorem hl_pushAt (hi : Rs[i]? = some (some (cst (.ref pf)))) (hj : Rs[j]? = some (some (cst (.ref p)))) (hij : i ≠ j) (hl : qs.length ≤ 100000) (q : NwF W G0 O p → (∀ z ∈ qs, z.1 ≠ p) → HL W G0 n ((pf, OL eAt (qs ++ [(p, xs)])) :: O) (Rs.set j (some (LAt p xs))) u E) (hn : n ≤ 1000000 := by omega) : HL W G0 n ((p, OL S xs) :: (pf, OL eAt qs) :: O) Rs (tSeq (tDrop (tBM K "list" rAppend (tVar i) (tCons (tVar j) tNil))) u) E := fun σ H ⟨G, s, sl, w⟩ => by
  obtain ⟨f1, f2, f3, f4⟩ := w.nwF s
  have hq : ∀ z ∈ qs, z.1 ≠ p := fun z hz e => by
    obtain ⟨_, _, _, o, h4, _, vs, rfl, _, al⟩ := w.o _ (List.mem_cons_of_mem _ (List.mem_cons_self ..))
    obtain ⟨i, hi⟩ := List.getElem?_of_mem hz
    obtain ⟨v, _, ev, a, ws, ea, h5, _⟩ := al.get' hi
    rw [ev] at ea
    cases ea
    obtain ⟨_, _, h6, _⟩ := w.o _ (List.mem_cons_self ..)
    rw [e, h6] at h5
    cases h5
  obtain ⟨o, h1, ⟨vs, rfl, h5, h6⟩, s3, w3⟩ := w.freeze
  have sl3 := (sl.st s3).conv (R' := LAt p xs) hj fun v hv => by
    obtain rfl : v = .ref p := hv
    exact ⟨rfl, p, vs, rfl, upd_same, h5, h6.st s3⟩
  refine hl_push (k := 0) (K := K) (e := eAt) (a := (p, xs)) (p := pf) ?_ (el_var ?_) hl (q ⟨f1, f2, f3, fun hm => f4 (List.mem_cons_of_mem _ hm)⟩ hq) (by omega) _ _ ⟨_, s.trans s3, sl3, w3⟩
  · rw [List.getElem?_set_ne hij.symm]
    exact hi
  · exact List.getElem?_set_self (List.getElem?_eq_some_iff.mp hj).1
/-- found[-1] -/
theorem el_lastO {Ro : OR} {ys : List α} {a : α} (hR : ∀ o G, Ro.p o G → (OL e ys).p o G) (hO : (pf, Ro) ∈ O) (hi : Rs[i]? = some (some (cst (.ref pf)))) (hx : ys.getLast? = some a) : EL W O 0 (tOp (rIx K) (tVar i) (tUn (rU fun i => .int (-i)) (tC (.int 1)))) Rs (e a) := fun σ G H n Q sl w hn kk => by
  obtain ⟨x, h1, h2⟩ := sl.get i _ hi
  obtain rfl : x = .ref pf := h2
  obtain ⟨_, _, _, o, h4, _, hr⟩ := w.o _ hO
  obtain ⟨vs, rfl, h5, al⟩ := hR _ _ hr
  rw [List.getLast?_eq_getElem?] at hx
  obtain ⟨v, hv, pv⟩ := al.get' hx
  rw [← al.len, ← List.getLast?_eq_getElem?] at hv
  exact ⟨_, h1, 1, rfl, .inl ⟨pf, vs, _, v, rfl, rfl, SqL.of h4, atI_last hv, kk v G H (Same.refl G) w pv⟩⟩
/-- what was told as frozen, new all along, is handed over -/
theorem Wd.thaw (w : Wd W n O G H) (s : Same G G2) (w2 : Wd W m ((p, OL eAt qs) :: exAll (fun a => (H a).getD (.lst [])) O) G2 H2) (hq : ∀ z ∈ qs, NwF W G O z.1) (nd : (qs.map (·.1)).Nodup) : Wd W m (deepO S p (qs.map (·.1)) (qs.map (·.2)) ++ O) G H2 := by
  obtain ⟨p1, p2, p3, o, p4, _, vs, rfl, p6, al⟩ := w2.o _ (List.mem_cons_self ..)
  have hmap : (exAll (fun a => (H a).getD (.lst [])) O).map (·.1) = O.map (·.1) := by
    unfold exAll
    rw [List.map_map]
    rfl
  have hpO : p ∉ O.map (·.1) := by
    have := (List.nodup_cons.mp w2.nd).1
    rwa [hmap] at this
  have gp : G p = none := by
    cases e : G p with
    | none => rfl
    | some o => have := s _ _ e; rw [p3] at this; cases this
  have hin : ∀ z ∈ qs, ∃ ws, G2 z.1 = some (.lst ws) ∧ ws.length ≤ sizeLine ∧ Al S z.2 ws G2 := fun z hz => by
    obtain ⟨i, hi⟩ := List.getElem?_of_mem hz
    obtain ⟨v, _, ev, a, ws, ea, h5, h6, h7⟩ := al.get' hi
    rw [ev] at ea
    cases ea
    exact ⟨ws, h5, h6, h7⟩
  have hvs : vs = (qs.map (·.1)).map V.ref := at_refs al
  have hz : (qs.map (·.1)).zip (qs.map (·.2)) = qs := by
    rw [List.zip_map']
    exact List.map_id' _
  have hne : ∀ z ∈ qs, z.1 ≠ p := fun z hz' e => by
    obtain ⟨ws, h5, _⟩ := hin z hz'
    rw [e, p3] at h5
    cases h5
  refine ⟨fun a u e => .inl (w2.r.ex (s a u e)), w.nt, w2.tb, ?_, ?_, fun q hq' => ?_⟩
  · obtain ⟨d1, d2, d3, d4⟩ := w2.d
    exact ⟨d1, w.d.gs, w.d.gc, d4⟩
  · unfold deepO
    have e9 : ((qs.map fun q => (q.1, OL S q.2)).map (·.1)) = qs.map (·.1) := by rw [List.map_map]; rfl
    rw [hz, List.cons_append, List.map_cons, List.map_append, e9, List.nodup_cons, List.nodup_append]
    refine ⟨fun hm => ?_, nd, w.nd, fun a ha b hb e => ?_⟩
    · rcases List.mem_append.mp hm with hm | hm
      · obtain ⟨z, h1, h2⟩ := List.mem_map.mp hm
        exact hne z h1 h2
      · exact hpO hm
    · obtain ⟨z, h1, h2⟩ := List.mem_map.mp ha
      have h2 : z.1 = a := h2
      exact (hq z h1).2.2.2 (by rw [h2, e]; exact hb)
  · rcases List.mem_append.mp hq' with h | h
    · unfold deepO at h
      rw [hz] at h
      rcases List.mem_cons.mp h with rfl | h
      · exact ⟨p1, p2, gp, _, p4, rfl, by rw [hvs]; rfl⟩
      · obtain ⟨z, h1, rfl⟩ := List.mem_map.mp h
        obtain ⟨f1, f2, f3, _⟩ := hq z h1
        obtain ⟨ws, h5, h6, h7⟩ := hin z h1
        exact ⟨f1, f2, f3, _, w2.r.ex h5, rfl, ws, rfl, h6, al_S h7⟩
    · obtain ⟨q1, q2, q3, ho, q4, q5, q6⟩ := w.o q h
      obtain ⟨_, _, _, ho', z4, _, z6, _⟩ := w2.o (q.1, exO ((H q.1).getD (.lst [])) q.2) (List.mem_cons_of_mem _ (List.mem_map.mpr ⟨q, h, rfl⟩))
      refine ⟨q1, q2, q3, ho, ?_, q5, q6⟩
      rw [z4, z6, q4]
      rfl
end
end Gd

-- part D5
set_option Elab.async false
set_option linter.all false
set_option maxRecDepth 100000
set_option maxHeartbeats 1000000
/-! ### stages -/
namespace Gd
open PySem PySem.Spec PyProof.Rows L2
universe u
def stgs (d : Deb) : Nat → List Str → List (List Str)
  | 0, l => [l]
  | f + 1, l => if ansP d l = l then [l] else l :: stgs d f (ansP d l)
def stagesP (d : Deb) : List (List Str) := stgs d (d.1.length + 1) (ansP d [])
theorem stgs_fix {d : Deb} {f : Nat} {l : List Str} (h : ansP d l = l) : stgs d f l = [l] := by
  cases f with
  | zero => rfl
  | succ f => unfold stgs; rw [if_pos h]
theorem ansP_sub {d : Deb} {ms : List Str} {x : Str} (h : x ∈ ansP d ms) : x ∈ d.1 := (mem_ansP.mp h).1
theorem ansP_nodup {d : Deb} (h : d.1.Nodup) (ms : List Str) : (ansP d ms).Nodup := h.filter _
theorem ansP_mono {d : Deb} {l m : List Str} (h : ∀ x ∈ l, x ∈ m) {x : Str} (hx : x ∈ ansP d l) : x ∈ ansP d m := by
  rw [mem_ansP] at hx ⊢
  exact ⟨hx.1, fun o ho => let ⟨y, h1, h2⟩ := hx.2 o ho; ⟨y, h y h1, h2⟩⟩
theorem filter_grow {α : Type} {p q : α → Bool} : ∀ {xs : List α}, (∀ x ∈ xs, p x = true → q x = true) → (xs.filter p).length ≤ (xs.filter q).length ∧ ((xs.filter p).length = (xs.filter q).length → xs.filter p = xs.filter q)
  | [], _ => ⟨Nat.le_refl _, fun _ => rfl⟩
  | x :: xs, h => by
    obtain ⟨h1, h2⟩ := filter_grow (xs := xs) fun y hy => h y (List.mem_cons_of_mem _ hy)
    by_cases hp : p x = true
    · have hq := h x (List.mem_cons_self ..) hp
      rw [List.filter_cons_of_pos hp, List.filter_cons_of_pos hq, List.length_cons, List.length_cons]
      exact ⟨by omega, fun e => by rw [h2 (by omega)]⟩
    · rw [List.filter_cons_of_neg hp]
      by_cases hq : q x = true
      · rw [List.filter_cons_of_pos hq, List.length_cons]
        exact ⟨by omega, fun e => by omega⟩
      · rw [List.filter_cons_of_neg hq]
        exact ⟨h1, h2⟩
theorem ansP_grow {d : Deb} {l m : List Str} (h : ∀ x ∈ l, x ∈ m) (hne : ansP d m ≠ ansP d l) : (ansP d l).length < (ansP d m).length := by
  have hg := filter_grow (p := fun s => (tosP d.2 s).all fun o => decide (o ∈ hitP d l)) (q := fun s => (tosP d.2 s).all fun o => decide (o ∈ hitP d m)) (xs := d.1) fun x hx hp => by
    have h1 : x ∈ ansP d l := List.mem_filter.mpr ⟨hx, hp⟩
    exact (List.mem_filter.mp (ansP_mono h h1)).2
  have h1 : (ansP d l).length ≤ (ansP d m).length := hg.1
  have h2 : (ansP d l).length = (ansP d m).length → ansP d l = ansP d m := hg.2
  rcases Nat.lt_or_ge (ansP d l).length (ansP d m).length with h | h
  · exact h
  · exact absurd (h2 (by omega)).symm hne
theorem ansP_len {d : Deb} (l : List Str) : (ansP d l).length ≤ d.1.length := List.length_filter_le _ _
theorem nwF_ex {W : SC} {G : Hp} {O : Own} {F : Addr → HO} {p : Addr} (h : NwF W G (exAll F O) p) : NwF W G O p := by
  obtain ⟨h1, h2, h3, h4⟩ := h
  refine ⟨h1, h2, h3, fun hm => h4 ?_⟩
  unfold exAll
  rw [List.map_map]
  exact hm
theorem nwF_st {W : SC} {G G2 : Hp} {O : Own} {p : Addr} (s : Same G G2) (h : NwF W G2 O p) : NwF W G O p := by
  obtain ⟨h1, h2, h3, h4⟩ := h
  refine ⟨h1, h2, ?_, h4⟩
  cases e : G p with
  | none => rfl
  | some o => have := s _ _ e; rw [h3] at this; cases this
section
variable {P : Program} {w : World} {K : PySem.W.Frag} {mg : Str → Option Value} {base : Heap} {aL : Addr} {Tb : List (Addr × Str)}
def sp_stages (K : PySem.W.Frag) (C : Addr) (Tb : List (Addr × Str)) : Sp := spMD Tb (fun d : Deb => [DB K C d]) okB S stagesP
end
end Gd

-- part Gd54
set_option Elab.async false
set_option linter.all false
set_option maxRecDepth 100000
set_option maxHeartbeats 1000000
/-! ### dicts of one's own: setdefault, what a comprehension makes of some, get -/
namespace Gd
open PySem PySem.Spec PyProof.Rows L2
universe u
def Op {α : Type} (e : α → SR) : Option α → SR
  | some a => e a
  | none => N
def setd {α : Type} (kvs : List (Str × α)) (s : Str) (a : α) : List (Str × α) := if (kvs.lookup s).isSome = true then kvs else kvs ++ [(s, a)]
theorem setd_len {α : Type} (kvs : List (Str × α)) (s : Str) (a : α) : (setd kvs s a).length ≤ kvs.length + 1 := by
  unfold setd
  split
  · omega
  · rw [List.length_append, List.length_singleton]; exact Nat.le_refl _
theorem AlD.valNone {α : Type} {e : α → SR} {G : Hp} {k : Str} : ∀ {as : List (Str × α)} {vs : List (Key × V)}, AlD e as vs G → as.lookup k = none → valV vs (Sum.inr k : Key) = none
  | _, _, .nil, _ => rfl
  | _, _, .cons (k := k') h t, hl => by
    rw [List.lookup_cons] at hl
    by_cases e : k = k'
    · subst e; simp at hl
    · have e2 : (k == k') = false := by simpa using e
      rw [e2] at hl
      rw [valV_neg fun z => e (Sum.inr.inj z).symm]
      exact AlD.valNone t hl
section
variable {K : PySem.W.Frag} {W : SC} {O O' : Own} {n k m : Nat} {G0 G G2 H H2 : Hp} {Rs Rs' : RL} {R : SR} {te ta tb tk ty tx to : TE} {t u : TS} {E : Ends} {α β : Type} {e : α → SR} {xs : List α} {D : Addr} {i j : Nat}
/-- found.setdefault(k, v) -/
theorem hl_setd {kvs : List (Str × β)} {er : β → SR} {s : Str} {a : β} (hi : Rs[i]? = some (some (cst (.ref D)))) (h1 : EL W ((D, ODct er kvs) :: O) k ty Rs (S s)) (h2 : EL W ((D, ODct er kvs) :: O) m tx Rs (er a)) (hl : kvs.length ≤ 10000000) (q : HL W G0 (n + (k + m)) ((D, ODct er (setd kvs s a)) :: O) Rs u E) (hn : n + (k + m) ≤ 1000000 := by omega) : HL W G0 n ((D, ODct er kvs) :: O) Rs (tSeq (tDrop (tDSetd (tVar i) ty tx)) u) E := fun σ H ⟨G, s0, sl, w⟩ => by
  obtain ⟨x, e1, e2⟩ := sl.get i _ hi
  obtain rfl : x = .ref D := e2
  obtain ⟨_, _, _, o, d4, _, ws, rfl, _⟩ := w.o _ (List.mem_cons_self ..)
  refine ⟨_, e1, D, rfl, .inl ⟨_, .inl d4⟩, h1 σ G H n _ sl w (by omega) fun y G1 H1 s1 w1 ⟨ey, _⟩ => ?_⟩
  subst ey
  refine h2 σ G1 H1 (n + k) _ (sl.st s1) w1 (by omega) fun z G2 H2 s2 w2 pz => ?_
  obtain ⟨_, _, _, o, z4, _, ks, rfl, z6, al⟩ := w2.o _ (List.mem_cons_self ..)
  have hlen : ks.length = kvs.length := by
    have := congrArg List.length al.keys
    rwa [List.length_map, List.length_map, List.length_map] at this
  have : sizeLine = 16777216 := sizeLine_eq
  refine ⟨ks, Sum.inr s, z4, rfl, by omega, fun v hv => ?_, fun hv => ?_⟩
  · have e : setd kvs s a = kvs := by
      unfold setd
      rw [if_pos]
      cases q : kvs.lookup s with
      | some _ => rfl
      | none => rw [al.valNone q] at hv; cases hv
    rw [e] at q
    exact q _ _ ⟨G2, (s0.trans s1).trans s2, (sl.st s1).st s2, w2.eq (by omega)⟩
  · have e0 : kvs.lookup s = none := by
      cases q : kvs.lookup s with
      | none => rfl
      | some b => obtain ⟨v, q1, _⟩ := al.val q; rw [hv] at q1; cases q1
    have e : setd kvs s a = kvs ++ [(s, a)] := by
      unfold setd
      rw [e0]
      rfl
    rw [e] at q
    have ep : putK ks (Sum.inr s : Key) z = ks ++ [(Sum.inr s, z)] := by
      unfold putK
      rw [valV_any, hv]
      rfl
    refine q _ _ ⟨G2, (s0.trans s1).trans s2, (sl.st s1).st s2, ?_⟩
    rw [ep]
    exact (w2.put (R' := ODct er (kvs ++ [(s, a)])) (o := .dK (ks ++ [(Sum.inr s, z)])) (fun u ⟨_, e, _⟩ => by rw [e]; rfl) rfl ⟨_, rfl, by rw [List.length_append, List.length_singleton]; omega, al.snoc pz⟩).eq (by omega)
/-- {k: v for a in .. if ..} -/
theorem elo_dcF {wi : TI} {g : TG} {tt : TT} {vs is : List Nat} {er : β → SR} {ky : α → Str} {fn : α → β} {p : α → Bool} {Ra : α → RL} (hi : EIL W O k wi Rs e xs) (nd : (xs.map ky).Nodup) (hg : ∀ a, a ∈ xs → GL g (e a) (wipeR Rs vs) (Ra a) is) (ht : ∀ a, a ∈ xs → ∀ O', ETL W O' 0 tt (Ra a) (p a)) (hk : ∀ a, a ∈ xs → p a = true → ∀ O', EL W O' 0 tk (Ra a) (S (ky a))) (hb : ∀ a, a ∈ xs → p a = true → ∀ O', EL W O' 0 te (Ra a) (er (fn a))) (his : ∀ i ∈ is, i ∈ vs := by decide) :
    ELO W O k (tDc wi g tt tk te vs) Rs (ODct er ((xs.filter p).map fun a => (ky a, fn a))) := fun σ G H n Q sl w hn kk => by
  refine hi σ G H n _ sl w (by omega) fun J G2 H2 s2 w2 WR D hD => ?_
  have sl2 := (sl.st s2).wipe vs
  refine ⟨fun i z H => z = xs.length - i ∧ i ≤ xs.length ∧ ∃ G', Same G2 G' ∧ Wd W (n + k) ((D, ODct er (((xs.take i).filter p).map fun a => (ky a, fn a))) :: O) G' H, ⟨xs.length, rfl, Nat.zero_le _, G2, Same.refl _, w2.own (R := ODct er []) hD rfl ⟨[], rfl, Nat.zero_le _, .nil⟩⟩, ?_⟩
  rintro i z H ⟨rfl, hi2, G', s', w'⟩
  by_cases hlt : i < xs.length
  · refine .inr ⟨WR.goes i G' H hlt s' w'.r trivial, fun H' => ∃ G', Same G2 G' ∧ Wd W (n + k) ((D, ODct er (((xs.take (i + 1)).filter p).map fun a => (ky a, fn a))) :: O) G' H', fun H' h' => ⟨xs.length - (i + 1), by omega, rfl, hlt, h'⟩, fun x H' y => ?_⟩
    have hxi : xs[i]? = some xs[i] := List.getElem?_eq_getElem hlt
    obtain ⟨G4, g4, pa⟩ := WR.yields i xs[i] G' H x H' hxi s' w'.r trivial y
    have w4 := w'.go g4
    obtain ⟨σ', q1, q2, q3⟩ := (hg xs[i] (List.getElem_mem hlt)).h x (L2.wipe σ vs) G4 (sl2.st (s'.trans g4.g)) pa
    refine q1 H' _ w4.r ⟨?_, ?_⟩
    · have : L2.wipe (L2.wipe σ vs) vs = L2.wipe σ vs := by
        apply List.ext_getElem?
        intro j
        rw [wipe_get, wipe_get, wipe_length]
        split <;> rfl
      rw [q3 vs his, this]
    refine ht xs[i] (List.getElem_mem hlt) _ σ' G4 H' _ _ q2 w4 (by omega) fun b G5 H5 s5 w5 eb => ?_
    subst eb
    by_cases hp : p xs[i] = true
    · rw [if_pos hp]
      refine hk xs[i] (List.getElem_mem hlt) hp _ σ' G5 H5 _ _ (q2.st s5) w5 (by omega) fun y' G6 H6 s6 w6 ⟨ey, _⟩ => ?_
      subst ey
      refine hb xs[i] (List.getElem_mem hlt) hp _ σ' G6 H6 _ _ ((q2.st s5).st s6) w6 (by omega) fun u G7 H7 s7 w7 pu => ?_
      obtain ⟨_, _, _, ho, h4, _, acc, rfl, h7, h8⟩ := w7.o _ (List.mem_cons_self ..)
      have hacc : acc.length = (((xs.take i).filter p).map fun a => (ky a, fn a)).length := by
        have := congrArg List.length h8.keys
        rwa [List.length_map, List.length_map, List.length_map] at this
      have hx := WR.len
      have hft : (((xs.take i).filter p).map fun a => (ky a, fn a)).length ≤ i := by
        rw [List.length_map]
        exact Nat.le_trans (List.length_filter_le _ _) (by rw [List.length_take]; omega)
      have e6 : ((xs.take (i + 1)).filter p).map (fun a => (ky a, fn a)) = ((xs.take i).filter p).map (fun a => (ky a, fn a)) ++ [(ky xs[i], fn xs[i])] := by
        rw [take_succ hxi, List.filter_append, List.map_append, List.filter_cons_of_pos hp]
        rfl
      have hnk : valV acc (Sum.inr (ky xs[i]) : Key) = none := by
        refine valV_none ?_
        rw [h8.keys, List.map_map, List.map_map]
        intro q
        obtain ⟨a0, ha0, e1⟩ := List.mem_map.mp q
        have e2 : ky a0 = ky xs[i] := Sum.inr.inj e1
        have hs' : ky xs[i] ∈ (xs.take i).map ky := List.mem_map.mpr ⟨a0, (List.mem_filter.mp ha0).1, e2⟩
        have nd2 := nd
        rw [← List.take_append_drop i xs, List.map_append] at nd2
        exact (List.nodup_append.mp nd2).2.2 _ hs' (ky xs[i]) (List.mem_map.mpr ⟨xs[i], by rw [List.drop_eq_getElem_cons hlt]; exact List.mem_cons_self .., rfl⟩) rfl
      refine ⟨acc, Sum.inr (ky xs[i]), rfl, h4, by omega, G7, (((s'.trans g4.g).trans s5).trans s6).trans s7, ?_⟩
      rw [e6, putK_new _ hnk]
      exact w7.put (R' := ODct er (((xs.take i).filter p).map (fun a => (ky a, fn a)) ++ [(ky xs[i], fn xs[i])])) (o := .dK (acc ++ [(Sum.inr (ky xs[i]), u)])) (fun u ⟨_, e, _⟩ => by rw [e]; rfl) rfl ⟨_, rfl, by rw [List.length_append, List.length_singleton]; omega, h8.snoc pu⟩
    · rw [if_neg hp]
      have e6 : ((xs.take (i + 1)).filter p).map (fun a => (ky a, fn a)) = ((xs.take i).filter p).map (fun a => (ky a, fn a)) := by
        rw [take_succ hxi, List.filter_append, List.filter_cons_of_neg hp, List.filter_nil, List.append_nil]
      refine ⟨G5, (s'.trans g4.g).trans s5, ?_⟩
      rw [e6]
      exact w5
  · have e0 : i = xs.length := by omega
    subst e0
    rw [List.take_length] at w'
    exact .inl ⟨WR.stops G' H s' w'.r trivial, kk D G' H (s2.trans s') w'⟩
/-- (a new dict).get(k) -/
theorem el_dgetN {kvs : List (Str × β)} {er : β → SR} {s : Str} (h1 : ELO W O k ta Rs (ODct er kvs)) (h2 : EL W O m ty Rs (S s)) : EL W O (k + m) (tDGet1 ta ty) Rs (Op er (kvs.lookup s)) := fun σ G H n Q sl w hn kk => by
  refine h1 σ G H n _ sl w (by omega) fun d G1 H1 s1 w1 => ?_
  obtain ⟨o, d1, ⟨ws, rfl, d2, al⟩, s2, w2⟩ := w1.freeze
  refine ⟨d, rfl, .inl ⟨_, .inl d1⟩, h2 σ _ H1 (n + k) _ ((sl.st s1).st s2) w2 (by omega) fun y G3 H3 s3 w3 ⟨ey, _⟩ => ?_⟩
  subst ey
  have d3 : H3 d = some (.dK ws) := w3.r.ex (s3 _ _ upd_same)
  refine ⟨_, .inl ⟨ws, Sum.inr s, .inl d3, rfl, rfl⟩, ?_⟩
  have al3 := al.st (s2.trans s3)
  cases q : kvs.lookup s with
  | some b =>
    obtain ⟨v, q1, q2⟩ := al3.val q
    rw [q1]
    refine kk v G3 H3 ((s1.trans s2).trans s3) (w3.eq (by omega)) ?_
    rw [q]
    exact q2
  | none =>
    rw [al3.valNone q]
    refine kk .non G3 H3 ((s1.trans s2).trans s3) (w3.eq (by omega)) ?_
    rw [q]
    rfl
end
end Gd

-- part D6
set_option Elab.async false
set_option linter.all false
set_option maxRecDepth 100000
set_option maxHeartbeats 1000000
/-! ### ranks -/
namespace Gd
open PySem PySem.Spec PyProof.Rows L2
universe u
def lotStep (acc : List (Str × Int)) (q : Int × List Str) : List (Str × Int) := q.2.foldl (fun a s => setd a s q.1) acc
def foundP (d : Deb) : List (Str × Int) := (enumI (stagesP d)).foldl lotStep []
def ranksP (d : Deb) : List (Str × Int) := (d.1.filter fun s => ((foundP d).lookup s).isSome).map fun s => (s, ((foundP d).lookup s).getD 0)
theorem foldSetd_len (r : Int) : ∀ (l : List Str) (acc : List (Str × Int)), (l.foldl (fun a s => setd a s r) acc).length ≤ acc.length + l.length
  | [], acc => Nat.le_refl _
  | s :: l, acc => by
    rw [List.foldl_cons, List.length_cons]
    have h1 := foldSetd_len r l (setd acc s r)
    have h2 := setd_len acc s r
    omega
theorem foldLot_len (z : Nat) : ∀ (qs : List (Int × List Str)) (acc : List (Str × Int)), (∀ q ∈ qs, q.2.length ≤ z) → (qs.foldl lotStep acc).length ≤ acc.length + qs.length * z
  | [], acc, _ => by simp
  | q :: qs, acc, h => by
    rw [List.foldl_cons, List.length_cons]
    have h1 := foldLot_len z qs (lotStep acc q) fun y hy => h y (List.mem_cons_of_mem _ hy)
    have h2 := foldSetd_len q.1 q.2 acc
    have h3 := h q (List.mem_cons_self ..)
    have h4 : (lotStep acc q).length ≤ acc.length + q.2.length := h2
    rw [Nat.add_mul, Nat.one_mul]
    omega
theorem stgs_len (d : Deb) : ∀ (f : Nat) (l : List Str), (stgs d f l).length ≤ f + 1
  | 0, l => by simp [stgs]
  | f + 1, l => by
    unfold stgs
    split
    · simp
    · rw [List.length_cons]
      have := stgs_len d f (ansP d l)
      omega
theorem stgs_mem (d : Deb) : ∀ (f : Nat) (l : List Str), (∃ m, l = ansP d m) → ∀ x ∈ stgs d f l, ∃ m, x = ansP d m
  | 0, l, h, x, hx => by
    unfold stgs at hx
    rw [List.mem_singleton.mp hx]
    exact h
  | f + 1, l, h, x, hx => by
    unfold stgs at hx
    split at hx
    · rw [List.mem_singleton.mp hx]
      exact h
    · rcases List.mem_cons.mp hx with rfl | hx
      · exact h
      · exact stgs_mem d f _ ⟨l, rfl⟩ x hx
theorem stagesP_len (d : Deb) : (stagesP d).length ≤ d.1.length + 2 := stgs_len d _ _
theorem stagesP_mem {d : Deb} {l : List Str} (h : l ∈ stagesP d) : ∃ m, l = ansP d m := stgs_mem d _ _ ⟨[], rfl⟩ l h
theorem lookup_keys {α : Type} {s : Str} : ∀ kvs : List (Str × α), decide (s ∈ kvs.map (·.1)) = (kvs.lookup s).isSome
  | [] => rfl
  | (k, a) :: kvs => by
    rw [List.lookup_cons, List.map_cons]
    by_cases e : s = k
    · subst e; simp
    · have e2 : (s == k) = false := by simpa using e
      rw [e2, ← lookup_keys kvs]
      simp [e]
section
variable {P : Program} {w : World} {K : PySem.W.Frag} {mg : Str → Option Value} {base : Heap} {aL : Addr} {Tb : List (Addr × Str)}
def sp_known_ranks (K : PySem.W.Frag) (C : Addr) (Tb : List (Addr × Str)) : Sp := spMO Tb (fun d : Deb => [DB K C d]) okB (fun d => ODct I (ranksP d))
def sp_ranks_of (K : PySem.W.Frag) (C : Addr) (Tb : List (Addr × Str)) : Sp := sp_known_ranks K C Tb
end
end Gd

-- part D7
set_option Elab.async false
set_option linter.all false
set_option maxRecDepth 100000
set_option maxHeartbeats 1000000
/-! ### checked_statement, rank_of -/
namespace Gd
open PySem PySem.Spec PyProof.Rows L2
universe u
/-- no statement of ss -/
inductive StX (K : PySem.W.Frag) (ss : List Str) : SR → Prop
  | no (s : Str) : s ∉ ss → StX K ss (S s)
  | odd (R : SR) (h : ∀ v b G H, Rel b G H → R.p v G → ∃ t, TyY K H v t ∧ PySem.W.kitOne K t (.type "str") = some false) : StX K ss R
section
variable {P : Program} {w : World} {K : PySem.W.Frag} {mg : Str → Option Value} {base : Heap} {aL : Addr} {Tb : List (Addr × Str)}
theorem dbT_ks {d : Deb} : (d.1.map fun s => (s, tosP d.2 s)).map (·.1) = d.1 := by rw [List.map_map]; exact List.map_id' _
def sp_stmt (K : PySem.W.Frag) (C : Addr) : Sp := spF true (fun i : Deb × Str => [DB K C i.1, S i.2]) (fun i => i.2 ∈ i.1.1) (fun i => S i.2)
def sp_stmtX (K : PySem.W.Frag) (C CB : Addr) : Sp := spX true (fun i : Deb × SR => [DB K C i.1, i.2]) (fun i => StX K i.1.1 i.2) CB "thing" (fun i => i.2)
def sp_rank_of (K : PySem.W.Frag) (C : Addr) (Tb : List (Addr × Str)) : Sp := spM Tb (fun i : Deb × Str => [DB K C i.1, S i.2]) (fun i => okB i.1 ∧ i.2 ∈ i.1.1) (fun i => Op I ((ranksP i.1).lookup i.2))
def sp_rankX (K : PySem.W.Frag) (C CB : Addr) (Tb : List (Addr × Str)) : Sp := spXM Tb (fun i : Deb × SR => [DB K C i.1, i.2]) (fun i => okB i.1 ∧ StX K i.1.1 i.2) CB "thing" (fun i => i.2)
end
end Gd

-- part Gd55
set_option Elab.async false
set_option linter.all false
set_option maxRecDepth 100000
set_option maxHeartbeats 1000000
/-! ### what is told but in part: slots, owned things, iterators, arguments -/
namespace Gd
open PySem PySem.Spec PyProof.Rows L2
universe u
def ORX {A : Type} (P : A → Prop) (R : A → OR) : OR := ⟨fun o G => ∃ a, P a ∧ (R a).p o G, fun s ⟨a, h1, h2⟩ => ⟨a, h1, (R a).st s h2⟩⟩
section
variable {K : PySem.W.Frag} {W : SC} {O O' : Own} {n k m l c : Nat} {G0 G G2 H H2 : Hp} {Rs Rs' : RL} {R R1 R2 : SR} {te ta tb tc tk ty tx to : TE} {tr : TA} {t u : TS} {E : Ends} {α β A : Type} {e : α → SR} {xs : List α} {D p : Addr} {i j z : Nat} {P : A → Prop}
theorem hl_open {f : A → SR} (i : Nat) (hi : Rs[i]? = some (some (ExR P f))) (q : ∀ a, P a → HL W G0 n O (Rs.set i (some (f a))) t E) : HL W G0 n O Rs t E := fun σ H ⟨G, s, sl, w⟩ => by
  obtain ⟨v, h1, a, ha, h2⟩ := sl.get i _ hi
  refine q a ha σ H ⟨G, s, ⟨by rw [List.length_set]; exact sl.len, fun j R' e' => ?_⟩, w⟩
  by_cases z : i = j
  · subst z
    have hl : i < Rs.length := (List.getElem?_eq_some_iff.mp hi).1
    rw [List.getElem?_set_self hl] at e'
    cases e'
    exact ⟨v, h1, h2⟩
  · rw [List.getElem?_set_ne z] at e'
    exact sl.get j R' e'
theorem hl_openO {f : A → OR} (q : ∀ a, P a → HL W G0 n ((p, f a) :: O) Rs t E) : HL W G0 n ((p, ORX P f) :: O) Rs t E := fun σ H ⟨G, s, sl, w⟩ => by
  obtain ⟨h1, h2, h3, o, h4, h5, a, ha, h6⟩ := w.o _ (List.mem_cons_self ..)
  refine q a ha σ H ⟨G, s, sl, ⟨w.r, w.nt, w.tb, w.d, w.nd, fun x hx => ?_⟩⟩
  rcases List.mem_cons.mp hx with rfl | hx
  · exact ⟨h1, h2, h3, o, h4, h5, h6⟩
  · exact w.o x (List.mem_cons_of_mem _ hx)
/-- range(te), told but in part -/
theorem eix_range {Pd : Nat → Prop} (h : EL W O k te Rs (ExR Pd fun d => I (d : Nat))) (hz : ∀ d, Pd d → d ≤ 100000) : EIX W O k (iRng1 (tCons te tNil)) Rs (fun xs : List Nat => ∃ d, Pd d ∧ xs = List.range d) (fun i : Nat => I (0 + (i : Nat))) := fun σ G H n Q sl w hn kk =>
  h σ G H n _ sl w hn fun v G2 H2 s2 w2 ⟨d, hd, pv⟩ => by
    have := hz d hd
    refine (ei_range1 (b := true) (σ := σ) (G := G2) (te := tC v) (n := ((d : Nat) : Int)) (ev_cR' pv) (by omega) (by omega)).run w2.r fun J G3 H3 g3 W3 => kk J G3 H3 (s2.trans g3.g) (w2.go g3) ⟨List.range d, ⟨d, hd, rfl⟩, ?_⟩
    simpa using W3
theorem EIX.imp {ti : TI} {Px Py : List α → Prop} (h : EIX W O k ti Rs Px e) (q : ∀ xs, Px xs → Py xs) : EIX W O k ti Rs Py e := h.is fun J G ⟨xs, h1, h2⟩ => ⟨xs, q xs h1, h2⟩
/-- comprehensions over what is told but in part -/
theorem eln_lcX {Px : List α → Prop} {wi : TI} {g : TG} {tt : TT} {vs is : List Nat} {er : β → SR} {fn : α → β} {p : α → Bool} {Ra : α → RL} (hi : EIX W O k wi Rs Px e) (hg : ∀ xs, Px xs → ∀ a, a ∈ xs → GL g (e a) (wipeR Rs vs) (Ra a) is) (ht : ∀ xs, Px xs → ∀ a, a ∈ xs → ∀ O', ETL W O' 0 tt (Ra a) (p a)) (hb : ∀ xs, Px xs → ∀ a, a ∈ xs → p a = true → ∀ O', EL W O' 0 te (Ra a) (er (fn a))) (his : ∀ i ∈ is, i ∈ vs := by decide) :
    ELO W O k (tLc wi g tt te vs) Rs (ORX Px fun xs => OL er ((xs.filter p).map fn)) := fun σ G H n Q sl w hn kk => by
  refine hi σ G H n _ sl w (by omega) fun J G2 H2 s2 w2 ⟨xs, hx, WR⟩ D hD => ?_
  have sl2 := (sl.st s2).wipe vs
  refine ⟨fun i z H => z = xs.length - i ∧ i ≤ xs.length ∧ ∃ G', Same G2 G' ∧ Wd W (n + k) ((D, OL er (((xs.take i).filter p).map fn)) :: O) G' H, ⟨xs.length, rfl, Nat.zero_le _, G2, Same.refl _, w2.own (R := OL er []) hD rfl ⟨[], rfl, Nat.zero_le _, .nil⟩⟩, ?_⟩
  rintro i z H ⟨rfl, hi2, G', s', w'⟩
  by_cases hlt : i < xs.length
  · refine .inr ⟨WR.goes i G' H hlt s' w'.r trivial, fun H' => ∃ G', Same G2 G' ∧ Wd W (n + k) ((D, OL er (((xs.take (i + 1)).filter p).map fn)) :: O) G' H', fun H' h' => ⟨xs.length - (i + 1), by omega, rfl, hlt, h'⟩, fun x H' y => ?_⟩
    have hxi : xs[i]? = some xs[i] := List.getElem?_eq_getElem hlt
    obtain ⟨G4, g4, pa⟩ := WR.yields i xs[i] G' H x H' hxi s' w'.r trivial y
    have w4 := w'.go g4
    obtain ⟨σ', q1, q2, q3⟩ := (hg xs hx xs[i] (List.getElem_mem hlt)).h x (L2.wipe σ vs) G4 (sl2.st (s'.trans g4.g)) pa
    refine q1 H' _ w4.r ⟨?_, ?_⟩
    · have : L2.wipe (L2.wipe σ vs) vs = L2.wipe σ vs := by
        apply List.ext_getElem?
        intro j
        rw [wipe_get, wipe_get, wipe_length]
        split <;> rfl
      rw [q3 vs his, this]
    refine ht xs hx xs[i] (List.getElem_mem hlt) _ σ' G4 H' _ _ q2 w4 (by omega) fun b G5 H5 s5 w5 eb => ?_
    subst eb
    by_cases hp : p xs[i] = true
    · rw [if_pos hp]
      refine hb xs hx xs[i] (List.getElem_mem hlt) hp _ σ' G5 H5 _ _ (q2.st s5) w5 (by omega) fun u G6 H6 s6 w6 pu => ?_
      obtain ⟨_, _, _, ho, h4, _, acc, rfl, h7, h8⟩ := w6.o _ (List.mem_cons_self ..)
      have hl := h8.len
      have hx := WR.len
      have hft : (((xs.take i).filter p).map fn).length ≤ i := by
        rw [List.length_map]
        exact Nat.le_trans (List.length_filter_le _ _) (by rw [List.length_take]; omega)
      have e6 : ((xs.take (i + 1)).filter p).map fn = ((xs.take i).filter p).map fn ++ [fn xs[i]] := by
        rw [take_succ hxi, List.filter_append, List.map_append, List.filter_cons_of_pos hp]
        rfl
      refine ⟨acc, h4, by omega, G6, ((s'.trans g4.g).trans s5).trans s6, ?_⟩
      rw [e6]
      exact w6.put (R' := OL er (((xs.take i).filter p).map fn ++ [fn xs[i]])) (o := .lst (acc ++ [u])) (fun u ⟨_, e, _⟩ => by rw [e]; rfl) rfl ⟨_, rfl, by rw [List.length_append, List.length_singleton]; omega, h8.snoc pu⟩
    · rw [if_neg hp]
      have e6 : ((xs.take (i + 1)).filter p).map fn = ((xs.take i).filter p).map fn := by
        rw [take_succ hxi, List.filter_append, List.filter_cons_of_neg hp, List.filter_nil, List.append_nil]
      refine ⟨G5, (s'.trans g4.g).trans s5, ?_⟩
      rw [e6]
      exact w5
  · have e0 : i = xs.length := by omega
    subst e0
    rw [List.take_length] at w'
    exact .inl ⟨WR.stops G' H s' w'.r trivial, kk D G' H (s2.trans s') (w'.weak fun o h => ⟨xs, hx, h⟩)⟩
/-- a, b, c = x, y, [..] -/
theorem hl_asg3N {R : OR} (h1 : EL W O k ta Rs R1) (h2 : EL W O m tb Rs R2) (h3 : ELO W O l tc Rs R) (q : ∀ p, HL W G0 (n + (k + m + l)) ((p, R) :: O) (((Rs.set i (some R1)).set j (some R2)).set z (some (cst (.ref p)))) u E) (hn : n + (k + m + l) ≤ 1000000 := by omega) : HL W G0 n O Rs (tSeq (tAsg (tTup (tCons ta (tCons tb (tCons tc tNil)))) (gTup K 3 (gCons (gName i) (gCons (gName j) (gCons (gName z) gNil))))) u) E := fun σ H ⟨G, s, sl, w⟩ => by
  refine h1 σ G H n _ sl w (by omega) fun v1 G1 H1 s1 w1 p1 => ?_
  refine h2 σ G1 H1 (n + k) _ (sl.st s1) w1 (by omega) fun v2 G2 H2 s2 w2 p2 => ?_
  refine h3 σ G2 H2 (n + k + m) _ (sl.st (s1.trans s2)) w2 (by omega) fun p G3 H3 s3 w3 => ⟨by show 3 ≤ sizeLine; decide, fun a ha => ?_⟩
  have s4 := Same.new (o := .tup [v1, v2, .ref p]) (w3.r.free ha)
  have w4 := w3.new (o := .tup [v1, v2, .ref p]) ha rfl
  refine ⟨a, [v1, v2, .ref p], rfl, SqT.of upd_same, rfl, v1, [v2, .ref p], rfl, v2, [.ref p], rfl, .ref p, [], rfl, rfl, q p _ _ ⟨_, ((s.trans s1).trans s2).trans (s3.trans s4), ?_, w4.eq (by omega)⟩⟩
  exact (((sl.st ((s1.trans s2).trans (s3.trans s4))).set (R1.st (s2.trans (s3.trans s4)) p1)).set (R2.st (s3.trans s4) p2)).set (R := cst (.ref p)) rfl
/-- a call that draws, its arguments told but in part -/
theorem el_calldX {ι : Type u} {pre : ι → List SR} {ok : ι → Prop} {cost : ι → Nat} {post : ι → SR} {j : Nat} {X : XK} (i : A → ι) (hs : Rs[j]? = some (some (cst (.ref W.s)))) (ha : EG W O k tr Rs (fun vs G => ∃ a, P a ∧ AlR (pre (i a)) vs G)) (hok : ∀ a, P a → ok (i a)) (hc : ∀ a, P a → cost (i a) ≤ c) (hp : ∀ a, P a → ∀ v G, (post (i a)).p v G → R.p v G) : EL W O (k + c) (tCall (spD pre ok cost post) [] X (tCons (tVar j) tr)) Rs R := fun σ G H n Q sl w hn kk => by
  obtain ⟨v, h1, h2⟩ := sl.get j _ hs
  obtain rfl : v = .ref W.s := h2
  refine ⟨_, h1, ha σ G H n _ sl w (by omega) fun vs G2 H2 s2 w2 ⟨a, pa, al⟩ => ?_⟩
  have := hc a pa
  exact ⟨i a, G2, W.s, W.c, n + k, vs, by rw [List.append_nil], w2.r, w2.d, by omega, hok a pa, al, fun v G3 H3 g d3 r3 p => kk v G3 H3 (s2.trans g.g) ((w2.gs g d3 r3).le (by omega)) (hp a pa v G3 p)⟩
theorem eal_X1 {f : A → SR} (h : EL W O k ta Rs (ExR P f)) : EG W O k (tCons ta tNil) Rs (fun vs G => ∃ a, P a ∧ AlR [f a] vs G) := fun σ G H n Q sl w hn kk => h σ G H n _ sl w hn fun v G2 H2 s2 w2 ⟨a, pa, pv⟩ => kk [v] G2 H2 s2 w2 ⟨a, pa, .cons pv .nil⟩
theorem el_fX {f : A → SR} (F : TE → TE) (h : EL W O k te Rs (ExR P f)) (hr : ∀ (a : A) (v : V) (σ : L2.St) (G : Hp), P a → (f a).p v G → Ev true (F (tC v)) σ G R) (hF : ∀ (σ : L2.St) (H : Hp) (Q : VK), (te σ H fun v H1 => F (tC v) σ H1 Q) → F te σ H Q := by exact fun _ _ _ h => h) : EL W O k (F te) Rs R := el_f1 F h (fun v σ G ⟨a, pa, pv⟩ => hr a v σ G pa pv) hF
/-- if .. else .., and then on -/
theorem hl_ifJ {tt : TT} {cc : Bool} {t2 : TS} {δ : Type} (Pj : δ → Prop) (Of : δ → Own) (Rj : δ → RL) (n2 : Nat) (h : ETL W O k tt Rs cc) (q1 : cc = true → ∀ E', E'.rt = E.rt → (∀ d σ H, Pj d → At W G0 n2 (Of d) (Rj d) σ H → E'.nx σ H) → HL W G0 (n + k) O Rs t E') (q2 : cc = false → ∀ E', E'.rt = E.rt → (∀ d σ H, Pj d → At W G0 n2 (Of d) (Rj d) σ H → E'.nx σ H) → HL W G0 (n + k) O Rs t2 E') (q : ∀ d, Pj d → HL W G0 n2 (Of d) (Rj d) u E) (hn : n + k ≤ 1000000 := by omega) : HL W G0 n O Rs (tSeq (tIfS tt t t2) u) E :=
  hl_if h (fun e => q1 e _ rfl fun d σ H hd a => q d hd σ H a) (fun e => q2 e _ rfl fun d σ H hd a => q d hd σ H a) hn
theorem ev_repL {b : Bool} {σ : L2.St} {r : Int} (ha : Ev b ta σ G (Lst e xs)) (hb : Ev b tb σ G (I r)) (hr : r = 0 ∨ r = 1) (hl : xs.length ≤ 1000) : EvN b (tOp L2.rRep ta tb) σ G e (if r = 0 then [] else xs) :=
  en_op ha hb fun x y G1 H1 a rr p q Q k => by
    obtain ⟨ad, vs, rfl, h1, h2, h3⟩ := p
    obtain rfl : y = _ := q
    have hlen := h3.len
    have : sizeLine = 16777216 := sizeLine_eq
    have h1' := rr.at h1 rfl
    refine ⟨ad, r, vs, rfl, rfl, h1', ?_, ?_, ?_, fun p hp => ?_⟩
    · rcases hr with rfl | rfl <;> decide
    · rcases hr with rfl | rfl <;> decide
    · rcases hr with rfl | rfl
      · simp
      · show vs.length * 1 ≤ _; omega
    · rcases hr with rfl | rfl
      · exact k p [] G1 _ (Go.own rr hp) hp (rr.free hp) upd_same (Nat.zero_le _) .nil
      · refine k p vs G1 _ (Go.own rr hp) hp (rr.free hp) ?_ h2 h3
        rw [upd_same]
        simp
theorem eln_repL {r : Int} (ha : EL W O k ta Rs (Lst e xs)) (hb : EL W O m tb Rs (I r)) (hr : r = 0 ∨ r = 1) (hl : xs.length ≤ 1000) : ELN W O (k + m) (tOp L2.rRep ta tb) Rs e (if r = 0 then [] else xs) := eln_o2 ha hb fun _ _ _ _ p q => ev_repL (ev_cR' p) (ev_cR' q) hr hl
theorem el_ex {f : A → SR} {a : A} (h : EL W O k te Rs (f a)) (pa : P a) : EL W O k te Rs (ExR P f) := h.is fun v G p => ⟨a, pa, p⟩
theorem ev_ex {b : Bool} {σ : L2.St} {f : A → SR} {a : A} (h : Ev b te σ G (f a)) (pa : P a) : Ev b te σ G (ExR P f) := h.is fun _ _ _ p => ⟨a, pa, p⟩
end
end Gd

-- part E1
set_option Elab.async false
set_option linter.all false
set_option maxRecDepth 100000
set_option maxHeartbeats 1000000
/-! ### drawn debates -/
namespace Gd
open PySem PySem.Spec PyProof.Rows L2
universe u
abbrev s_d_pairs : Stmt := topS 31
theorem sc_d_pairs : FnScope ["_law_stream", "_law_names", "_law_way", "_law_many", "_law_found", "_law_k", "_law_one", "_law_other"] ["_law_stream", "_law_names"] (defScope s_d_pairs) := ⟨rfl, rfl, rfl, by decide +kernel, rfl, by decide +kernel, by decide +kernel⟩
section
variable {K : PySem.W.Frag} {W : SC} {O : Own} {k m l n : Nat} {Rs : RL} {R : SR} {ta tb te : TE} {E : XK} {j : Nat} {α : Type} {e : α → SR} {xs : List α}
theorem el_drw {z : Nat} (hs : Rs[j]? = some (some (cst (.ref W.s)))) (h : EL W O k te Rs (I (z : Nat))) (h1 : 0 < z) (h2 : z ≤ 1000000) : EL W O (k + 0 + 1) (tCall sp_draw [] E (tCons (tVar j) (tCons te tNil))) Rs (Dw z) := el_calld (ι := Nat) (pre := fun m => [I m]) (ok := fun m => 0 < m ∧ m ≤ 1000000) (cost := fun _ => 1) (post := Dw) z hs (eal_cons h eal_nil) ⟨h1, h2⟩
theorem el_pck (hs : Rs[j]? = some (some (cst (.ref W.s)))) (h : EL W O k te Rs (Sq K e xs)) (h1 : xs ≠ []) (h2 : xs.length ≤ 100000) : EL W O (k + 0 + 1) (tCall (sp_pick K) [] E (tCons (tVar j) (tCons te tNil))) Rs (ExR (· ∈ xs) e) := el_calld (ι := PickI) (pre := fun i => [Sq K i.e i.xs]) (ok := fun i => i.xs ≠ [] ∧ i.xs.length ≤ 100000) (cost := fun _ => 1) (post := fun i => ExR (· ∈ i.xs) i.e) ⟨α, e, xs⟩ hs (eal_cons h eal_nil) ⟨h1, h2⟩
theorem el_mix (hs : Rs[j]? = some (some (cst (.ref W.s)))) (h : EL W O k te Rs (Sq K e xs)) (h2 : xs.length ≤ 100000) : EL W O (k + 0 + xs.length) (tCall (sp_mixed K) [] E (tCons (tVar j) (tCons te tNil))) Rs (ExR (fun ys => ys.Perm xs) (Lst e)) := el_calld (ι := PickI) (pre := fun i => [Sq K i.e i.xs]) (ok := fun i => i.xs.length ≤ 100000) (cost := fun i => i.xs.length) (post := fun i : PickI => ExR (fun ys : List i.α => List.Perm ys i.xs) (Lst i.e)) (⟨α, e, xs⟩ : PickI) hs (eal_cons h eal_nil) h2
theorem el_mulI {x y : Int} (ha : EL W O k ta Rs (I x)) (hb : EL W O m tb Rs (I y)) (h : CMul x y) : EL W O (k + m) (tOp (rI CMul fun i j => .int (i * j)) ta tb) Rs (I (x * y)) := el_o2 ha hb fun _ _ _ _ p q => ev_mulI (ev_cR' p) (ev_cR' q) h
theorem el_modI {x y : Int} (ha : EL W O k ta Rs (I x)) (hb : EL W O m tb Rs (I y)) (h : y ≠ 0) : EL W O (k + m) (tOp (rI (fun _ j => j ≠ 0) fun i j => .int (i.fmod j)) ta tb) Rs (I (x.fmod y)) := el_o2 ha hb fun _ _ _ _ p q => ev_modI (ev_cR' p) (ev_cR' q) h
theorem el_leI {x y : Int} (ha : EL W O k ta Rs (I x)) (hb : EL W O m tb Rs (I y)) : EL W O (k + m) (tOp (rI0 fun i j => .bl (decide (j ≤ i))) ta tb) Rs (B (decide (y ≤ x))) := el_I0 ha hb
theorem el_gtI {x y : Int} (ha : EL W O k ta Rs (I x)) (hb : EL W O m tb Rs (I y)) : EL W O (k + m) (tOp (rI0 fun i j => .bl (decide (j < i))) ta tb) Rs (B (decide (y < x))) := el_I0 ha hb
abbrev rInt1 : List V → Hp → VK → Prop := fun xs H Q => (∃ i, xs = [.int i] ∧ Q (.int i) H) ∨ ∃ k, xs = [.bl k] ∧ Q (.int (if k then 1 else 0)) H
theorem el_intI {x : Int} (ha : EL W O k ta Rs (I x)) : EL W O k (tCB rInt1 (tCons ta tNil)) Rs (I x) := fun σ G H n Q sl w hn kk => ha σ G H n _ sl w hn fun v G2 H2 s2 w2 p => .inl ⟨x, by rw [show v = V.int x from p], kk _ G2 H2 s2 w2 rfl⟩
theorem el_intB {x : Bool} (ha : EL W O k ta Rs (B x)) : EL W O k (tCB rInt1 (tCons ta tNil)) Rs (I (if x then 1 else 0)) := fun σ G H n Q sl w hn kk => ha σ G H n _ sl w hn fun v G2 H2 s2 w2 p => .inr ⟨x, by rw [show v = V.bl x from p], kk _ G2 H2 s2 w2 rfl⟩
end
section
variable {P : Program} {w : World} {K : PySem.W.Frag} {mg : Str → Option Value} {base : Heap} {aL : Addr} {Tb : List (Addr × Str)}
theorem ev_notinD {α : Type} [DecidableEq α] {b : Bool} {σ : L2.St} {G : Hp} {ta tb : TE} {e : α → SR} {c : α → PyData} {n : Nat} {x : α} {xs : List α} (ha : Ev b ta σ G (e x)) (hb : Ev b tb σ G (Lst e xs)) (E : Enc K e c n) (Q : EqE c) (hn : n ≤ 63 := by decide) : Ev b (tOp (rNotInD K) ta tb) σ G (B (!decide (x ∈ xs))) :=
  ev_opP ha hb fun u v G1 H1 a r p q => ⟨_, rfl, fun Q' hQ => ⟨c x, xs.map c, r.dp _ _ (E.h p), r.dp _ _ ((enc_lst E).h q), shaped_of (E.lay p) (Nat.le_trans (E.dep x) (by omega)), shaped_of ((enc_lst E).lay q) (Nat.le_trans ((enc_lst E).dep xs) (by omega)), by rw [anyEq Q]; exact hQ⟩⟩
abbrev PP (K : PySem.W.Frag) : Str × Str → SR := Pr K S S
def ostepP (acc : List (Str × Str)) (x : Str × Str) : List (Str × Str) := if decide (x ∈ acc) = true then acc else acc ++ [x]
def onceP (xs : List (Str × Str)) : List (Str × Str) := xs.foldl ostepP []
theorem onceP_spec : ∀ (xs acc : List (Str × Str)), acc.Nodup → (xs.foldl ostepP acc).Nodup ∧ (∀ x, x ∈ xs.foldl ostepP acc ↔ x ∈ acc ∨ x ∈ xs) ∧ (xs.foldl ostepP acc).length ≤ acc.length + xs.length
  | [], acc, h => ⟨h, fun x => by simp, Nat.le_refl _⟩
  | y :: xs, acc, h => by
    rw [List.foldl_cons]
    by_cases q : y ∈ acc
    · have e : ostepP acc y = acc := if_pos (by simpa using q)
      rw [e]
      obtain ⟨h1, h2, h3⟩ := onceP_spec xs acc h
      refine ⟨h1, fun x => ?_, by rw [List.length_cons]; omega⟩
      rw [h2, List.mem_cons]
      exact ⟨fun z => z.elim .inl fun z => .inr (.inr z), fun z => z.elim .inl fun z => z.elim (fun z => .inl (z ▸ q)) .inr⟩
    · have e : ostepP acc y = acc ++ [y] := if_neg (by simpa using q)
      rw [e]
      obtain ⟨h1, h2, h3⟩ := onceP_spec xs (acc ++ [y]) (by
        rw [List.nodup_append]
        exact ⟨h, by simp, fun a ha b hb z => q (by rw [List.mem_singleton.mp hb] at z; exact z ▸ ha)⟩)
      rw [List.length_append, List.length_singleton] at h3
      refine ⟨h1, fun x => ?_, by rw [List.length_cons]; omega⟩
      rw [h2, List.mem_append, List.mem_singleton, List.mem_cons, or_assoc]
def sp_each_onceP (K : PySem.W.Frag) : Sp := spF false (fun xs : List (Str × Str) => [Sq K (PP K) xs]) (fun xs => xs.length ≤ 1000) (fun xs => Lst (PP K) (onceP xs))
theorem ok_each_onceP (F : Fn K mg "_law_each_once" s_each_once ["_law_things"]) (T : Txt K mg aL) : C8.Cal P w K mg base 1 "_law_each_once" (sp_each_onceP K) [] := by
  refine cal_of F sc_each_once (fun vs H Q E h => spF_len h fun _ => rfl) (fun f cdv A outer s H vs Q E hr h => ?_)
  have hu65 := hu65_of hr
  obtain ⟨xs, G, v, rfl, r, hl, hv, k⟩ := sp1 h fun _ => rfl
  have hl : xs.length ≤ 1000 := hl
  refine ⟨_, (pss_cons (ps_set (i := 1) sc_each_once.nd rfl (by first | exact Or.inl rfl | exact Or.inr rfl) (pe_lst pa_nil))
      (pss_cons (ps_for PassesOwn.never rfl (pi_seqK (K := K) (pv 0)) (pg_name (i := 2) sc_each_once.nd rfl (by first | exact Or.inl rfl | exact Or.inr rfl)) (pss_one (ps_if (pt_cmpR (op_notInDK (K := K) hu65) (pv 2) (pv 1) (by with_unfolding_all rfl)) (pss_one (ps_expr (pe_bmK (K := K) PySem.F.plainAttrs_list PySem.F.slot_list_append PySem.F.type_list_append mt_append (pv 1) (pa_cons (pv 2) pa_nil)))) pss_nil)))
      (pss_one (ps_ret (pv 1))))), ?_⟩
  have hb : ∀ ys : List (Str × Str), (ys.foldl ostepP []).length ≤ ys.length := fun ys => by
    have := (onceP_spec ys [] List.nodup_nil).2.2
    simpa using this
  refine tq_setN (en_lst (e := PP K) (xs := []) ea_nil (by simp)) r fun p G1 H1 g1 o1 => ?_
  refine tq_fill ostepP (fun σ => ∃ y2, σ = [some v, some (.ref p), y2]) ⟨_, rfl⟩ o1 g1 (ei_sq (ev_var rfl ((Sq K (PP K) xs).st g1.g hv))) r ?_ ?_
  · rintro i x hx y G' H' σ' D' s r' hy ⟨y2, rfl⟩ g o _ kn
    have hlt : ((xs.take i).foldl ostepP []).length ≤ 1000 := Nat.le_trans (hb _) (by rw [List.length_take]; omega)
    refine o.tif (by omega) r' (fun G1 s1 hp => et_test (ev_notinD (ev_var rfl ((PP K x).st s1 hy)) (ev_var rfl hp) (enc_pr enc_S enc_S) (eqE_pr eqE_S eqE_S))) (fun e G2 H2 g2 => ?_) (fun e G2 H2 g2 => kn _ G2 H2 (g.trans g2) g2.g ?_ ⟨_, rfl⟩)
    · refine (o.go g2).push (ev_var rfl ((PP K x).st g2.g hy)) rfl (by omega) (g2.r _ r') (g.trans g2) fun G3 H3 g3 s3 o3 => kn _ G3 H3 g3 (g2.g.trans s3) ?_ ⟨_, rfl⟩
      rw [show ostepP ((xs.take i).foldl ostepP []) x = (xs.take i).foldl ostepP [] ++ [x] from if_neg (by simpa using e)]
      exact o3
    · rw [show ostepP ((xs.take i).foldl ostepP []) x = (xs.take i).foldl ostepP [] from if_pos (by simpa using e)]
      exact o.go g2
  · rintro σ' G2 H2 g2 s2 o2 ⟨y2, rfl⟩
    obtain ⟨G3, g3, s3, hp⟩ := o2.freeze g2 (Nat.le_trans (hb xs) (by omega))
    exact ts_ret (ev_var (R := Lst (PP K) (onceP xs)) rfl hp) (g3.r _ r) fun u G4 H4 g4 p => k u G4 H4 (g3.trans g4) p
theorem el_onceP {W : SC} {O : Own} {k : Nat} {Rs : RL} {ta : TE} {E : XK} {xs : List (Str × Str)} (h1 : EL W O k ta Rs (Sq K (PP K) xs)) (hl : xs.length ≤ 1000) : EL W O (k + 0) (tCall (sp_each_onceP K) [] E (tCons ta tNil)) Rs (Lst (PP K) (onceP xs)) := el_call (ι := List (Str × Str)) (pre := fun xs => [Sq K (PP K) xs]) (ok := fun xs => xs.length ≤ 1000) (post := fun xs => Lst (PP K) (onceP xs)) xs (eal_cons h1 eal_nil) hl
end
end Gd

-- part E2
set_option Elab.async false
set_option linter.all false
set_option maxRecDepth 100000
set_option maxHeartbeats 1000000
namespace Gd
open PySem PySem.Spec PyProof.Rows L2
universe u
def okPs (ns : List Str) (ps : List (Str × Str)) : Prop := ps.Nodup ∧ (∀ p ∈ ps, p.1 ∈ ns ∧ p.2 ∈ ns) ∧ ps.length ≤ 300
theorem fmod_nat (a b : Nat) : ((a : Int)).fmod (b : Int) = ((a % b : Nat) : Int) := by
  rw [Int.fmod_eq_emod_of_nonneg _ (by omega)]
  exact (Int.natCast_emod a b).symm
theorem ways_z {m way : Nat} (hm : m ≤ 10) (hw : way < 5) : ∃ z, ([2, m * m + 1, m + 2, 2 * m + 1, m + 1] : List Nat)[way]? = some z ∧ 0 < z ∧ z ≤ 101 := by
  have hmm : m * m ≤ 10 * 10 := Nat.mul_le_mul hm hm
  match way, hw with
  | 0, _ => exact ⟨_, rfl, by omega, by omega⟩
  | 1, _ => exact ⟨_, rfl, by omega, by omega⟩
  | 2, _ => exact ⟨_, rfl, by omega, by omega⟩
  | 3, _ => exact ⟨_, rfl, by omega, by omega⟩
  | 4, _ => exact ⟨_, rfl, by omega, by omega⟩
section
variable {P : Program} {w : World} {K : PySem.W.Frag} {mg : Str → Option Value} {base : Heap} {aL : Addr} {Tb : List (Addr × Str)}
def sp_d_pairs (K : PySem.W.Frag) (Tb : List (Addr × Str)) : Sp := spL Tb (fun ns : List Str => [Lst S ns]) (fun ns => ns.length ≤ 10) (fun _ => 700) (fun ns => ExR (okPs ns) (Lst (PP K)))
theorem ok_d_pairs (F : Fn K mg "_law_d_pairs" s_d_pairs ["_law_stream", "_law_names"]) (T : Txt K mg aL) (c_draw : C8.Cal P w K mg base 1 "_law_draw" sp_draw []) (c_pick : C8.Cal P w K mg base 2 "_law_pick" (sp_pick K) []) (c_mixed : C8.Cal P w K mg base 2 "_law_mixed" (sp_mixed K) []) (c_each_once : C8.Cal P w K mg base 1 "_law_each_once" (sp_each_onceP K) []) : C8.Cal P w K mg base 3 "_law_d_pairs" (sp_d_pairs K Tb) [] := by
  refine cal_of F sc_d_pairs (fun vs H Q E h => spL_len h fun _ => rfl) (fun f cdv A outer s H vs Q E hr h => ?_)
  have hu64 := hu64_of hr
  obtain ⟨ns, st, c, n, O, G, rest, rfl, w0, hn, hl, al, k⟩ := h
  obtain ⟨v, rfl, hv⟩ := alr1 al
  have hn : n + 700 ≤ 1000000 := hn
  have hl : ns.length ≤ 10 := hl
  have hv : (Lst S ns).p v G := hv
  refine ⟨_, (pss_cons (ps_asg (pe_tup (pa_cons (C8.pe_c c_draw hr (by first | decide | omega) rfl (pa_cons (pv 0) (pa_cons pe_int pa_nil))) (pa_cons (pe_callB (call_lenK (K := K)) rfl T.len PySem.boot_len (pa_cons (pv 1) pa_nil)) (pa_cons (pe_lst pa_nil) pa_nil)))) (pg_tupK (K := K) (n := 3) rfl (pgs_cons (pg_name (i := 2) sc_d_pairs.nd rfl (by first | exact Or.inl rfl | exact Or.inr rfl)) (pgs_cons (pg_name (i := 3) sc_d_pairs.nd rfl (by first | exact Or.inl rfl | exact Or.inr rfl)) (pgs_cons (pg_name (i := 4) sc_d_pairs.nd rfl (by first | exact Or.inl rfl | exact Or.inr rfl)) pgs_nil)))))
      (pss_cons (ps_if (PW.pt (pw_and (pt_cmpR op_eq (pv 2) pe_int (nomark _)) (pw_and1 (pt_cmpR op_gt (pv 3) pe_int (nomark _))))) (pss_one (ps_setLc (i := 4) (own := [("_law_k", 5)]) rfl sc_d_pairs.nd rfl rfl (sw_true rfl rfl rfl (by decide +kernel)) (pi_range1 rfl T.range (pa_cons (pe_op op_sub (pv 3) (C8.pe_c c_draw hr (by first | decide | omega) rfl (pa_cons (pv 0) (pa_cons pe_int pa_nil)))) pa_nil)) (blkOk_by (by kernel_rfl)) (fun _ _ _ _ _ => (pg_name (i := 5) sc_d_pairs.nd rfl (by first | exact Or.inl rfl | exact Or.inr rfl))) (fun _ _ _ _ _ => pts_nil) (fun _ _ _ _ _ => (pe_tup (pa_cons (pe_ix (ix_K (K := K)) (pv 1) (pv 5) (fun _ _ => rfl)) (pa_cons (pe_ix (ix_K (K := K)) (pv 1) (pe_op op_modN (pe_callTy call_int1 rfl T.int boot_int (pa_cons (pe_op op_add (pv 5) pe_int) pa_nil)) (pv 3)) (fun _ _ => rfl)) pa_nil)))))) pss_nil)
      (pss_cons (ps_for PassesOwn.never rfl (pi_range1 rfl T.range (pa_cons (pe_ifExp (pt_cmpR op_gt (pv 3) pe_int (nomark _)) (C8.pe_c c_draw hr (by first | decide | omega) rfl (pa_cons (pv 0) (pa_cons (pe_ix (ix_K (K := K)) (pe_lst (pa_cons pe_int (pa_cons (pe_op op_add (pe_op op_mul (pv 3) (pv 3)) pe_int) (pa_cons (pe_op op_add (pv 3) pe_int) (pa_cons (pe_op op_add (pe_op op_mul pe_int (pv 3)) pe_int) (pa_cons (pe_op op_add (pv 3) pe_int) pa_nil)))))) (pv 2) (fun _ _ => rfl)) pa_nil))) pe_int) pa_nil)) (pg_name (i := 5) sc_d_pairs.nd rfl (by first | exact Or.inl rfl | exact Or.inr rfl)) (pss_cons (ps_par (i := 6) (j := 7) rfl sc_d_pairs.nd rfl rfl (by decide) rfl rfl (pa_cons (C8.pe_c c_pick hr (by first | decide | omega) rfl (pa_cons (pv 0) (pa_cons (pv 1) pa_nil))) (pa_cons (C8.pe_c c_pick hr (by first | decide | omega) rfl (pa_cons (pv 0) (pa_cons (pv 1) pa_nil))) pa_nil)) rfl)
      (pss_cons (ps_expr (pe_bmK (K := K) PySem.F.plainAttrs_list PySem.F.slot_list_append PySem.F.type_list_append mt_append (pv 4) (pa_cons (pe_tup (pa_cons (pv 6) (pa_cons (pv 7) pa_nil))) pa_nil)))
      (pss_one (ps_expr (pe_bmK (K := K) PySem.F.plainAttrs_list PySem.F.slot_list_extend PySem.F.type_list_extend mt_extend (pv 4) (pa_cons (pe_op op_rep (pe_lst (pa_cons (pe_tup (pa_cons (pv 7) (pa_cons (pv 6) pa_nil))) pa_nil)) (pe_callTy call_int1 rfl T.int boot_int (pa_cons (pe_cmpR op_eq (pv 2) pe_int (nomark _)) pa_nil))) pa_nil)))))))
      (pss_one (ps_ret (C8.pe_c c_mixed hr (by first | decide | omega) rfl (pa_cons (pv 0) (pa_cons (C8.pe_c c_each_once hr (by first | decide | omega) rfl (pa_cons (pv 4) pa_nil)) pa_nil)))))))), ?_⟩
  refine (?_ : HL ⟨st, c, Tb⟩ G n O [some (cst (.ref st)), some (Lst S ns), none, none, none, none, none, none] _ _) _ _ ⟨G, Same.refl G, slots_start (N := ["_law_stream", "_law_names", "_law_way", "_law_many", "_law_found", "_law_k", "_law_one", "_law_other"]) (vs := [.ref st, v]) (Ls := [cst (.ref st), Lst S ns]) (.cons rfl (.cons hv .nil)), w0⟩
  refine hl_asg3N (el_drw (z := 5) rfl el_int (by decide) (by decide)) (el_len (el_sqL (el_var rfl))) (eln_lst (e := PP K) [] eal_nil (Nat.zero_le _)) fun p0 => ?_
  dsimp only [List.set]
  refine hl_open 2 rfl fun way hway => ?_
  dsimp only [List.set]
  have hway : way < 5 := hway
  generalize hM : ns.length = M at *
  refine hl_ifJ (δ := Addr × List (Str × Str)) (k := 0) (cc := decide (way = 0) && decide (0 < M)) (fun z => z.2.length ≤ 10 ∧ ∀ p ∈ z.2, p.1 ∈ ns ∧ p.2 ∈ ns) (fun z => (z.1, OL (PP K) z.2) :: O) (fun z => [some (cst (.ref st)), some (Lst S ns), some (I way), some (I M), some (cst (.ref z.1)), none, none, none]) (n + 10) ?_ (fun hc E' hrt kn => ?_) (fun hc E' hrt kn => ?_) ?_
  · refine ETL.eq (etl_and (k := 0) (m := 0) (etl_test (el_eqI (el_var rfl) el_int)) fun _ => etl_test (el_gtI (el_var rfl) el_int)) ?_
    congr 1 <;> (apply decide_eq_decide.mpr; omega)
  · have hM0 : 0 < M := by
      rw [Bool.and_eq_true] at hc
      exact of_decide_eq_true hc.2
    refine hl_last ?_
    refine HL.drop ?_ (List.sublist_cons_self ..)
    refine hl_setN (k := 1) (eln_lcX (Px := fun xs : List Nat => ∃ d, d ≤ M ∧ xs = List.range d) (er := PP K) (fn := fun i => (ns.getD i "", ns.getD ((i + 1) % M) "")) (p := fun _ => true) (eix_range (el_o2 (k := 0) (m := 1) (R1 := I M) (R3 := Dw 2) (el_var rfl) (el_drw (z := 2) rfl el_int (by decide) (by decide)) fun x y σ G hx ⟨d, hd, hy⟩ => ?_) fun d hd => by omega) (fun _ _ _ _ => gl_name) (fun _ _ _ _ _ => etl_yes) fun xs hx i hi _ O' => ?_) fun p1 => ?_
    · have hd : d < 2 := hd
      exact ev_ex (a := M - d) (Ev.eq (ev_I0 (ev_cR' hx) (ev_cR' hy)) (by show cst _ = cst _; congr 2; omega)) (by omega)
    · obtain ⟨d, hd, rfl⟩ := hx
      have hi : i < M := by
        have := List.mem_range.mp hi
        omega
      have hi2 : (i + 1) % M < M := Nat.mod_lt _ hM0
      refine el_pr (x := ns.getD i "") (y := ns.getD ((i + 1) % M) "") (k := 0) (m := 0) (el_ixL (el_var (i := 1) rfl) (el_var rfl) (by omega) (?_ : ns[i]? = _)) (el_ixL (el_var (i := 1) rfl) (el_modI (el_intI (el_addI (el_var rfl) el_int)) (el_var rfl) (by omega)) ?_ (?_ : ns[(i + 1) % M]? = _))
      · rw [List.getD_eq_getElem?_getD, List.getElem?_eq_getElem (by omega)]; rfl
      · rw [show (0 + (i : Int) + 1) = ((i + 1 : Nat) : Int) by omega]
        exact fmod_nat _ _
      · rw [List.getD_eq_getElem?_getD, List.getElem?_eq_getElem (by omega)]; rfl
    · refine hl_openO fun xs hx => ?_
      obtain ⟨d, hd, rfl⟩ := hx
      dsimp only [List.set]
      refine hl_nx fun σ H a => kn (p1, _) σ H ⟨?_, fun q hq => ?_⟩ (a.le (by omega))
      · rw [List.length_map]
        refine Nat.le_trans (List.length_filter_le _ _) ?_
        rw [List.length_range]
        omega
      · obtain ⟨i, hi, rfl⟩ := List.mem_map.mp hq
        have hi : i < M := by
          have := List.mem_range.mp (List.mem_filter.mp hi).1
          omega
        have hi2 : (i + 1) % M < M := Nat.mod_lt _ hM0
        refine ⟨?_, ?_⟩
        · show ns.getD i "" ∈ ns
          rw [List.getD_eq_getElem?_getD, List.getElem?_eq_getElem (by omega)]
          exact List.getElem_mem _
        · show ns.getD ((i + 1) % M) "" ∈ ns
          rw [List.getD_eq_getElem?_getD, List.getElem?_eq_getElem (by omega)]
          exact List.getElem_mem _
  · exact hl_nx fun σ H a => kn (p0, []) σ H ⟨Nat.zero_le _, fun q hq => by cases hq⟩ (a.le (by omega))
  · rintro ⟨p, d0⟩ ⟨hd1, hd2⟩
    dsimp only at hd1 hd2 ⊢
    have hMl : M ≤ 10 := hl
    refine hl_forX (k := 1) (e := fun i : Nat => I (0 + (i : Nat))) (Px := fun xs : List Nat => ∃ d, (d ≤ 101 ∧ (M = 0 → d = 0)) ∧ xs = List.range d) (δ := List (Str × Str)) (fun xs i d => d.length ≤ 10 + 2 * i ∧ ∀ q ∈ d, q.1 ∈ ns ∧ q.2 ∈ ns) (fun d => (p, OL (PP K) d) :: O) (fun _ => [some (cst (.ref st)), some (Lst S ns), some (I way), some (I M), some (cst (.ref p)), none, none, none]) 2 101 (eix_range (Pd := fun d => d ≤ 101 ∧ (M = 0 → d = 0)) ?_ fun d hd => by omega) d0 (fun xs ⟨d, hd, hx⟩ => ⟨by rw [hx, List.length_range]; exact hd.1, by omega, hd2⟩) rfl (fun G => (.eq (.eq (.eq (.eq (.eq (.no (.no (.no .nil))))))))) ?_ ?_
    · refine EG.le (el_if (k := 0) (m := 1) (c := decide (0 < M)) (ETL.eq (etl_test (el_gtI (el_var rfl) el_int)) (by apply decide_eq_decide.mpr; omega)) (fun hc => ?_) (fun hc => ?_)) (by omega)
      · have hc := of_decide_eq_true hc
        obtain ⟨z, hz1, hz2, hz3⟩ := ways_z hMl hway
        have hcm : CMul (M : Int) (M : Int) := .inl ⟨by omega, by omega⟩
        have hcm2 : CMul (2 : Int) (M : Int) := .inl ⟨by omega, by omega⟩
        refine (el_drw (z := z) rfl (el_ixL (e := fun z : Nat => I (z : Nat)) (xs := [2, M * M + 1, M + 2, 2 * M + 1, M + 1]) (ELN.el (eln_lst _ ?_ (by simp))) (el_var rfl) rfl hz1) hz2 (by omega)).is fun v G ⟨d, hd, hv⟩ => ⟨d, ⟨by have hd : d < z := hd; omega, fun e => by omega⟩, hv⟩
        refine eal_cons el_int (eal_cons (EL.eq (el_addI (el_mulI (el_var rfl) (el_var rfl) hcm) el_int) ?_) (eal_cons (EL.eq (el_addI (el_var rfl) el_int) ?_) (eal_cons (EL.eq (el_addI (el_mulI el_int (el_var rfl) hcm2) el_int) ?_) (eal_cons (EL.eq (el_addI (el_var rfl) el_int) ?_) eal_nil)))) <;> (congr 1)
      · exact EG.le (el_ex (a := 0) el_int ⟨by omega, fun _ => rfl⟩) (by omega)
    · rintro xs ⟨dd, ⟨hdd, hM0⟩, rfl⟩ i kx d E' G1 hx ⟨h1, h2⟩ hrt s1 kn hn1
      have hix : i < dd := by
        have := (List.getElem?_eq_some_iff.mp hx).1
        rwa [List.length_range] at this
      have hne : ns ≠ [] := fun e => by
        rw [e] at hM
        have := hM0 hM.symm
        omega
      refine ⟨_, _, gl_name, ?_⟩
      dsimp only [List.set]
      have hsub : ∀ {a b : Str} (r : Int) (q : Str × Str), q ∈ (if r = 0 then [] else [(a, b)]) → q = (a, b) := fun r q hq => by
        by_cases e : r = 0
        · rw [if_pos e] at hq; cases hq
        · rw [if_neg e] at hq; exact List.mem_singleton.mp hq
      have hsl : ∀ {a b : Str} (r : Int), (if r = 0 then [] else [(a, b)] : List (Str × Str)).length ≤ 1 := fun r => by
        by_cases e : r = 0
        · rw [if_pos e]; exact Nat.zero_le _
        · rw [if_neg e]; exact Nat.le_refl _
      refine hl_par (el_pck rfl (el_sqL (el_var (i := 1) rfl)) hne (by omega)) (el_pck rfl (el_sqL (el_var (i := 1) rfl)) hne (by omega)) ?_
      dsimp only [List.set]
      refine hl_open 6 rfl fun a1 ha1 => ?_
      refine hl_open 7 rfl fun a2 ha2 => ?_
      dsimp only [List.set]
      refine hl_push (k := 0) (a := (a1, a2)) rfl (el_pr (el_var rfl) (el_var rfl)) (by omega) ?_
      refine hl_last ?_
      refine hl_ext (k := 0) rfl (eln_repL (k := 0) (m := 0) (xs := [(a2, a1)]) (ELN.el (eln_lst (e := PP K) [(a2, a1)] (eal_cons (el_pr (x := a2) (y := a1) (el_var rfl) (el_var rfl)) eal_nil) (by simp))) (el_intB (el_eqI (el_var (i := 2) rfl) el_int)) ?_ (by simp)) ?_ ?_
      · split
        · exact .inr rfl
        · exact .inl rfl
      · rw [List.length_append, List.length_singleton]
        exact Nat.le_trans (Nat.add_le_add_left (hsl _) _) (by omega)
      · refine hl_nx fun σ H a => kn _ σ H ⟨?_, fun q hq => ?_⟩ ((a.weak fun G => (.eq (.eq (.eq (.eq (.eq (.no (.no (.no .nil))))))))).le (by omega))
        · rw [List.length_append, List.length_append, List.length_singleton]
          exact Nat.le_trans (Nat.add_le_add_left (hsl _) _) (by omega)
        · rcases List.mem_append.mp hq with hq | hq
          · rcases List.mem_append.mp hq with hq | hq
            · exact h2 q hq
            · rw [List.mem_singleton.mp hq]
              exact ⟨ha1, ha2⟩
          · have := hsub _ _ hq
            rw [this]
            exact ⟨ha2, ha1⟩
    · rintro xs ⟨dd, ⟨hdd, hM0⟩, rfl⟩ d ⟨h1, h2⟩
      rw [List.length_range] at h1
      obtain ⟨o1, o2, o3⟩ := onceP_spec d [] List.nodup_nil
      rw [List.length_nil, Nat.zero_add] at o3
      have o3 : (onceP d).length ≤ d.length := o3
      refine hl_frzL (i := 4) rfl ?_
      dsimp only [List.set]
      refine hl_ret (k := 300) (R := ExR (okPs ns) (Lst (PP K))) (EG.le ((el_mix rfl (el_sqL (el_onceP (el_sqL (el_var rfl)) (by omega))) (by omega)).is fun v G ⟨ys, hy, hv⟩ => ⟨ys, ⟨?_, ?_, ?_⟩, hv⟩) (by omega)) fun v G2 H2 s2 w2 p => k v G2 H2 s2 (w2.le (by show _ ≤ n + 700; omega)) p
      · exact hy.nodup_iff.mpr o1
      · exact fun q hq => h2 q (by have := (o2 q).mp (hy.mem_iff.mp hq); exact this.resolve_left fun z => by cases z)
      · rw [hy.length_eq]; omega
end
end Gd

-- part Gd56
set_option Elab.async false
set_option linter.all false
set_option maxRecDepth 100000
set_option maxHeartbeats 1000000
namespace Gd
open PySem PySem.Spec PyProof.Rows L2
universe u
section
variable {K : PySem.W.Frag} {W : SC} {O O' : Own} {n k m l c : Nat} {G0 G G2 H H2 : Hp} {Rs Rs' : RL} {R R1 R2 : SR} {te ta tb tc tk ty tx to : TE} {tr : TA} {t u : TS} {E : Ends} {α β A B' : Type} {e : α → SR} {f : β → SR} {xs : List α} {D p : Addr} {i j z : Nat} {P : A → Prop} {P' : B' → Prop}
/-- p.append(te), te told but in part -/
theorem hl_pushX {fa : A → α} (hi : Rs[i]? = some (some (cst (.ref p)))) (h : EL W ((p, OL e xs) :: O) k te Rs (ExR P fun a => e (fa a))) (hl : xs.length ≤ 100000) (q : ∀ a, P a → HL W G0 (n + k) ((p, OL e (xs ++ [fa a])) :: O) Rs u E) (hn : n + k ≤ 1000000 := by omega) : HL W G0 n ((p, OL e xs) :: O) Rs (tSeq (tDrop (tBM K "list" rAppend (tVar i) (tCons te tNil))) u) E := fun σ H ⟨G, s, sl, w⟩ => by
  obtain ⟨v, h1, h2⟩ := sl.get i _ hi
  obtain rfl : v = .ref p := h2
  obtain ⟨_, _, _, o, w4, _, vs, rfl, _⟩ := w.o _ (List.mem_cons_self ..)
  refine ⟨_, h1, .inl ⟨rfl, vs, SqL.of w4⟩, ?_⟩
  show te σ H _
  refine h σ G H n _ sl w hn fun v G2 H2 s2 w2 ⟨a, pa, pv⟩ => ?_
  obtain ⟨_, _, _, o, z4, _, ws, rfl, _, al⟩ := w2.o _ (List.mem_cons_self ..)
  have := al.len
  have : sizeLine = 16777216 := sizeLine_eq
  exact ⟨p, ws, v, rfl, rfl, z4, by omega, q a pa _ _ ⟨G2, s.trans s2, sl.st s2, w2.put (fun u ⟨_, e, _⟩ => by rw [e]; rfl) rfl ⟨_, rfl, by rw [List.length_append, List.length_singleton]; omega, al.snoc pv⟩⟩⟩
theorem el_prX2 {x : α} {fb : B' → β} (h1 : EL W O k ta Rs (e x)) (h2 : EL W O m tb Rs (ExR P' fun b => f (fb b))) : EL W O (k + m) (tTup (tCons ta (tCons tb tNil))) Rs (ExR P' fun b => Pr K e f (x, fb b)) := el_f2 (fun a b => tTup (tCons a (tCons b tNil))) h1 h2 fun x y σ G hx ⟨b, pb, hy⟩ => ev_ex (f := fun b => Pr K e f (_, fb b)) (ev_pr (ev_cR' hx) (ev_cR' hy)) pb
theorem el_prXX {fa : A → α} {fb : B' → β} (h1 : EL W O k ta Rs (ExR P fun a => e (fa a))) (h2 : EL W O m tb Rs (ExR P' fun b => f (fb b))) : EL W O (k + m) (tTup (tCons ta (tCons tb tNil))) Rs (ExR (fun q : A × B' => P q.1 ∧ P' q.2) fun q => Pr K e f (fa q.1, fb q.2)) := el_f2 (fun a b => tTup (tCons a (tCons b tNil))) h1 h2 fun x y σ G ⟨a, pa, hx⟩ ⟨b, pb, hy⟩ => ev_ex (f := fun q : A × B' => Pr K e f (fa q.1, fb q.2)) (a := (a, b)) (ev_pr (ev_cR' hx) (ev_cR' hy)) ⟨pa, pb⟩
/-- xs[te], te told but in part -/
theorem el_ixX {fa : A → Nat} (ha : EL W O k ta Rs (Lst e xs)) (hb : EL W O m tb Rs (ExR P fun a => I (fa a : Nat))) (hx : ∀ a, P a → fa a < xs.length) : EL W O (k + m) (tOp (rIx K) ta tb) Rs (ExR (· ∈ xs) e) := el_o2 ha hb fun x y σ G px ⟨a, pa, py⟩ => ev_ex (ev_ixL (ev_cR' px) (ev_cR' py) rfl (List.getElem?_eq_getElem (hx a pa))) (List.getElem_mem (hx a pa))
theorem eil_range2 {a b : Int} (ha : EL W O k ta Rs (I a)) (hb : EL W O m tb Rs (I b)) (h0 : 0 ≤ a) (h1 : a ≤ 100000) (h2 : 0 ≤ b) (h3 : b ≤ 100000) : EIL W O (k + m) (iRng2 (tCons ta (tCons tb tNil))) Rs (fun i : Nat => I (a + (i : Nat))) (List.range (b - a).toNat) := fun σ G H n Q sl w hn kk =>
  ha σ G H n _ sl w (by omega) fun x G1 H1 s1 w1 px => hb σ G1 H1 (n + k) _ (sl.st s1) w1 (by omega) fun y G2 H2 s2 w2 py => by
    obtain rfl : x = .int a := px
    obtain rfl : y = .int b := py
    exact ⟨a, b, rfl, ⟨by omega, by omega, by omega, by omega⟩, kk _ G2 H2 (s1.trans s2) (w2.eq (by omega)) (walkR_range (by have : sizeLine = 16777216 := sizeLine_eq; omega))⟩
theorem el_strI {i : Int} (ha : EL W O k ta Rs (I i)) (h1 : i.natAbs.log2 < 1920) (h2 : okS (toString i) = true) : EL W O k (tCB (fun xs H Q => ∃ i, xs = [.int i] ∧ i.natAbs.log2 < 1920 ∧ Q (.str (toString i)) H) (tCons ta tNil)) Rs (S (toString i)) := fun σ G H n Q sl w hn kk => ha σ G H n _ sl w hn fun v G2 H2 s2 w2 p => ⟨i, by rw [show v = V.int i from p], h1, kk _ G2 H2 s2 w2 ⟨rfl, h2⟩⟩
theorem el_catS {x y : Str} (ha : EL W O k ta Rs (S x)) (hb : EL W O m tb Rs (S y)) (ho : okS (x ++ y) = true) (hl : x.length + y.length ≤ 100000) : EL W O (k + m) (tOp (fun x y H Q => ∃ i j, x = V.str i ∧ y = V.str j ∧ i.length + j.length ≤ sizeLine ∧ Q (.str (i ++ j)) H) ta tb) Rs (S (x ++ y)) := el_o2 ha hb fun _ _ _ _ p q => ev_catS (ev_cR' p) (ev_cR' q) ho hl
theorem el_max2 {x y : Int} (ha : EL W O k ta Rs (I x)) (hb : EL W O m tb Rs (I y)) : EL W O (k + m) (tCB (fun xs H Q => ∃ i j, xs = [.int i, .int j] ∧ Q (.int (if j > i then j else i)) H) (tCons ta (tCons tb tNil))) Rs (I (if y > x then y else x)) := fun σ G H n Q sl w hn kk =>
  ha σ G H n _ sl w (by omega) fun u G1 H1 s1 w1 p1 => hb σ G1 H1 (n + k) _ (sl.st s1) w1 (by omega) fun v G2 H2 s2 w2 p2 => ⟨x, y, by rw [show u = V.int x from p1, show v = V.int y from p2], kk _ G2 H2 (s1.trans s2) (w2.eq (by omega)) rfl⟩
theorem el_max2X {x : Int} {fa : A → Int} (ha : EL W O k ta Rs (I x)) (hb : EL W O m tb Rs (ExR P fun a => I (fa a))) : EL W O (k + m) (tCB (fun xs H Q => ∃ i j, xs = [.int i, .int j] ∧ Q (.int (if j > i then j else i)) H) (tCons ta (tCons tb tNil))) Rs (ExR P fun a => I (if fa a > x then fa a else x)) := fun σ G H n Q sl w hn kk =>
  ha σ G H n _ sl w (by omega) fun u G1 H1 s1 w1 p1 => hb σ G1 H1 (n + k) _ (sl.st s1) w1 (by omega) fun v G2 H2 s2 w2 ⟨a, pa, p2⟩ => ⟨x, fa a, by rw [show u = V.int x from p1, show v = V.int (fa a) from p2], kk _ G2 H2 (s1.trans s2) (w2.eq (by omega)) ⟨a, pa, rfl⟩⟩
theorem el_f2X {fa : A → SR} {fb : B' → SR} (F : TE → TE → TE) (ha : EL W O k ta Rs (ExR P fa)) (hb : EL W O m tb Rs (ExR P' fb)) (hr : ∀ (a : A) (b : B') (x y : V) (σ : L2.St) (G : Hp), P a → P' b → (fa a).p x G → (fb b).p y G → Ev true (F (tC x) (tC y)) σ G R) (hF : ∀ (σ : L2.St) (H : Hp) (Q : VK), (ta σ H fun x H1 => tb σ H1 fun y H2 => F (tC x) (tC y) σ H2 Q) → F ta tb σ H Q := by exact fun _ _ _ h => h) : EL W O (k + m) (F ta tb) Rs R := el_f2 F ha hb (fun x y σ G ⟨a, pa, hx⟩ ⟨b, pb, hy⟩ => hr a b x y σ G pa pb hx hy) hF
end
end Gd

-- part E3
set_option Elab.async false
set_option linter.all false
set_option maxRecDepth 100000
set_option maxHeartbeats 1000000
namespace Gd
open PySem PySem.Spec PyProof.Rows L2
universe u
abbrev DR (K : PySem.W.Frag) : Deb → SR := Pr K (Lst S) (Lst (PP K))
theorem pq_of {K : PySem.W.Frag} {ps : List (Str × Str)} {v : V} {G : Hp} (h : (Lst (PP K) ps).p v G) : (Sq K (Pq K) ps).p v G := by
  obtain ⟨a, vs, h1, h2, h3, h4⟩ := h
  refine .inl ⟨a, vs, h1, h2, h3, ?_⟩
  have := Al.conv (e := PP K) (f := Pq K) (c := fun p => p) (fun p v ⟨a, v1, v2, e1, e2, e3, e4⟩ => .inr ⟨a, [v1, v2], e1, e2, (by show 2 ≤ sizeLine; decide), .cons e3 (.cons e4 .nil)⟩) h4
  rwa [List.map_id'] at this
section
variable {P : Program} {w : World} {K : PySem.W.Frag} {mg : Str → Option Value} {base : Heap} {aL : Addr} {Tb : List (Addr × Str)}
theorem el_loose {W : SC} {O : Own} {k m jj : Nat} {Rs : RL} {R : SR} {te : TE} {E : XK} {j : Nat} (hs : Rs[j]? = some (some (cst (.ref W.s)))) (h : EL W O k te Rs R) (hl : Lo K jj R m) : EL W O (k + 0 + m) (tCall (sp_loose K jj) [] E (tCons (tVar j) (tCons te tNil))) Rs R := el_calld (ι := SR × Nat) (pre := fun i => [i.1]) (ok := fun i => Lo K jj i.1 i.2) (cost := fun i => i.2) (post := fun i => i.1) (R, m) hs (eal_cons h eal_nil) hl
def sp_rk_made (K : PySem.W.Frag) (C : Addr) (Tb : List (Addr × Str)) : Sp := spL Tb (fun i : Deb => [DR K i]) okD (fun i => i.2.length + 2) (fun i => DB K C (mkD i))
def okR (z : Nat) (i : Deb) : Prop := ((∀ x ∈ i.1, isName x = true) ∧ i.1.Nodup) ∧ i.1.length ≤ z ∧ okPs i.1 i.2
theorem okR_D {z : Nat} {i : Deb} (h : okR z i) (hz : z ≤ 1000) : okD i := ⟨⟨h.1.1, h.1.2, Nat.le_trans h.2.1 hz⟩, h.2.2.1, h.2.2.2.1, Nat.le_trans h.2.2.2.2 (by decide)⟩
theorem goodN_names {ns : List Str} (h : goodN ns) : ∀ x ∈ ns, isName x = true := fun x hx => names_ok x (h.2 x hx)
theorem el_dnamesX {W : SC} {O : Own} {k z : Nat} {Rs : RL} {te : TE} {E : XK} {j : Nat} {Pd : Nat → Prop} {fd : Nat → Nat} (hs : Rs[j]? = some (some (cst (.ref W.s)))) (h : EL W O k te Rs (ExR Pd fun d => I (fd d : Nat))) (hd : ∀ d, Pd d → fd d ≤ 10) (hP : ∀ d, Pd d → 0 < fd d) (hz : ∀ d, Pd d → fd d ≤ z) : EL W O (k + 10) (tCall sp_d_names [] E (tCons (tVar j) (tCons te tNil))) Rs (ExR (fun ys => goodN ys ∧ 0 < ys.length ∧ ys.length ≤ z) (Lst S)) :=
  el_calldX (P := Pd) (ι := Nat) (pre := fun m => [I m]) (ok := fun m => m ≤ 10) (cost := fun _ => 10) (post := fun m => ExR (fun ys => goodN ys ∧ ys.length = m) (Lst S)) fd hs (eal_X1 h) hd (fun _ _ => Nat.le_refl _) fun a pa v G ⟨ys, ⟨h1, h2⟩, h3⟩ => ⟨ys, ⟨h1, by rw [h2]; exact hP a pa, by rw [h2]; exact hz a pa⟩, h3⟩
theorem el_addX {W : SC} {O : Own} {k m : Nat} {Rs : RL} {ta tb : TE} {x : Nat} {Pd : Nat → Prop} (ha : EL W O k ta Rs (I (x : Nat))) (hb : EL W O m tb Rs (ExR Pd fun d => I (d : Nat))) : EL W O (k + m) (tOp (rI0 fun i j => .int (i + j)) ta tb) Rs (ExR Pd fun d => I ((x + d : Nat) : Nat)) := el_o2 ha hb fun u v σ G pu ⟨d, hd, pv⟩ => ev_ex (f := fun d => I ((x + d : Nat) : Nat)) (Ev.eq (ev_I0 (ev_cR' pu) (ev_cR' pv)) (by show cst _ = cst _; rw [Int.natCast_add])) hd
theorem el_dpairs {W : SC} {O : Own} {k : Nat} {Rs : RL} {te : TE} {E : XK} {j : Nat} {ns : List Str} (hs : Rs[j]? = some (some (cst (.ref W.s)))) (h : EL W O k te Rs (Lst S ns)) (hl : ns.length ≤ 10) : EL W O (k + 0 + 700) (tCall (sp_d_pairs K W.tb) [] E (tCons (tVar j) (tCons te tNil))) Rs (ExR (okPs ns) (Lst (PP K))) := el_calll (ι := List Str) (pre := fun ns => [Lst S ns]) (ok := fun ns => ns.length ≤ 10) (cost := fun _ => 700) (post := fun ns => ExR (okPs ns) (Lst (PP K))) ns hs (eal_cons h eal_nil) hl
def sp_rk_debate (K : PySem.W.Frag) (Tb : List (Addr × Str)) : Sp := spL Tb (fun m : Nat => [I m]) (fun m => 0 < m ∧ m ≤ 9) (fun _ => 1100) (fun m => ExR (fun i => okR m i ∧ 0 < i.1.length ∧ goodN i.1) (DR K))
end
end Gd

-- part E4
set_option Elab.async false
set_option linter.all false
set_option maxRecDepth 100000
set_option maxHeartbeats 1000000
/-! ### the law's own lots -/
namespace Gd
open PySem PySem.Spec PyProof.Rows L2
universe u
abbrev s_d_objectors : Stmt := topS 33
theorem sc_d_objectors : FnScope ["_law_pairs", "_law_name", "_law_one", "_law_other"] ["_law_pairs", "_law_name"] (defScope s_d_objectors) := ⟨rfl, rfl, rfl, by decide +kernel, rfl, by decide +kernel, by decide +kernel⟩
abbrev s_d_hits : Stmt := topS 34
theorem sc_d_hits : FnScope ["_law_pairs", "_law_lot", "_law_name", "_law_one"] ["_law_pairs", "_law_lot", "_law_name"] (defScope s_d_hits) := ⟨rfl, rfl, rfl, by decide +kernel, rfl, by decide +kernel, by decide +kernel⟩
abbrev s_d_answers : Stmt := topS 35
theorem sc_d_answers : FnScope ["_law_pairs", "_law_lot", "_law_name", "_law_one"] ["_law_pairs", "_law_lot", "_law_name"] (defScope s_d_answers) := ⟨rfl, rfl, rfl, by decide +kernel, rfl, by decide +kernel, by decide +kernel⟩
abbrev s_d_answered : Stmt := topS 36
theorem sc_d_answered : FnScope ["_law_names", "_law_pairs", "_law_lot", "_law_name"] ["_law_names", "_law_pairs", "_law_lot"] (defScope s_d_answered) := ⟨rfl, rfl, rfl, by decide +kernel, rfl, by decide +kernel, by decide +kernel⟩
abbrev s_d_is_calm : Stmt := topS 37
theorem sc_d_is_calm : FnScope ["_law_pairs", "_law_lot", "_law_one", "_law_other"] ["_law_pairs", "_law_lot"] (defScope s_d_is_calm) := ⟨rfl, rfl, rfl, by decide +kernel, rfl, by decide +kernel, by decide +kernel⟩
abbrev s_d_is_held : Stmt := topS 38
theorem sc_d_is_held : FnScope ["_law_pairs", "_law_lot", "_law_name"] ["_law_pairs", "_law_lot"] (defScope s_d_is_held) := ⟨rfl, rfl, rfl, by decide +kernel, rfl, by decide +kernel, by decide +kernel⟩
abbrev s_d_lots : Stmt := topS 40
theorem sc_d_lots : FnScope ["_law_names", "_law_pairs", "_law_way", "_law_lots", "_law_whole", "_law_lot", "_law_name", "_law_other"] ["_law_names", "_law_pairs", "_law_way"] (defScope s_d_lots) := ⟨rfl, rfl, rfl, by decide +kernel, rfl, by decide +kernel, by decide +kernel⟩
def lobj (ps : List (Str × Str)) (s : Str) : List Str := srt PyData.str (tosP ps s)
def lhits (ps : List (Str × Str)) (lot : List Str) (s : Str) : Bool := (lobj ps s).any fun x => decide (x ∈ lot)
def lans (ps : List (Str × Str)) (lot : List Str) (s : Str) : Bool := (lobj ps s).all fun x => lhits ps lot x
def lansd (ns : List Str) (ps : List (Str × Str)) (lot : List Str) : List Str := srt PyData.str (ns.filter fun s => lans ps lot s)
def lcalm (ps : List (Str × Str)) (lot : List Str) : Bool := !(ps.any fun p => decide (p.1 ∈ lot) && decide (p.2 ∈ lot))
def lheld (ps : List (Str × Str)) (lot : List Str) : Bool := lcalm ps lot && lot.all fun s => lans ps lot s
def lwhole (ns : List Str) (ps : List (Str × Str)) : List (List Str) := (((lsubs ns).filter (lcalm ps)).filter (lheld ps)).filter fun lot => decide (lansd ns ps lot = lot)
def lleast (ns : List Str) (ps : List (Str × Str)) : List (List Str) := (lwhole ns ps).filter fun lot => (lwhole ns ps).all fun o => within lot o
section
variable {P : Program} {w : World} {K : PySem.W.Frag} {mg : Str → Option Value} {base : Heap} {aL : Addr} {Tb : List (Addr × Str)}
def sp_d_objectors (K : PySem.W.Frag) : Sp := spF false (fun i : List (Str × Str) × Str => [Lst (PP K) i.1, S i.2]) (fun _ => True) (fun i => Lst S (lobj i.1 i.2))
theorem ok_d_objectors (F : Fn K mg "_law_d_objectors" s_d_objectors ["_law_pairs", "_law_name"]) (T : Txt K mg aL) : C8.Cal P w K mg base 1 "_law_d_objectors" (sp_d_objectors K) [] := by
  refine cal_of F sc_d_objectors (fun vs H Q E h => spF_len h fun _ => rfl) (fun f cdv A outer s H vs Q E hr h => ?_)
  have hu64 := hu64_of hr
  obtain ⟨⟨ps, x⟩, G, v, w', rfl, r, _, hv, hw, k⟩ := sp2 h fun _ => rfl
  refine ⟨_, (pss_one (ps_ret (pe_callB (call_srtK (K := K) hu64) rfl T.sorted boot_sorted (pa_cons (pe_lc (own := [("_law_one", 2), ("_law_other", 3)]) rfl sc_d_objectors.nd (pi_seqK (K := K) (pv 0)) (blkOk_by (by kernel_rfl)) (fun _ _ _ _ _ => (pg_tupK (K := K) (n := 2) rfl (pgs_cons (pg_name (i := 2) sc_d_objectors.nd rfl (by first | exact Or.inl rfl | exact Or.inr rfl)) (pgs_cons (pg_name (i := 3) sc_d_objectors.nd rfl (by first | exact Or.inl rfl | exact Or.inr rfl)) pgs_nil)))) (fun _ _ _ _ _ => (pts_one (pt_cmpR op_eq (pv 3) (pv 1) (nomark _)))) (fun _ _ _ _ _ => (pv 2))) pa_nil)))), ?_⟩
  refine ts_ret (EvN.ev (en_sorted (Ev.sqL (EvN.ev (en_lc (e := PP K) (er := S) (xs := ps) (fn := fun p => p.1) (p := fun p => decide (p.2 = x)) (ei_sq (Ev.sqL (ev_var rfl hv))) fun p hp y G' s hy => ?_))) enc_S alk_S (sortable_S _))) r k
  obtain ⟨a, v1, v2, rfl, hT, h1, h2⟩ := hy
  exact ⟨_, gto_tup2 hT, rfl, et_test (ev_eqS (ev_var rfl h2) (ev_var (i := 1) rfl ((S x).st s hw))), fun _ => ev_var rfl h1⟩
theorem ev_objs {b : Bool} {σ : L2.St} {G : Hp} {ta tb : TE} {E : XK} {ps : List (Str × Str)} {x : Str} (h1 : Ev b ta σ G (Lst (PP K) ps)) (h2 : Ev b tb σ G (S x)) : Ev b (tCall (sp_d_objectors K) [] E (tCons ta (tCons tb tNil))) σ G (Lst S (lobj ps x)) := ev_call (ι := List (Str × Str) × Str) (post := fun i => Lst S (lobj i.1 i.2)) (ps, x) (ea_cons h1 (ea_cons h2 ea_nil)) trivial
def sp_d_hits (K : PySem.W.Frag) : Sp := spF false (fun i : List (Str × Str) × List Str × Str => [Lst (PP K) i.1, Sq K S i.2.1, S i.2.2]) (fun _ => True) (fun i => B (lhits i.1 i.2.1 i.2.2))
theorem ok_d_hits (F : Fn K mg "_law_d_hits" s_d_hits ["_law_pairs", "_law_lot", "_law_name"]) (T : Txt K mg aL) (c_d_objectors : C8.Cal P w K mg base 1 "_law_d_objectors" (sp_d_objectors K) []) : C8.Cal P w K mg base 2 "_law_d_hits" (sp_d_hits K) [] := by
  refine cal_of F sc_d_hits (fun vs H Q E h => spF_len h fun _ => rfl) (fun f cdv A outer s H vs Q E hr h => ?_)
  obtain ⟨⟨ps, lot, x⟩, G, v, w', z, rfl, r, _, hv, hw, hz, k⟩ := sp3 h fun _ => rfl
  refine ⟨_, (pss_one (ps_ret (pe_callB (call_anyK (K := K) rfl) rfl T.any boot_any (pa_cons (pe_lc (own := [("_law_one", 3)]) rfl sc_d_hits.nd (pi_seqK (K := K) (C8.pe_c c_d_objectors hr (by first | decide | omega) rfl (pa_cons (pv 0) (pa_cons (pv 2) pa_nil)))) (blkOk_by (by kernel_rfl)) (fun _ _ _ _ _ => (pg_name (i := 3) sc_d_hits.nd rfl (by first | exact Or.inl rfl | exact Or.inr rfl))) (fun _ _ _ _ _ => pts_nil) (fun _ _ _ _ _ => (pe_cmpR (op_inK (K := K)) (pv 3) (pv 1) (by with_unfolding_all rfl)))) pa_nil)))), ?_⟩
  exact ts_ret (ev_anyL (en_map (ei_sq (Ev.sqL (ev_objs (ev_var rfl hv) (ev_var (i := 2) rfl hz)))) fun a ha y G' s hy => ⟨_, gto_name, rfl, ev_in (ev_var rfl hy) (ev_var (i := 1) rfl ((Sq K S lot).st s hw))⟩)) r k
theorem ev_hits {b : Bool} {σ : L2.St} {G : Hp} {ta tb tc : TE} {E : XK} {ps : List (Str × Str)} {lot : List Str} {x : Str} (h1 : Ev b ta σ G (Lst (PP K) ps)) (h2 : Ev b tb σ G (Sq K S lot)) (h3 : Ev b tc σ G (S x)) : Ev b (tCall (sp_d_hits K) [] E (tCons ta (tCons tb (tCons tc tNil)))) σ G (B (lhits ps lot x)) := ev_call (ι := List (Str × Str) × List Str × Str) (post := fun i => B (lhits i.1 i.2.1 i.2.2)) (ps, lot, x) (ea_cons h1 (ea_cons h2 (ea_cons h3 ea_nil))) trivial
def sp_d_answers (K : PySem.W.Frag) : Sp := spF false (fun i : List (Str × Str) × List Str × Str => [Lst (PP K) i.1, Sq K S i.2.1, S i.2.2]) (fun _ => True) (fun i => B (lans i.1 i.2.1 i.2.2))
theorem ok_d_answers (F : Fn K mg "_law_d_answers" s_d_answers ["_law_pairs", "_law_lot", "_law_name"]) (T : Txt K mg aL) (c_d_objectors : C8.Cal P w K mg base 1 "_law_d_objectors" (sp_d_objectors K) []) (c_d_hits : C8.Cal P w K mg base 2 "_law_d_hits" (sp_d_hits K) []) : C8.Cal P w K mg base 3 "_law_d_answers" (sp_d_answers K) [] := by
  refine cal_of F sc_d_answers (fun vs H Q E h => spF_len h fun _ => rfl) (fun f cdv A outer s H vs Q E hr h => ?_)
  obtain ⟨⟨ps, lot, x⟩, G, v, w', z, rfl, r, _, hv, hw, hz, k⟩ := sp3 h fun _ => rfl
  refine ⟨_, (pss_one (ps_ret (pe_callB (call_allK (K := K) rfl) rfl T.all boot_all (pa_cons (pe_lc (own := [("_law_one", 3)]) rfl sc_d_answers.nd (pi_seqK (K := K) (C8.pe_c c_d_objectors hr (by first | decide | omega) rfl (pa_cons (pv 0) (pa_cons (pv 2) pa_nil)))) (blkOk_by (by kernel_rfl)) (fun _ _ _ _ _ => (pg_name (i := 3) sc_d_answers.nd rfl (by first | exact Or.inl rfl | exact Or.inr rfl))) (fun _ _ _ _ _ => pts_nil) (fun _ _ _ _ _ => (C8.pe_c c_d_hits hr (by first | decide | omega) rfl (pa_cons (pv 0) (pa_cons (pv 1) (pa_cons (pv 3) pa_nil)))))) pa_nil)))), ?_⟩
  exact ts_ret (ev_allL (en_map (ei_sq (Ev.sqL (ev_objs (ev_var rfl hv) (ev_var (i := 2) rfl hz)))) fun a ha y G' s hy => ⟨_, gto_name, rfl, ev_hits (ev_var (i := 0) rfl ((Lst (PP K) ps).st s hv)) (ev_var (i := 1) rfl ((Sq K S lot).st s hw)) (ev_var rfl hy)⟩)) r k
theorem ev_ans {b : Bool} {σ : L2.St} {G : Hp} {ta tb tc : TE} {E : XK} {ps : List (Str × Str)} {lot : List Str} {x : Str} (h1 : Ev b ta σ G (Lst (PP K) ps)) (h2 : Ev b tb σ G (Sq K S lot)) (h3 : Ev b tc σ G (S x)) : Ev b (tCall (sp_d_answers K) [] E (tCons ta (tCons tb (tCons tc tNil)))) σ G (B (lans ps lot x)) := ev_call (ι := List (Str × Str) × List Str × Str) (post := fun i => B (lans i.1 i.2.1 i.2.2)) (ps, lot, x) (ea_cons h1 (ea_cons h2 (ea_cons h3 ea_nil))) trivial
def sp_d_answered (K : PySem.W.Frag) : Sp := spF false (fun i : List Str × List (Str × Str) × List Str => [Sq K S i.1, Lst (PP K) i.2.1, Sq K S i.2.2]) (fun _ => True) (fun i => Lst S (lansd i.1 i.2.1 i.2.2))
theorem ok_d_answered (F : Fn K mg "_law_d_answered" s_d_answered ["_law_names", "_law_pairs", "_law_lot"]) (T : Txt K mg aL) (c_d_answers : C8.Cal P w K mg base 3 "_law_d_answers" (sp_d_answers K) []) : C8.Cal P w K mg base 4 "_law_d_answered" (sp_d_answered K) [] := by
  refine cal_of F sc_d_answered (fun vs H Q E h => spF_len h fun _ => rfl) (fun f cdv A outer s H vs Q E hr h => ?_)
  have hu64 := hu64_of hr
  obtain ⟨⟨ns, ps, lot⟩, G, v, w', z, rfl, r, _, hv, hw, hz, k⟩ := sp3 h fun _ => rfl
  refine ⟨_, (pss_one (ps_ret (pe_callB (call_srtK (K := K) hu64) rfl T.sorted boot_sorted (pa_cons (pe_lc (own := [("_law_name", 3)]) rfl sc_d_answered.nd (pi_seqK (K := K) (pv 0)) (blkOk_by (by kernel_rfl)) (fun _ _ _ _ _ => (pg_name (i := 3) sc_d_answered.nd rfl (by first | exact Or.inl rfl | exact Or.inr rfl))) (fun _ _ _ _ _ => (pts_one (pt_val (C8.pe_c c_d_answers hr (by first | decide | omega) rfl (pa_cons (pv 1) (pa_cons (pv 2) (pa_cons (pv 3) pa_nil))))))) (fun _ _ _ _ _ => (pv 3))) pa_nil)))), ?_⟩
  refine ts_ret (EvN.ev (en_sorted (Ev.sqL (EvN.ev (EvN.eq (en_lc (er := S) (fn := fun s => s) (p := fun s => lans ps lot s) (ei_sq (ev_var rfl hv)) fun a ha y G' s hy => ⟨_, gto_name, rfl, et_B (ev_ans (ev_var (i := 1) rfl ((Lst (PP K) ps).st s hw)) (ev_var (i := 2) rfl ((Sq K S lot).st s hz)) (ev_var rfl hy)), fun _ => ev_var rfl hy⟩) (List.map_id' _)))) enc_S alk_S (sortable_S _))) r k
theorem ev_ansd {b : Bool} {σ : L2.St} {G : Hp} {ta tb tc : TE} {E : XK} {ns : List Str} {ps : List (Str × Str)} {lot : List Str} (h1 : Ev b ta σ G (Sq K S ns)) (h2 : Ev b tb σ G (Lst (PP K) ps)) (h3 : Ev b tc σ G (Sq K S lot)) : Ev b (tCall (sp_d_answered K) [] E (tCons ta (tCons tb (tCons tc tNil)))) σ G (Lst S (lansd ns ps lot)) := ev_call (ι := List Str × List (Str × Str) × List Str) (post := fun i => Lst S (lansd i.1 i.2.1 i.2.2)) (ns, ps, lot) (ea_cons h1 (ea_cons h2 (ea_cons h3 ea_nil))) trivial
def sp_d_calm (K : PySem.W.Frag) : Sp := spF false (fun i : List (Str × Str) × List Str => [Lst (PP K) i.1, Sq K S i.2]) (fun _ => True) (fun i => B (lcalm i.1 i.2))
theorem ok_d_is_calm (F : Fn K mg "_law_d_is_calm" s_d_is_calm ["_law_pairs", "_law_lot"]) (T : Txt K mg aL) : C8.Cal P w K mg base 1 "_law_d_is_calm" (sp_d_calm K) [] := by
  refine cal_of F sc_d_is_calm (fun vs H Q E h => spF_len h fun _ => rfl) (fun f cdv A outer s H vs Q E hr h => ?_)
  obtain ⟨⟨ps, lot⟩, G, v, w', rfl, r, _, hv, hw, k⟩ := sp2 h fun _ => rfl
  refine ⟨_, (pss_one (ps_ret (pe_not (pe_callB (call_anyK (K := K) rfl) rfl T.any boot_any (pa_cons (pe_lc (own := [("_law_one", 2), ("_law_other", 3)]) rfl sc_d_is_calm.nd (pi_seqK (K := K) (pv 0)) (blkOk_by (by kernel_rfl)) (fun _ _ _ _ _ => (pg_tupK (K := K) (n := 2) rfl (pgs_cons (pg_name (i := 2) sc_d_is_calm.nd rfl (by first | exact Or.inl rfl | exact Or.inr rfl)) (pgs_cons (pg_name (i := 3) sc_d_is_calm.nd rfl (by first | exact Or.inl rfl | exact Or.inr rfl)) pgs_nil)))) (fun _ _ _ _ _ => pts_nil) (fun _ _ _ _ _ => (pe_and (pe_cmpR (op_inK (K := K)) (pv 2) (pv 1) (by with_unfolding_all rfl)) (pe_one (pe_cmpR (op_inK (K := K)) (pv 3) (pv 1) (by with_unfolding_all rfl)))))) pa_nil))))), ?_⟩
  refine ts_ret (ev_not (ev_anyL (xs := ps) (p := fun p => decide (p.1 ∈ lot) && decide (p.2 ∈ lot)) (en_map (e := PP K) (ei_sq (Ev.sqL (ev_var rfl hv))) fun p hp y G' s hy => ?_))) r k
  obtain ⟨a, v1, v2, rfl, hT, h1, h2⟩ := hy
  exact ⟨_, gto_tup2 hT, rfl, ev_and (ev_in (ev_var rfl h1) (ev_var (i := 1) rfl ((Sq K S lot).st s hw))) fun _ => ev_in (ev_var rfl h2) (ev_var (i := 1) rfl ((Sq K S lot).st s hw))⟩
theorem ev_calm {b : Bool} {σ : L2.St} {G : Hp} {ta tb : TE} {E : XK} {ps : List (Str × Str)} {lot : List Str} (h1 : Ev b ta σ G (Lst (PP K) ps)) (h2 : Ev b tb σ G (Sq K S lot)) : Ev b (tCall (sp_d_calm K) [] E (tCons ta (tCons tb tNil))) σ G (B (lcalm ps lot)) := ev_call (ι := List (Str × Str) × List Str) (post := fun i => B (lcalm i.1 i.2)) (ps, lot) (ea_cons h1 (ea_cons h2 ea_nil)) trivial
def sp_d_held (K : PySem.W.Frag) : Sp := spF false (fun i : List (Str × Str) × List Str => [Lst (PP K) i.1, Sq K S i.2]) (fun _ => True) (fun i => B (lheld i.1 i.2))
theorem ok_d_is_held (F : Fn K mg "_law_d_is_held" s_d_is_held ["_law_pairs", "_law_lot"]) (T : Txt K mg aL) (c_d_is_calm : C8.Cal P w K mg base 1 "_law_d_is_calm" (sp_d_calm K) []) (c_d_answers : C8.Cal P w K mg base 3 "_law_d_answers" (sp_d_answers K) []) : C8.Cal P w K mg base 4 "_law_d_is_held" (sp_d_held K) [] := by
  refine cal_of F sc_d_is_held (fun vs H Q E h => spF_len h fun _ => rfl) (fun f cdv A outer s H vs Q E hr h => ?_)
  obtain ⟨⟨ps, lot⟩, G, v, w', rfl, r, _, hv, hw, k⟩ := sp2 h fun _ => rfl
  refine ⟨_, (pss_one (ps_ret (pe_and (C8.pe_c c_d_is_calm hr (by first | decide | omega) rfl (pa_cons (pv 0) (pa_cons (pv 1) pa_nil))) (pe_one (pe_callB (call_allK (K := K) rfl) rfl T.all boot_all (pa_cons (pe_lc (own := [("_law_name", 2)]) rfl sc_d_is_held.nd (pi_seqK (K := K) (pv 1)) (blkOk_by (by kernel_rfl)) (fun _ _ _ _ _ => (pg_name (i := 2) sc_d_is_held.nd rfl (by first | exact Or.inl rfl | exact Or.inr rfl))) (fun _ _ _ _ _ => pts_nil) (fun _ _ _ _ _ => (C8.pe_c c_d_answers hr (by first | decide | omega) rfl (pa_cons (pv 0) (pa_cons (pv 1) (pa_cons (pv 2) pa_nil)))))) pa_nil)))))), ?_⟩
  exact ts_ret (ev_and (ev_calm (ev_var rfl hv) (ev_var rfl hw)) fun _ => ev_allL (en_map (ei_sq (ev_var (i := 1) rfl hw)) fun a ha y G' s hy => ⟨_, gto_name, rfl, ev_ans (ev_var (i := 0) rfl ((Lst (PP K) ps).st s hv)) (ev_var (i := 1) rfl ((Sq K S lot).st s hw)) (ev_var rfl hy)⟩)) r k
theorem ev_held {b : Bool} {σ : L2.St} {G : Hp} {ta tb : TE} {E : XK} {ps : List (Str × Str)} {lot : List Str} (h1 : Ev b ta σ G (Lst (PP K) ps)) (h2 : Ev b tb σ G (Sq K S lot)) : Ev b (tCall (sp_d_held K) [] E (tCons ta (tCons tb tNil))) σ G (B (lheld ps lot)) := ev_call (ι := List (Str × Str) × List Str) (post := fun i => B (lheld i.1 i.2)) (ps, lot) (ea_cons h1 (ea_cons h2 ea_nil)) trivial
end
end Gd

-- part E5
set_option Elab.async false
set_option linter.all false
set_option maxRecDepth 100000
set_option maxHeartbeats 1000000
namespace Gd
open PySem PySem.Spec PyProof.Rows L2
universe u
section
variable {W : SC} {O : Own} {K : PySem.W.Frag} {k m l : Nat} {Rs : RL} {ta tb tc : TE} {E : XK} {ns lot o : List Str} {ps : List (Str × Str)} {x : Str}
theorem el_objs (h1 : EL W O k ta Rs (Lst (PP K) ps)) (h2 : EL W O m tb Rs (S x)) : EL W O (k + (m + 0)) (tCall (sp_d_objectors K) [] E (tCons ta (tCons tb tNil))) Rs (Lst S (lobj ps x)) := el_call (ι := List (Str × Str) × Str) (post := fun i => Lst S (lobj i.1 i.2)) (ps, x) (eal_cons h1 (eal_cons h2 eal_nil)) trivial
theorem el_ans (h1 : EL W O k ta Rs (Lst (PP K) ps)) (h2 : EL W O m tb Rs (Sq K S lot)) (h3 : EL W O l tc Rs (S x)) : EL W O (k + (m + (l + 0))) (tCall (sp_d_answers K) [] E (tCons ta (tCons tb (tCons tc tNil)))) Rs (B (lans ps lot x)) := el_call (ι := List (Str × Str) × List Str × Str) (post := fun i => B (lans i.1 i.2.1 i.2.2)) (ps, lot, x) (eal_cons h1 (eal_cons h2 (eal_cons h3 eal_nil))) trivial
theorem el_ansd (h1 : EL W O k ta Rs (Sq K S ns)) (h2 : EL W O m tb Rs (Lst (PP K) ps)) (h3 : EL W O l tc Rs (Sq K S lot)) : EL W O (k + (m + (l + 0))) (tCall (sp_d_answered K) [] E (tCons ta (tCons tb (tCons tc tNil)))) Rs (Lst S (lansd ns ps lot)) := el_call (ι := List Str × List (Str × Str) × List Str) (post := fun i => Lst S (lansd i.1 i.2.1 i.2.2)) (ns, ps, lot) (eal_cons h1 (eal_cons h2 (eal_cons h3 eal_nil))) trivial
theorem el_calm (h1 : EL W O k ta Rs (Lst (PP K) ps)) (h2 : EL W O m tb Rs (Sq K S lot)) : EL W O (k + (m + 0)) (tCall (sp_d_calm K) [] E (tCons ta (tCons tb tNil))) Rs (B (lcalm ps lot)) := el_call (ι := List (Str × Str) × List Str) (post := fun i => B (lcalm i.1 i.2)) (ps, lot) (eal_cons h1 (eal_cons h2 eal_nil)) trivial
theorem el_heldL (h1 : EL W O k ta Rs (Lst (PP K) ps)) (h2 : EL W O m tb Rs (Sq K S lot)) : EL W O (k + (m + 0)) (tCall (sp_d_held K) [] E (tCons ta (tCons tb tNil))) Rs (B (lheld ps lot)) := el_call (ι := List (Str × Str) × List Str) (post := fun i => B (lheld i.1 i.2)) (ps, lot) (eal_cons h1 (eal_cons h2 eal_nil)) trivial
theorem el_wthn (h1 : EL W O k ta Rs (Sq K S lot)) (h2 : EL W O m tb Rs (Sq K S o)) : EL W O (k + (m + 0)) (tCall (sp_within K) [] E (tCons ta (tCons tb tNil))) Rs (B (within lot o)) := el_call (ι := List Str × List Str) (post := fun i => B (within i.1 i.2)) (lot, o) (eal_cons h1 (eal_cons h2 eal_nil)) trivial
theorem el_sbs (h1 : EL W O k ta Rs (Sq K S ns)) (hl : ns.length ≤ 12) : EL W O (k + 0) (tCall (sp_d_subsets K) [] E (tCons ta tNil)) Rs (Lst (Lst S) (lsubs ns)) := el_call (ι := List Str) (pre := fun cs => [Sq K S cs]) (ok := fun cs => cs.length ≤ 12) (post := fun cs => Lst (Lst S) (lsubs cs)) ns (eal_cons h1 eal_nil) hl
end
section
variable {P : Program} {w : World} {K : PySem.W.Frag} {mg : Str → Option Value} {base : Heap} {aL : Addr} {Tb : List (Addr × Str)}
def sp_d_lotsL (K : PySem.W.Frag) (Tb : List (Addr × Str)) : Sp := spM Tb (fun i : List Str × List (Str × Str) => [Sq K S i.1, Lst (PP K) i.2, S "least"]) (fun i => i.1.length ≤ 12) (fun i => Lst (Lst S) (lleast i.1 i.2))
theorem ok_d_lotsL (F : Fn K mg "_law_d_lots" s_d_lots ["_law_names", "_law_pairs", "_law_way"]) (T : Txt K mg aL) (c_d_subsets : C8.Cal P w K mg base 1 "_law_d_subsets" (sp_d_subsets K) []) (c_d_is_calm : C8.Cal P w K mg base 1 "_law_d_is_calm" (sp_d_calm K) []) (c_d_hits : C8.Cal P w K mg base 2 "_law_d_hits" (sp_d_hits K) []) (c_d_is_held : C8.Cal P w K mg base 4 "_law_d_is_held" (sp_d_held K) []) (c_d_within : C8.Cal P w K mg base 1 "_law_d_within" (sp_within K) []) (c_d_answered : C8.Cal P w K mg base 4 "_law_d_answered" (sp_d_answered K) []) : C8.Cal P w K mg base 5 "_law_d_lots" (sp_d_lotsL K Tb) [] := by
  refine cal_of F sc_d_lots (fun vs H Q E h => spM_len h fun _ => rfl) (fun f cdv A outer s H vs Q E hr h => ?_)
  have hu64 := hu64_of hr
  obtain ⟨⟨ns, ps⟩, st, c, n, O, G, w0, hn, hl, al, k⟩ := h
  have hl : ns.length ≤ 12 := hl
  refine ⟨_, (pss_cons (ps_set (i := 3) sc_d_lots.nd rfl (by first | exact Or.inl rfl | exact Or.inr rfl) (pe_lc (own := [("_law_lot", 5)]) rfl sc_d_lots.nd (pi_seqK (K := K) (C8.pe_c c_d_subsets hr (by first | decide | omega) rfl (pa_cons (pv 0) pa_nil))) (blkOk_by (by kernel_rfl)) (fun _ _ _ _ _ => (pg_name (i := 5) sc_d_lots.nd rfl (by first | exact Or.inl rfl | exact Or.inr rfl))) (fun _ _ _ _ _ => (pts_one (pt_val (C8.pe_c c_d_is_calm hr (by first | decide | omega) rfl (pa_cons (pv 1) (pa_cons (pv 5) pa_nil)))))) (fun _ _ _ _ _ => (pv 5))))
      (pss_cons (ps_if (pt_cmpR op_eq (pv 2) pe_str (nomark _)) (pss_one (ps_ret (pv 3))) pss_nil)
      (pss_cons (ps_if (pt_cmpR op_eq (pv 2) pe_str (nomark _)) (pss_one (ps_ret (pe_lc (own := [("_law_lot", 5)]) rfl sc_d_lots.nd (pi_seqK (K := K) (pv 3)) (blkOk_by (by kernel_rfl)) (fun _ _ _ _ _ => (pg_name (i := 5) sc_d_lots.nd rfl (by first | exact Or.inl rfl | exact Or.inr rfl))) (fun _ _ _ _ _ => (pts_one (pt_val (pe_callB (call_allK (K := K) rfl) rfl T.all boot_all (pa_cons (pe_lc (own := [("_law_name", 6)]) rfl sc_d_lots.nd (pi_seqK (K := K) (pv 0)) (blkOk_by (by kernel_rfl)) (fun _ _ _ _ _ => (pg_name (i := 6) sc_d_lots.nd rfl (by first | exact Or.inl rfl | exact Or.inr rfl))) (fun _ _ _ _ _ => pts_nil) (fun _ _ _ _ _ => (pe_or (pe_cmpR (op_inK (K := K)) (pv 6) (pv 5) (by with_unfolding_all rfl)) (pe_one (C8.pe_c c_d_hits hr (by first | decide | omega) rfl (pa_cons (pv 1) (pa_cons (pv 5) (pa_cons (pv 6) pa_nil)))))))) pa_nil))))) (fun _ _ _ _ _ => (pv 5))))) pss_nil)
      (pss_cons (ps_set (i := 3) sc_d_lots.nd rfl (by first | exact Or.inl rfl | exact Or.inr rfl) (pe_lc (own := [("_law_lot", 5)]) rfl sc_d_lots.nd (pi_seqK (K := K) (pv 3)) (blkOk_by (by kernel_rfl)) (fun _ _ _ _ _ => (pg_name (i := 5) sc_d_lots.nd rfl (by first | exact Or.inl rfl | exact Or.inr rfl))) (fun _ _ _ _ _ => (pts_one (pt_val (C8.pe_c c_d_is_held hr (by first | decide | omega) rfl (pa_cons (pv 1) (pa_cons (pv 5) pa_nil)))))) (fun _ _ _ _ _ => (pv 5))))
      (pss_cons (ps_if (pt_cmpR op_eq (pv 2) pe_str (nomark _)) (pss_one (ps_ret (pv 3))) pss_nil)
      (pss_cons (ps_if (pt_cmpR op_eq (pv 2) pe_str (nomark _)) (pss_one (ps_ret (pe_lc (own := [("_law_lot", 5)]) rfl sc_d_lots.nd (pi_seqK (K := K) (pv 3)) (blkOk_by (by kernel_rfl)) (fun _ _ _ _ _ => (pg_name (i := 5) sc_d_lots.nd rfl (by first | exact Or.inl rfl | exact Or.inr rfl))) (fun _ _ _ _ _ => (pts_one (pt_not (pt_val (pe_callB (call_anyK (K := K) rfl) rfl T.any boot_any (pa_cons (pe_lc (own := [("_law_other", 7)]) rfl sc_d_lots.nd (pi_seqK (K := K) (pv 3)) (blkOk_by (by kernel_rfl)) (fun _ _ _ _ _ => (pg_name (i := 7) sc_d_lots.nd rfl (by first | exact Or.inl rfl | exact Or.inr rfl))) (fun _ _ _ _ _ => pts_nil) (fun _ _ _ _ _ => (pe_and (C8.pe_c c_d_within hr (by first | decide | omega) rfl (pa_cons (pv 5) (pa_cons (pv 7) pa_nil))) (pe_one (pe_cmpR (op_neDK (K := K) hu64) (pv 5) (pv 7) (nomark _)))))) pa_nil)))))) (fun _ _ _ _ _ => (pv 5))))) pss_nil)
      (pss_cons (ps_set (i := 4) sc_d_lots.nd rfl (by first | exact Or.inl rfl | exact Or.inr rfl) (pe_lc (own := [("_law_lot", 5)]) rfl sc_d_lots.nd (pi_seqK (K := K) (pv 3)) (blkOk_by (by kernel_rfl)) (fun _ _ _ _ _ => (pg_name (i := 5) sc_d_lots.nd rfl (by first | exact Or.inl rfl | exact Or.inr rfl))) (fun _ _ _ _ _ => (pts_one (pt_cmpR (op_eqDK (K := K) hu64) (C8.pe_c c_d_answered hr (by first | decide | omega) rfl (pa_cons (pv 0) (pa_cons (pv 1) (pa_cons (pv 5) pa_nil)))) (pv 5) (nomark _)))) (fun _ _ _ _ _ => (pv 5))))
      (pss_cons (ps_if (pt_cmpR op_eq (pv 2) pe_str (nomark _)) (pss_one (ps_ret (pv 4))) pss_nil)
      (pss_one (ps_ret (pe_lc (own := [("_law_lot", 5)]) rfl sc_d_lots.nd (pi_seqK (K := K) (pv 4)) (blkOk_by (by kernel_rfl)) (fun _ _ _ _ _ => (pg_name (i := 5) sc_d_lots.nd rfl (by first | exact Or.inl rfl | exact Or.inr rfl))) (fun _ _ _ _ _ => (pts_one (pt_val (pe_callB (call_allK (K := K) rfl) rfl T.all boot_all (pa_cons (pe_lc (own := [("_law_other", 7)]) rfl sc_d_lots.nd (pi_seqK (K := K) (pv 4)) (blkOk_by (by kernel_rfl)) (fun _ _ _ _ _ => (pg_name (i := 7) sc_d_lots.nd rfl (by first | exact Or.inl rfl | exact Or.inr rfl))) (fun _ _ _ _ _ => pts_nil) (fun _ _ _ _ _ => (C8.pe_c c_d_within hr (by first | decide | omega) rfl (pa_cons (pv 5) (pa_cons (pv 7) pa_nil))))) pa_nil))))) (fun _ _ _ _ _ => (pv 5))))))))))))), ?_⟩
  refine (?_ : HL ⟨st, c, Tb⟩ G n O [some (Sq K S ns), some (Lst (PP K) ps), some (S "least"), none, none, none, none, none] _ _) _ _ ⟨G, Same.refl G, by have h := slots_start (N := ["_law_names", "_law_pairs", "_law_way", "_law_lots", "_law_whole", "_law_lot", "_law_name", "_law_other"]) al; rw [alr_len al] at h; exact h, w0⟩
  refine hl_set (k := 0) (R := Lst (Lst S) ((lsubs ns).filter (lcalm ps))) (ELN.el (ELN.eq (eln_lc0 (e := Lst S) (er := Lst S) (fn := fun l => l) (p := lcalm ps) (eil_sq (el_sqL (el_sbs (el_var rfl) hl))) (fun _ _ => gl_name) (fun l _ O' => etl_B (el_calm (el_var (i := 1) rfl) (el_sqL (el_var rfl)))) fun l _ _ O' => el_var rfl) (List.map_id' _))) ?_
  dsimp only [List.set]
  refine hl_ifF (k := 0) (ETL.eq (etl_test (el_eqS (el_var (i := 2) rfl) el_str)) (by decide +kernel)) ?_
  refine hl_ifF (k := 0) (ETL.eq (etl_test (el_eqS (el_var (i := 2) rfl) el_str)) (by decide +kernel)) ?_
  refine hl_set (k := 0) (R := Lst (Lst S) (((lsubs ns).filter (lcalm ps)).filter (lheld ps))) (ELN.el (ELN.eq (eln_lc0 (e := Lst S) (er := Lst S) (fn := fun l => l) (p := lheld ps) (eil_sq (el_sqL (el_var (i := 3) rfl))) (fun _ _ => gl_name) (fun l _ O' => etl_B (el_heldL (el_var (i := 1) rfl) (el_sqL (el_var rfl)))) fun l _ _ O' => el_var rfl) (List.map_id' _))) ?_
  dsimp only [List.set]
  refine hl_ifF (k := 0) (ETL.eq (etl_test (el_eqS (el_var (i := 2) rfl) el_str)) (by decide +kernel)) ?_
  refine hl_ifF (k := 0) (ETL.eq (etl_test (el_eqS (el_var (i := 2) rfl) el_str)) (by decide +kernel)) ?_
  refine hl_set (k := 0) (R := Lst (Lst S) (lwhole ns ps)) (ELN.el (ELN.eq (eln_lc0 (e := Lst S) (er := Lst S) (fn := fun l => l) (p := fun lot => decide (lansd ns ps lot = lot)) (eil_sq (el_sqL (el_var (i := 3) rfl))) (fun _ _ => gl_name) (fun l _ O' => etl_test (el_eqD (e := Lst S) (enc_lst enc_S) (eqE_lst eqE_S) (el_ansd (el_var (i := 0) rfl) (el_var (i := 1) rfl) (el_sqL (el_var rfl))) (el_var rfl))) fun l _ _ O' => el_var rfl) (List.map_id' _))) ?_
  dsimp only [List.set]
  refine hl_ifF (k := 0) (ETL.eq (etl_test (el_eqS (el_var (i := 2) rfl) el_str)) (by decide +kernel)) ?_
  exact hl_ret (k := 0) (R := Lst (Lst S) (lleast ns ps)) (ELN.el (ELN.eq (eln_lc0 (e := Lst S) (er := Lst S) (fn := fun l => l) (p := fun lot => (lwhole ns ps).all fun o => within lot o) (eil_sq (el_sqL (el_var (i := 4) rfl))) (fun _ _ => gl_name) (fun l _ O' => etl_B (el_allL (eln_map0 (e := Lst S) (eil_sq (el_sqL (el_var (i := 4) rfl))) (fun _ _ => gl_name) fun o _ O2 => el_wthn (el_sqL (el_var rfl)) (el_sqL (el_var rfl))))) fun l _ _ O' => el_var rfl) (List.map_id' _))) fun v G2 H2 s2 w2 p => k v G2 H2 s2 (w2.le (by omega)) p
theorem el_lotsL {W : SC} {O : Own} {k m : Nat} {Rs : RL} {ta tb : TE} {E : XK} {ns : List Str} {ps : List (Str × Str)} (h1 : EL W O k ta Rs (Sq K S ns)) (h2 : EL W O m tb Rs (Lst (PP K) ps)) (hl : ns.length ≤ 12) : EL W O (k + (m + (0 + 0))) (tCall (sp_d_lotsL K W.tb) [] E (tCons ta (tCons tb (tCons (tC (.str "least")) tNil)))) Rs (Lst (Lst S) (lleast ns ps)) := el_callm (ι := List Str × List (Str × Str)) (post := fun i => Lst (Lst S) (lleast i.1 i.2)) (ns, ps) (eal_cons h1 (eal_cons h2 (eal_cons el_str eal_nil))) hl
end
end Gd

-- part Gd57
set_option Elab.async false
set_option linter.all false
set_option maxRecDepth 100000
set_option maxHeartbeats 1000000
/-! ### dict(pairs), list(d), max(xs), min(xs), [.. for k in d] -/
namespace Gd
open PySem PySem.Spec PyProof.Rows L2
universe u
theorem mergeK_nodup : ∀ (more kvs : List (Key × V)), (kvs ++ more).map (·.1) |>.Nodup → mergeK kvs more = kvs ++ more
  | [], kvs, _ => (List.append_nil kvs).symm
  | q :: more, kvs, h => by
    have h0 : valV kvs q.1 = none := valV_none fun hm => by
      rw [List.map_append, List.nodup_append] at h
      exact h.2.2 _ hm _ (List.mem_map.mpr ⟨q, List.mem_cons_self .., rfl⟩) rfl
    have e : putK kvs q.1 q.2 = kvs ++ [q] := putK_new _ h0
    show mergeK (putK kvs q.1 q.2) more = _
    rw [e, mergeK_nodup more (kvs ++ [q]) (by rw [List.append_assoc]; exact h), List.append_assoc]
    rfl
abbrev rDictP (K : PySem.W.Frag) : List V → Hp → VK → Prop := fun xs H Q => ∃ (a : Addr) (ps : List Addr) (kvs : List (Key × V)), xs = [.ref a] ∧ SqL K H a (ps.map V.ref) ∧ Paired (fun p kv => SqT K H p [kV kv.1, kv.2]) ps kvs ∧
    ∀ p, H p = none → Q (.ref p) (upd H p (.dK (mergeK [] kvs)))
theorem call_dictPK {X : Cx} {K : PySem.W.Frag} (hc : X.calm = true) (hK : X.K = K := by rfl) : CallR X (.type "dict") (rDictP K) := by
  subst hK
  exact call_dictP hc
abbrev rListD : List V → Hp → VK → Prop := fun xs H Q => ∃ (a : Addr) (kvs : List (Key × V)), xs = [.ref a] ∧ Rd H a (.dK kvs) ∧ ∀ p, H p = none → Q (.ref p) (upd H p (.lst (kvs.map fun kv => kV kv.1)))
theorem call_listDK {X : Cx} (hc : X.calm = true) : CallR X (.type "list") rListD := call_listD hc
theorem call_maxL {X : Cx} {K : PySem.W.Frag} (hc : X.calm = true) (hK : X.K = K := by rfl) : CallR X (.builtin "max") (rMax K) := by
  subst hK
  exact cr_max hc
theorem call_minL {X : Cx} {K : PySem.W.Frag} (hc : X.calm = true) (hK : X.K = K := by rfl) : CallR X (.builtin "min") (rMin K) := by
  subst hK
  exact cr_min hc
theorem al_pairs {α : Type} {e : α → SR} {K : PySem.W.Frag} {G H : Hp} {b : Bool} (r : Rel b G H) : ∀ {kv : List (Str × α)} {vs : List V}, Al (Pr K S e) kv vs G → ∃ (as : List Addr) (ws : List (Key × V)), vs = as.map V.ref ∧ Paired (fun p q => SqT K H p [kV q.1, q.2]) as ws ∧ AlD e kv ws G
  | _, _, .nil => ⟨[], [], rfl, .nil, .nil⟩
  | _, _, .cons (a := q) ⟨a, v, w, h1, h2, h3, h4⟩ t => by
    obtain ⟨as, ws, e1, e2, e3⟩ := al_pairs r t
    obtain ⟨rfl, _⟩ := h3
    exact ⟨a :: as, (Sum.inr q.1, w) :: ws, by rw [List.map_cons, ← e1, h1], .cons (r.seqT h2) e2, .cons h4 e3⟩
section
variable {b : Bool} {σ : L2.St} {G : Hp} {te ta : TE} {K : PySem.W.Frag} {α β : Type} {e : α → SR}
theorem ev_dictP {kv : List (Str × α)} (ha : Ev b ta σ G (Lst (Pr K S e) kv)) (nd : (kv.map (·.1)).Nodup) : Ev b (tCB (rDictP K) (tCons ta tNil)) σ G (Dct e kv) :=
  ev_cb (ea_cons ha ea_nil) fun vs G1 H1 a r al Q k => by
    obtain ⟨v, rfl, ad, ws, rfl, h1, h2, h3⟩ := alr1 al
    obtain ⟨as, qs, rfl, h4, h5⟩ := al_pairs r h3
    refine ⟨ad, as, qs, rfl, SqL.of (r.at h1 rfl), h4, fun p hp => ?_⟩
    have hk : (qs.map (·.1)).Nodup := by
      rw [h5.keys]
      exact List.pairwise_map.mpr (nd.imp fun h z => h (Sum.inr.inj z))
    rw [mergeK_nodup qs [] hk, List.nil_append]
    have hlen : qs.length ≤ sizeLine := by
      have e1 := congrArg List.length h5.keys
      have e2 := h3.len
      rw [List.length_map] at e1 e2 h2
      simp only [List.length_map] at e1
      rw [e1, ← e2]
      exact h2
    exact k (.ref p) (upd G1 p (.dK qs)) _ (Go.new r hp) ⟨p, qs, rfl, upd_same, hlen, h5.st (Same.new (r.free hp))⟩
theorem al_keys {G : Hp} : ∀ {ks : List Str} {kvs : List (Key × V)}, kvs.map (·.1) = ks.map Sum.inr → (∀ s ∈ ks, okS s = true) → Al S ks (kvs.map fun q => kV q.1) G
  | [], [], _, _ => .nil
  | [], _ :: _, h, _ => by cases h
  | _ :: _, [], h, _ => by cases h
  | k :: ks, q :: kvs, h, ok => by
    rw [List.map_cons, List.map_cons] at h
    injection h with h1 h2
    rw [List.map_cons]
    exact .cons ⟨by show kV q.1 = _; rw [h1]; rfl, ok k (List.mem_cons_self ..)⟩ (al_keys h2 fun s hs => ok s (List.mem_cons_of_mem _ hs))
theorem ev_listD {ks : List Str} (ha : Ev true ta σ G (Ks ks)) (hok : ∀ s ∈ ks, okS s = true) : Ev true (tCB rListD (tCons ta tNil)) σ G (Lst S ks) :=
  ev_cb (ea_cons ha ea_nil) fun vs G1 H1 a r al Q k => by
    obtain ⟨v, rfl, ad, kvs, rfl, h1, h2, h3⟩ := alr1 al
    refine ⟨ad, kvs, rfl, .inl (r.ex h1), fun p hp => ?_⟩
    exact k (.ref p) (upd G1 p (.lst (kvs.map fun q => kV q.1))) _ (Go.new r hp) ⟨p, _, rfl, upd_same, by rw [List.length_map]; exact h2, al_keys h3 hok⟩
theorem al_int : ∀ {xs : List Int} {vs : List V} {G : Hp}, Al I xs vs G → vs = xs.map V.int
  | _, _, _, .nil => rfl
  | _, _, _, .cons (v := v) (a := a) h t => by
    obtain rfl : v = V.int a := h
    rw [List.map_cons, ← al_int t]
def imax (xs : List Int) : Int := xs.foldl (fun a x => if x > a then x else a) (xs.headD 0)
theorem ev_maxL {xs : List Int} {z : Int} (ha : Ev b ta σ G (Lst I xs)) (h0 : xs ≠ []) (hz : z ∈ xs) (hm : ∀ y ∈ xs, y ≤ z) : Ev b (tCB (rMax K) (tCons ta tNil)) σ G (I z) :=
  ev_cb (ea_cons ha ea_nil) fun vs G1 H1 a r al Q k => by
    obtain ⟨v, rfl, ad, ws, rfl, h1, h2, h3⟩ := alr1 al
    have e : ws = xs.map V.int := al_int h3
    refine ⟨ad, xs, rfl, by rw [← e]; exact SqL.of (r.at h1 rfl), List.length_pos_iff.mpr h0, fun m hm1 hm2 => ?_⟩
    have : m = z := Int.le_antisymm (hm m hm1) (hm2 z hz)
    subst this
    exact k _ G1 H1 (Go.refl _ _) rfl
theorem ev_minL {xs : List Int} {z : Int} (ha : Ev b ta σ G (Lst I xs)) (h0 : xs ≠ []) (hz : z ∈ xs) (hm : ∀ y ∈ xs, z ≤ y) : Ev b (tCB (rMin K) (tCons ta tNil)) σ G (I z) :=
  ev_cb (ea_cons ha ea_nil) fun vs G1 H1 a r al Q k => by
    obtain ⟨v, rfl, ad, ws, rfl, h1, h2, h3⟩ := alr1 al
    have e : ws = xs.map V.int := al_int h3
    refine ⟨ad, xs, rfl, by rw [← e]; exact SqL.of (r.at h1 rfl), List.length_pos_iff.mpr h0, fun m hm1 hm2 => ?_⟩
    have : m = z := Int.le_antisymm (hm2 z hz) (hm m hm1)
    subst this
    exact k _ G1 H1 (Go.refl _ _) rfl
end
section
variable {K : PySem.W.Frag} {W : SC} {O O' : Own} {n k m : Nat} {Rs : RL} {te ta tb : TE} {α β : Type} {e : α → SR} {i j : Nat}
theorem el_dictP {kv : List (Str × α)} (ha : EL W O k ta Rs (Lst (Pr K S e) kv)) (nd : (kv.map (·.1)).Nodup) : EL W O k (tCB (rDictP K) (tCons ta tNil)) Rs (Dct e kv) := el_f1 (fun a => tCB (rDictP K) (tCons a tNil)) ha fun _ _ _ p => ev_dictP (ev_cR' p) nd
theorem el_listD {ks : List Str} (ha : EL W O k ta Rs (Ks ks)) (hok : ∀ s ∈ ks, okS s = true) : EL W O k (tCB rListD (tCons ta tNil)) Rs (Lst S ks) := el_f1 (fun a => tCB rListD (tCons a tNil)) ha fun _ _ _ p => ev_listD (ev_cR' p) hok
theorem el_maxL {xs : List Int} {z : Int} (ha : EL W O k ta Rs (Lst I xs)) (h0 : xs ≠ []) (hz : z ∈ xs) (hm : ∀ y ∈ xs, y ≤ z) : EL W O k (tCB (rMax K) (tCons ta tNil)) Rs (I z) := el_f1 (fun a => tCB (rMax K) (tCons a tNil)) ha fun _ _ _ p => ev_maxL (ev_cR' p) h0 hz hm
theorem el_minL {xs : List Int} {z : Int} (ha : EL W O k ta Rs (Lst I xs)) (h0 : xs ≠ []) (hz : z ∈ xs) (hm : ∀ y ∈ xs, z ≤ y) : EL W O k (tCB (rMin K) (tCons ta tNil)) Rs (I z) := el_f1 (fun a => tCB (rMin K) (tCons a tNil)) ha fun _ _ _ p => ev_minL (ev_cR' p) h0 hz hm
theorem el_dnew0 : EL W O 0 tDNewK Rs (Dct e []) := fun σ G H n Q sl w hn kk => fun p hp => kk (.ref p) _ _ (Same.new (w.r.free hp)) (w.new (o := .dK []) hp rfl) ⟨p, [], rfl, upd_same, Nat.zero_le _, .nil⟩
theorem eln_items {kvs : List (Str × α)} (ha : EL W O k ta Rs (Dct e kvs)) (hok : ∀ p ∈ kvs, okS p.1 = true) : ELN W O k (LiI.tListItems ta) Rs (Pr K S e) kvs := eln_f1 (fun a => LiI.tListItems a) ha fun _ _ _ p => en_listItems (ev_cR' p) hok
/-- [f(k) for k in d if ..], d a name -/
theorem eln_lcD {kvs : List (Str × α)} {tt : TT} {vs : List Nat} {er : β → SR} {fn : Str → β} {p : Str → Bool} (hi : Rs[i]? = some (some (Dct e kvs))) (hok : ∀ q ∈ kvs, okS q.1 = true) (ht : ∀ a, a ∈ kvs.map (·.1) → ∀ (σ : L2.St) (G : Hp), Slots G σ ((wipeR Rs vs).set j (some (S a))) → EvT false tt σ G (p a)) (hb : ∀ a, a ∈ kvs.map (·.1) → p a = true → ∀ (σ : L2.St) (G : Hp), Slots G σ ((wipeR Rs vs).set j (some (S a))) → Ev false te σ G (er (fn a))) (hj : j ∈ vs := by decide) :
    ELN W O 0 (tLockE (tLc (iKeys (tVar i)) (gName j) tt te vs)) Rs er (((kvs.map (·.1)).filter p).map fn) := eln_ev fun σ G sl => by
  obtain ⟨v, h1, d, ws, rfl, h2, h3, h4⟩ := sl.get i _ hi
  refine en_lcK (xs := kvs.map (·.1)) h1 h2 h3 (fun s hs => by obtain ⟨q, hq, rfl⟩ := List.mem_map.mp hs; exact hok q hq) h4.keys fun a ha x G' s hx => ⟨_, gto_name, ?_, ht a ha _ _ (((sl.wipe vs).st s).set hx), fun hp => hb a ha hp _ _ (((sl.wipe vs).st s).set hx)⟩
  exact (wipe_set hj).trans (by
    apply List.ext_getElem?
    intro z
    rw [wipe_get, wipe_get, wipe_length]
    split <;> rfl)
end
end Gd

-- part E6
set_option Elab.async false
set_option linter.all false
set_option maxRecDepth 100000
set_option maxHeartbeats 1000000
/-! ### the law's own ranks and stages -/
namespace Gd
open PySem PySem.Spec PyProof.Rows L2
universe u
abbrev Rk := List (Str × Int)
abbrev pI : Str × Int → PyData := fun p => .tuple [.str p.1, .int p.2]
def lrLater (ns : List Str) (ps : List (Str × Str)) (f : Rk) : List Str := (srt PyData.str ns).filter fun s => !decide (s ∈ f.map (·.1)) && lans ps (f.map (·.1)) s
def lrStep (ns : List Str) (ps : List (Str × Str)) (f : Rk) (t : Nat) : Rk := srt pI (f ++ (lrLater ns ps f).map fun s => (s, (t : Int)))
def lrF (ns : List Str) (ps : List (Str × Str)) : Nat → Rk
  | 0 => []
  | t + 1 => lrStep ns ps (lrF ns ps t) t
def lranks (ns : List Str) (ps : List (Str × Str)) : Rk := lrF ns ps (ns.length + 1)
structure RkOk (ns : List Str) (f : Rk) (t : Nat) : Prop where
  nd : (f.map (·.1)).Nodup
  sub : ∀ s ∈ f.map (·.1), s ∈ ns
  lo : ∀ q ∈ f, 0 ≤ q.2
  hi : ∀ q ∈ f, q.2 ≤ (t : Int)
theorem lrStep_perm (ns : List Str) (ps : List (Str × Str)) (f : Rk) (t : Nat) : (lrStep ns ps f t).Perm (f ++ (lrLater ns ps f).map fun s => (s, (t : Int))) := srt_perm _ _
theorem mem_lrLater {ns : List Str} {ps : List (Str × Str)} {f : Rk} {s : Str} : s ∈ lrLater ns ps f ↔ s ∈ ns ∧ s ∉ f.map (·.1) ∧ lans ps (f.map (·.1)) s = true := by
  unfold lrLater
  rw [List.mem_filter, mem_srt]
  simp
theorem rkOk_F {ns : List Str} (nd : ns.Nodup) (ps : List (Str × Str)) : ∀ t, RkOk ns (lrF ns ps t) t
  | 0 => ⟨List.nodup_nil, fun s h => (by cases h), fun q h => (by cases h), fun q h => (by cases h)⟩
  | t + 1 => by
    have h := rkOk_F nd ps t
    have hp := lrStep_perm ns ps (lrF ns ps t) t
    have hpk := hp.map (·.1)
    rw [List.map_append, List.map_map] at hpk
    have hid : (lrLater ns ps (lrF ns ps t)).map ((·.1) ∘ fun s => (s, (t : Int))) = lrLater ns ps (lrF ns ps t) := List.map_id' _
    rw [hid] at hpk
    refine ⟨?_, fun s hs => ?_, fun q hq => ?_, fun q hq => ?_⟩
    · show ((lrStep ns ps (lrF ns ps t) t).map (·.1)).Nodup
      rw [hpk.nodup_iff, List.nodup_append]
      exact ⟨h.nd, (srt_nodup.mpr nd).filter _, fun a ha b hb e => (mem_lrLater.mp hb).2.1 (e ▸ ha)⟩
    · rcases List.mem_append.mp (hpk.mem_iff.mp hs) with hs | hs
      · exact h.sub s hs
      · exact (mem_lrLater.mp hs).1
    · rcases List.mem_append.mp (hp.mem_iff.mp hq) with hq | hq
      · exact h.lo q hq
      · obtain ⟨s, _, rfl⟩ := List.mem_map.mp hq
        show (0 : Int) ≤ (t : Int)
        omega
    · rcases List.mem_append.mp (hp.mem_iff.mp hq) with hq | hq
      · have := h.hi q hq
        omega
      · obtain ⟨s, _, rfl⟩ := List.mem_map.mp hq
        show (t : Int) ≤ ((t + 1 : Nat) : Int)
        omega
theorem rk_len {ns : List Str} {f : Rk} {t : Nat} (h : RkOk ns f t) : f.length ≤ ns.length := by
  have := nodup_len h.nd h.sub
  rwa [List.length_map] at this
section
variable {P : Program} {w : World} {K : PySem.W.Frag} {mg : Str → Option Value} {base : Heap} {aL : Addr} {Tb : List (Addr × Str)}
def okN (ns : List Str) : Prop := ns.Nodup ∧ (∀ s ∈ ns, okS s = true) ∧ ns.length ≤ 50
def sp_rk_ranks (K : PySem.W.Frag) (Tb : List (Addr × Str)) : Sp := spM Tb (fun i : Deb => [Lst S i.1, Lst (PP K) i.2]) (fun i => okN i.1) (fun i => Dct I (lranks i.1 i.2))
end
end Gd

-- part Gd58
set_option Elab.async false
set_option linter.all false
set_option maxRecDepth 100000
set_option maxHeartbeats 1000000
/-! ### a walk over a told dict's keys, as a statement -/
namespace Gd
open PySem PySem.Spec PyProof.Rows L2
universe u
theorem tq_forK {σ : L2.St} {G H : Hp} {i : Nat} {d : Addr} {kvs : List (Key × V)} {ks : List Str} {g : TG} {tb u : TS} {D : Ends} (hv : σ[i]? = some (some (.ref d))) (hd : G d = some (.dK kvs)) (hl : kvs.length ≤ sizeLine) (ho : ∀ k ∈ ks, okS k = true) (hk : kvs.map (·.1) = ks.map Sum.inr) (r : Rel true G H) (Iv : L2.St → Prop) (h0 : Iv σ)
    (hb : ∀ (n : Nat) (a : Str), ks[n]? = some a → ∀ (x : V) (G' H' : Hp) (σ' : L2.St) (D' : Ends), Same G G' → Rel false G' H' → (S a).p x G' → Iv σ' → (∀ σ2 G2 H2, Go G' H' G2 H2 → Iv σ2 → D'.nx σ2 H2) → g x σ' H' (fun σ2 H2 => tb D' σ2 H2))
    (he : ∀ σ' G2 H2, Go G H G2 H2 → Iv σ' → u D σ' H2) : tSeq (tLock (tFor (iKeys (tVar i)) g tb)) u D σ H := by
  have hH := r.ex hd
  refine ⟨d, .dK kvs, hH, trivial, fun od => ⟨.ref d, hv, d, od, rfl, .inl ⟨kvs, upd_same, ?_⟩⟩⟩
  have r1 := r.lock (od := od) hd rfl
  have Wk := walkR_keys (b := false) (d := d) (o := od) (G := G) hl ho hk
  refine ⟨fun n z σ' H' => z = ks.length - n ∧ n ≤ ks.length ∧ H' d = some (.frz od (.dK kvs)) ∧ Iv σ' ∧ ∃ G', Go G (upd H d (.frz od (.dK kvs))) G' H', ⟨ks.length, rfl, Nat.zero_le _, upd_same, h0, G, Go.refl _ _⟩, ?_⟩
  rintro n z σ' H' ⟨rfl, hn, hz, hI, G', g1⟩
  have r2 := g1.r _ r1
  by_cases hlt : n < ks.length
  · refine .inr ⟨Wk.goes n G' H' hlt g1.g r2 hz, fun σ2 H2 => H2 d = some (.frz od (.dK kvs)) ∧ Iv σ2 ∧ ∃ G2, Go G (upd H d (.frz od (.dK kvs))) G2 H2, fun σ2 H2 h2 => ⟨ks.length - (n + 1), by omega, rfl, hlt, h2⟩, fun x H2 y => ?_⟩
    have hx : ks[n]? = some ks[n] := List.getElem?_eq_getElem hlt
    obtain ⟨G4, g4, pa⟩ := Wk.yields n ks[n] G' H' x H2 hx g1.g r2 hz y
    have g14 := g1.trans g4
    refine hb n ks[n] hx x G4 H2 σ' _ g14.g (g14.r _ r1) pa hI fun σ3 G3 H3 g3 hI3 => ⟨?_, hI3, G3, g14.trans g3⟩
    exact g3.h _ _ (g4.h _ _ hz)
  · have e0 : n = ks.length := by omega
    subst e0
    exact .inl ⟨Wk.stops G' H' g1.g r2 hz, hz, he σ' G' _ (g1.unlock hd hH) hI⟩
end Gd

-- part E7
set_option Elab.async false
set_option linter.all false
set_option maxRecDepth 100000
set_option maxHeartbeats 1000000
namespace Gd
open PySem PySem.Spec PyProof.Rows L2
universe u
def rkv (f : Rk) (s : Str) : Int := (f.lookup s).getD 0
def lmaxI (xs : List Int) : Int := xs.foldl max 0
theorem foldmax (xs : List Int) : ∀ a : Int, a ≤ xs.foldl max a ∧ (∀ y ∈ xs, y ≤ xs.foldl max a) ∧ (xs.foldl max a = a ∨ xs.foldl max a ∈ xs) := by
  induction xs with
  | nil => exact fun a => ⟨Int.le_refl _, fun y h => (by cases h), .inl rfl⟩
  | cons x xs ih =>
    intro a
    rw [List.foldl_cons]
    obtain ⟨h1, h2, h3⟩ := ih (max a x)
    refine ⟨by omega, fun y hy => ?_, ?_⟩
    · rcases List.mem_cons.mp hy with rfl | hy
      · omega
      · exact h2 y hy
    · rcases h3 with h3 | h3
      · rw [h3]
        by_cases q : a ≤ x
        · exact .inr (by rw [Int.max_eq_right q]; exact List.mem_cons_self ..)
        · exact .inl (by omega)
      · exact .inr (List.mem_cons_of_mem _ h3)
def lastP (f : Rk) : Int := lmaxI ((f.map (·.1)).map (rkv f))
def lstages (ns : List Str) (f : Rk) : List (List Str) := (List.range ((lastP f).toNat + 1)).map fun t : Nat => (srt PyData.str ns).filter fun s => (f.lookup s).isSome && decide (rkv f s ≤ (t : Int))
theorem lookup_some {α : Type} {s : Str} : ∀ {kvs : List (Str × α)}, s ∈ kvs.map (·.1) → ∃ a, kvs.lookup s = some a ∧ (s, a) ∈ kvs
  | [], h => by cases h
  | (k, a) :: kvs, h => by
    rw [List.lookup_cons]
    by_cases e : s = k
    · subst e
      exact ⟨a, by simp, List.mem_cons_self ..⟩
    · have e2 : (s == k) = false := by simpa using e
      rw [e2]
      obtain ⟨b, h1, h2⟩ := lookup_some ((List.mem_cons.mp h).resolve_left e)
      exact ⟨b, h1, List.mem_cons_of_mem _ h2⟩
theorem rkv_some {f : Rk} {s : Str} (h : s ∈ f.map (·.1)) : f.lookup s = some (rkv f s) := by
  obtain ⟨a, h1, _⟩ := lookup_some h
  unfold rkv
  rw [h1]
  rfl
theorem rkv_mem {f : Rk} {s : Str} (h : s ∈ f.map (·.1)) : (s, rkv f s) ∈ f := by
  obtain ⟨a, h1, h2⟩ := lookup_some h
  unfold rkv
  rw [h1]
  exact h2
section
variable {P : Program} {w : World} {K : PySem.W.Frag} {mg : Str → Option Value} {base : Heap} {aL : Addr} {Tb : List (Addr × Str)}
theorem el_le {W : SC} {O : Own} {k m : Nat} {Rs : RL} {ta tb : TE} {x y : Int} (ha : EL W O k ta Rs (I x)) (hb : EL W O m tb Rs (I y)) : EL W O (k + m) (tOp (rI0 fun i j => .bl (decide (i ≤ j))) ta tb) Rs (B (decide (x ≤ y))) := el_I0 ha hb
structure okF2 (f : Rk) : Prop where
  ok : ∀ q ∈ f, okS q.1 = true
  lo : ∀ q ∈ f, 0 ≤ q.2
  hi : ∀ q ∈ f, q.2 ≤ 60
  len : f.length ≤ 1000
theorem lastP_le {f : Rk} (h : okF2 f) : 0 ≤ lastP f ∧ lastP f ≤ 60 := by
  obtain ⟨h1, h2, h3⟩ := foldmax ((f.map (·.1)).map (rkv f)) 0
  refine ⟨h1, ?_⟩
  rcases h3 with h3 | h3
  · unfold lastP lmaxI
    omega
  · obtain ⟨s, hs, e⟩ := List.mem_map.mp h3
    have := h.hi _ (rkv_mem hs)
    unfold lastP lmaxI
    rw [← e]
    exact this
def sp_law_stages (K : PySem.W.Frag) (Tb : List (Addr × Str)) : Sp := spM Tb (fun i : Deb × Rk => [Lst S i.1.1, Lst (PP K) i.1.2, Dct I i.2]) (fun i => okF2 i.2) (fun i => Lst (Lst S) (lstages i.1.1 i.2))
end
end Gd

-- part E8
set_option Elab.async false
set_option linter.all false
set_option maxRecDepth 100000
set_option maxHeartbeats 1000000
namespace Gd
open PySem PySem.Spec PyProof.Rows L2
universe u
def valsP (ps : List (Str × Str)) (f : Rk) (one : Str) : List Int := ((lobj ps one).filter fun o => decide (o ∈ f.map (·.1))).map (rkv f)
/-- a rank is one more than the greatest of the least ranks that answer -/
def StepsOk (ps : List (Str × Str)) (f : Rk) : Prop := ∀ s ∈ f.map (·.1), ∃ m : Str → Int, (∀ one ∈ lobj ps s, m one ∈ valsP ps f one ∧ ∀ y ∈ valsP ps f one, m one ≤ y) ∧ rkv f s ∈ [0] ++ ((lobj ps s).map m).map (fun r => 1 + r) ∧ ∀ y ∈ [0] ++ ((lobj ps s).map m).map (fun r => 1 + r), y ≤ rkv f s
theorem foldl_app {α β : Type} (f : α → β) : ∀ (xs : List α) (acc : List β), xs.foldl (fun acc x => acc ++ [f x]) acc = acc ++ xs.map f
  | [], acc => (List.append_nil acc).symm
  | x :: xs, acc => by
    rw [List.foldl_cons, foldl_app f xs, List.append_assoc]
    rfl
section
variable {P : Program} {w : World} {K : PySem.W.Frag} {mg : Str → Option Value} {base : Heap} {aL : Addr} {Tb : List (Addr × Str)}
def sp_steps (K : PySem.W.Frag) : Sp := spF true (fun i : List (Str × Str) × Rk => [Lst (PP K) i.1, Dct I i.2]) (fun i => okF2 i.2 ∧ StepsOk i.1 i.2 ∧ i.1.length ≤ 1000) (fun _ => B true)
end
end Gd

-- part E9
set_option Elab.async false
set_option linter.all false
set_option maxRecDepth 100000
set_option maxHeartbeats 1000000
namespace Gd
open PySem PySem.Spec PyProof.Rows L2
universe u
def numS (i : Nat) : Str := toString (i : Int)
def nmS (i : Nat) : Str := ("n" : Str) ++ numS i
theorem num_ok : ∀ i < 41, okS (numS i) = true ∧ okS (nmS i) = true ∧ ("n" : Str).length + (numS i).length ≤ 100000 ∧ isName (nmS i) = true := by decide +kernel
theorem nm_nd : ((List.range 41).map nmS).Nodup := by decide +kernel
theorem nm_log : ∀ i : Nat, i < 41 → (i : Int).natAbs.log2 < 1920 := by decide +kernel
def nmL (m : Nat) : List Str := (List.range m).map nmS
theorem nmL_nd {m : Nat} (h : m ≤ 41) : (nmL m).Nodup := List.Nodup.sublist ((List.range_sublist.mpr h).map nmS) nm_nd
theorem nmL_name {m : Nat} (h : m ≤ 41) : ∀ x ∈ nmL m, isName x = true := fun x hx => by
  obtain ⟨i, hi, rfl⟩ := List.mem_map.mp hx
  exact (num_ok i (by have := List.mem_range.mp hi; omega)).2.2.2
section
variable {P : Program} {w : World} {K : PySem.W.Frag} {mg : Str → Option Value} {base : Heap} {aL : Addr} {Tb : List (Addr × Str)}
def sp_rk_long (K : PySem.W.Frag) (Tb : List (Addr × Str)) : Sp := spL Tb (fun _ : Unit => []) (fun _ => True) (fun _ => 1000) (fun _ => ExR (okR 40) (DR K))
end
end Gd

-- part N1
set_option Elab.async false
set_option linter.all false
set_option maxRecDepth 100000
set_option maxHeartbeats 1000000
/-! ### the plain law of ranks and stages -/
namespace Gd
open PySem PySem.Spec PyProof.Rows L2
section
variable {ns : List Str} {ps : List (Str × Str)} {l m : List Str} {s x : Str}
theorem mem_lobj : x ∈ lobj ps s ↔ (x, s) ∈ ps := mem_srt.trans mem_tosP
theorem lhits_iff : lhits ps l s = true ↔ ∃ m ∈ l, (m, s) ∈ ps := by
  unfold lhits
  rw [List.any_eq_true]
  exact ⟨fun ⟨x, h1, h2⟩ => ⟨x, of_decide_eq_true h2, mem_lobj.mp h1⟩, fun ⟨x, h1, h2⟩ => ⟨x, mem_lobj.mpr h2, decide_eq_true h1⟩⟩
theorem lans_iff : lans ps l s = true ↔ ∀ o, (o, s) ∈ ps → ∃ m ∈ l, (m, o) ∈ ps := by
  unfold lans
  rw [List.all_eq_true]
  exact ⟨fun h o ho => lhits_iff.mp (h o (mem_lobj.mpr ho)), fun h o ho => lhits_iff.mpr (h o (mem_lobj.mp ho))⟩
theorem lans_mono (h : ∀ x ∈ l, x ∈ m) (a : lans ps l s = true) : lans ps m s = true := lans_iff.mpr fun o ho => let ⟨y, h1, h2⟩ := lans_iff.mp a o ho; ⟨y, h y h1, h2⟩
theorem lans_congr (h : ∀ x, x ∈ l ↔ x ∈ m) : lans ps l s = lans ps m s := by
  rw [Bool.eq_iff_iff]
  exact ⟨lans_mono fun x => (h x).mp, lans_mono fun x => (h x).mpr⟩
/-- whom a lot answers -/
def aP (ns : List Str) (ps : List (Str × Str)) (l : List Str) : List Str := (srt PyData.str ns).filter fun s => lans ps l s
theorem mem_aP : x ∈ aP ns ps l ↔ x ∈ ns ∧ lans ps l x = true := by
  unfold aP
  rw [List.mem_filter, mem_srt]
theorem ansP_mk (ns : List Str) (ps : List (Str × Str)) (l : List Str) : ansP (mkD (ns, ps)) l = aP ns ps l := by
  unfold ansP aP mkD
  refine List.filter_congr fun s hs => ?_
  rw [Bool.eq_iff_iff, List.all_eq_true, lans_iff]
  constructor
  · intro h o ho
    obtain ⟨m, h1, h2⟩ := mem_hitP.mp (of_decide_eq_true (h o (mem_tosP.mpr (mem_srt.mpr ho))))
    exact ⟨m, h1, mem_srt.mp h2⟩
  · intro h o ho
    obtain ⟨m, h1, h2⟩ := h o (mem_srt.mp (mem_tosP.mp ho))
    exact decide_eq_true (mem_hitP.mpr ⟨m, h1, mem_srt.mpr h2⟩)
theorem aP_congr (h : ∀ x, x ∈ l ↔ x ∈ m) : aP ns ps l = aP ns ps m := by
  unfold aP
  exact List.filter_congr fun s _ => lans_congr h
/-- the stages -/
def stg (ns : List Str) (ps : List (Str × Str)) : Nat → List Str
  | 0 => aP ns ps []
  | n + 1 => aP ns ps (stg ns ps n)
theorem stg_up : ∀ n, ∀ x ∈ stg ns ps n, x ∈ stg ns ps (n + 1)
  | 0, x, h => by
    obtain ⟨h1, h2⟩ := mem_aP.mp h
    exact mem_aP.mpr ⟨h1, lans_mono (fun y hy => (by cases hy)) h2⟩
  | n + 1, x, h => by
    obtain ⟨h1, h2⟩ := mem_aP.mp h
    exact mem_aP.mpr ⟨h1, lans_mono (stg_up n) h2⟩
theorem stg_le {i j : Nat} (h : i ≤ j) : ∀ x ∈ stg ns ps i, x ∈ stg ns ps j := by
  induction j with
  | zero => intro x hx; rw [show i = 0 by omega] at hx; exact hx
  | succ j ih =>
    intro x hx
    by_cases e : i = j + 1
    · rw [← e]; exact hx
    · exact stg_up j x (ih (by omega) x hx)
theorem stg_flt (n : Nat) : ∃ q : Str → Bool, stg ns ps n = (srt PyData.str ns).filter q := by
  cases n with
  | zero => exact ⟨_, rfl⟩
  | succ n => exact ⟨_, rfl⟩
theorem stg_eq {n : Nat} {q : Str → Bool} (h : ∀ x ∈ ns, x ∈ stg ns ps n ↔ q x = true) : stg ns ps n = (srt PyData.str ns).filter q := by
  obtain ⟨p, hp⟩ := stg_flt (ns := ns) (ps := ps) n
  rw [hp]
  refine List.filter_congr fun x hx => ?_
  have h2 := h x (mem_srt.mp hx)
  rw [hp, List.mem_filter] at h2
  rw [Bool.eq_iff_iff]
  exact ⟨fun z => h2.mp ⟨hx, z⟩, fun z => (h2.mpr z).2⟩
theorem stg_ns {n : Nat} (h : x ∈ stg ns ps n) : x ∈ ns := by
  obtain ⟨p, hp⟩ := stg_flt (ns := ns) (ps := ps) n
  rw [hp] at h
  exact mem_srt.mp (List.mem_filter.mp h).1
theorem stg_grow {n : Nat} (h : stg ns ps (n + 1) ≠ stg ns ps n) : (stg ns ps n).length < (stg ns ps (n + 1)).length := by
  obtain ⟨p, hp⟩ := stg_flt (ns := ns) (ps := ps) n
  obtain ⟨q, hq⟩ := stg_flt (ns := ns) (ps := ps) (n + 1)
  have hg := filter_grow (p := p) (q := q) (xs := srt PyData.str ns) fun x hx hpx => by
    have h1 : x ∈ stg ns ps n := by rw [hp]; exact List.mem_filter.mpr ⟨hx, hpx⟩
    have h2 := stg_up n x h1
    rw [hq] at h2
    exact (List.mem_filter.mp h2).2
  rw [hp, hq] at h ⊢
  rcases Nat.lt_or_ge ((srt PyData.str ns).filter p).length ((srt PyData.str ns).filter q).length with z | z
  · exact z
  · exact absurd (hg.2 (by omega)).symm h
theorem stg_new {n : Nat} (h : stg ns ps (n + 1) ≠ stg ns ps n) : ∃ x, x ∈ stg ns ps (n + 1) ∧ x ∉ stg ns ps n := by
  refine Classical.byContradiction fun hc => h ?_
  obtain ⟨q, hq⟩ := stg_flt (ns := ns) (ps := ps) (n + 1)
  rw [hq]
  refine (stg_eq fun x hx => ?_).symm
  constructor
  · intro z
    have := stg_up n x z
    rw [hq] at this
    exact (List.mem_filter.mp this).2
  · intro z
    refine Classical.byContradiction fun z2 => hc ⟨x, ?_, z2⟩
    rw [hq]
    exact List.mem_filter.mpr ⟨mem_srt.mpr hx, z⟩
theorem least_of {p : Nat → Prop} : ∀ n, p n → ∃ m, m ≤ n ∧ p m ∧ ∀ j < m, ¬ p j := by
  intro n
  induction n using Nat.strongRecOn with
  | _ n ih =>
    intro h
    by_cases q : ∃ j, j < n ∧ p j
    · obtain ⟨j, h1, h2⟩ := q
      obtain ⟨m, h3, h4⟩ := ih j h1 h2
      exact ⟨m, by omega, h4⟩
    · exact ⟨n, Nat.le_refl _, h, fun j hj hp => q ⟨j, hj, hp⟩⟩
/-- where the stages stop -/
theorem stg_top (ns : List Str) (ps : List (Str × Str)) : ∃ N, N ≤ ns.length ∧ stg ns ps (N + 1) = stg ns ps N ∧ ∀ j < N, stg ns ps (j + 1) ≠ stg ns ps j := by
  suffices h : ∃ n, n ≤ ns.length ∧ stg ns ps (n + 1) = stg ns ps n by
    obtain ⟨n, h1, h2⟩ := h
    obtain ⟨m, h3, h4, h5⟩ := least_of (p := fun n => stg ns ps (n + 1) = stg ns ps n) n h2
    exact ⟨m, by omega, h4, h5⟩
  refine Classical.byContradiction fun hc => ?_
  have hg : ∀ n, n ≤ ns.length + 1 → n ≤ (stg ns ps n).length := by
    intro n
    induction n with
    | zero => intro _; exact Nat.zero_le _
    | succ n ih =>
      intro hn
      have h1 := ih (by omega)
      have h2 := stg_grow (ns := ns) (ps := ps) (n := n) fun e => hc ⟨n, by omega, e⟩
      omega
  have h1 := hg (ns.length + 1) (Nat.le_refl _)
  obtain ⟨q, hq⟩ := stg_flt (ns := ns) (ps := ps) (ns.length + 1)
  have h2 : (stg ns ps (ns.length + 1)).length ≤ ns.length := by
    rw [hq]
    refine Nat.le_trans (List.length_filter_le _ _) ?_
    rw [srt_len]
    exact Nat.le_refl _
  omega
theorem stg_all {N : Nat} (h : stg ns ps (N + 1) = stg ns ps N) : ∀ n, N ≤ n → stg ns ps n = stg ns ps N := by
  intro n hn
  induction n with
  | zero => rw [show N = 0 by omega]
  | succ n ih =>
    by_cases e : N = n + 1
    · rw [e]
    · show aP ns ps (stg ns ps n) = _
      rw [ih (by omega)]
      exact h
theorem stgs_eq {N : Nat} (h : stg ns ps (N + 1) = stg ns ps N) (hm : ∀ j < N, stg ns ps (j + 1) ≠ stg ns ps j) : ∀ (k f j : Nat), j + k = N → k ≤ f → stgs (mkD (ns, ps)) f (stg ns ps j) = (List.range (k + 1)).map fun i => stg ns ps (j + i) := by
  intro k
  induction k with
  | zero =>
    intro f j hj _
    rw [Nat.add_zero] at hj
    subst hj
    rw [stgs_fix (by rw [ansP_mk]; exact h)]
    rfl
  | succ k ih =>
    intro f j hj hf
    obtain ⟨f, rfl⟩ : ∃ f', f = f' + 1 := ⟨f - 1, by omega⟩
    show (if ansP (mkD (ns, ps)) (stg ns ps j) = stg ns ps j then [stg ns ps j] else stg ns ps j :: stgs (mkD (ns, ps)) f (ansP (mkD (ns, ps)) (stg ns ps j))) = _
    have hne : ¬ ansP (mkD (ns, ps)) (stg ns ps j) = stg ns ps j := by
      rw [ansP_mk]
      exact hm j (by omega)
    rw [if_neg hne, ansP_mk]
    have := ih f (j + 1) (by omega) (by omega)
    show _ :: stgs (mkD (ns, ps)) f (stg ns ps (j + 1)) = _
    rw [this, List.range_succ_eq_map (n := k + 1), List.map_cons, List.map_map]
    congr 1
    refine List.map_congr_left fun i _ => ?_
    show _ = stg ns ps (j + (i + 1))
    rw [Nat.add_assoc, Nat.add_comm 1 i]
theorem stagesP_eq {N : Nat} (hN : N ≤ ns.length) (h : stg ns ps (N + 1) = stg ns ps N) (hm : ∀ j < N, stg ns ps (j + 1) ≠ stg ns ps j) : stagesP (mkD (ns, ps)) = (List.range (N + 1)).map (stg ns ps) := by
  unfold stagesP
  rw [ansP_mk]
  have hl : (mkD (ns, ps)).1.length = ns.length := srt_len _ _
  have := stgs_eq h hm N ((mkD (ns, ps)).1.length + 1) 0 (by omega) (by omega)
  rw [show stg ns ps 0 = aP ns ps [] from rfl] at this
  rw [this]
  refine List.map_congr_left fun i _ => ?_
  rw [Nat.zero_add]
end
end Gd

-- part N2
set_option Elab.async false
set_option linter.all false
set_option maxRecDepth 100000
set_option maxHeartbeats 1000000
namespace Gd
open PySem PySem.Spec PyProof.Rows L2
section
variable {ns : List Str} {ps : List (Str × Str)} {l m : List Str} {s x : Str}
def keysF (ns : List Str) (ps : List (Str × Str)) (t : Nat) : List Str := (lrF ns ps t).map (·.1)
theorem mem_keysS {t : Nat} : s ∈ keysF ns ps (t + 1) ↔ s ∈ keysF ns ps t ∨ s ∈ lrLater ns ps (lrF ns ps t) := by
  have hp := (lrStep_perm ns ps (lrF ns ps t) t).map (·.1)
  rw [List.map_append, List.map_map] at hp
  have hid : (lrLater ns ps (lrF ns ps t)).map ((·.1) ∘ fun s => (s, (t : Int))) = lrLater ns ps (lrF ns ps t) := List.map_id' _
  rw [hid] at hp
  show s ∈ (lrStep ns ps (lrF ns ps t) t).map (·.1) ↔ _
  rw [hp.mem_iff, List.mem_append]
  rfl
/-- who has a rank before turn t + 1 is in stage t -/
theorem keys_stg : ∀ (t : Nat) (s : Str), s ∈ keysF ns ps (t + 1) ↔ s ∈ stg ns ps t
  | 0, s => by
    rw [mem_keysS, mem_lrLater]
    show _ ↔ s ∈ aP ns ps []
    rw [mem_aP]
    exact ⟨fun h => h.elim (fun h => by cases h) fun h => ⟨h.1, h.2.2⟩, fun h => .inr ⟨h.1, (fun z => by cases z), h.2⟩⟩
  | t + 1, s => by
    rw [mem_keysS, mem_lrLater]
    have ih := keys_stg t
    have hc : lans ps ((lrF ns ps (t + 1)).map (·.1)) s = lans ps (stg ns ps t) s := lans_congr ih
    show _ ↔ s ∈ aP ns ps (stg ns ps t)
    rw [mem_aP, hc]
    constructor
    · rintro (h | h)
      · exact mem_aP.mp (stg_up t s ((ih s).mp h))
      · exact ⟨h.1, h.2.2⟩
    · intro h
      by_cases q : s ∈ keysF ns ps (t + 1)
      · exact .inl q
      · exact .inr ⟨h.1, q, h.2⟩
/-- a rank: in that stage, in none before -/
theorem rk_stg : ∀ (t : Nat) (s : Str) (r : Int), (s, r) ∈ lrF ns ps t → ∃ k : Nat, r = (k : Int) ∧ k < t ∧ s ∈ stg ns ps k ∧ ∀ j < k, s ∉ stg ns ps j
  | 0, s, r, h => by cases h
  | t + 1, s, r, h => by
    rcases List.mem_append.mp ((lrStep_perm ns ps (lrF ns ps t) t).mem_iff.mp h) with h | h
    · obtain ⟨k, h1, h2, h3⟩ := rk_stg t s r h
      exact ⟨k, h1, by omega, h3⟩
    · obtain ⟨s', hs, e⟩ := List.mem_map.mp h
      cases e
      refine ⟨t, rfl, by omega, (keys_stg t s).mp (mem_keysS.mpr (.inr hs)), fun j hj hs2 => ?_⟩
      have h3 := (mem_lrLater.mp hs).2.1
      cases t with
      | zero => omega
      | succ t => exact h3 ((keys_stg t s).mpr (stg_le (by omega) s hs2))
theorem mem_lranks : s ∈ (lranks ns ps).map (·.1) ↔ s ∈ stg ns ps ns.length := keys_stg ns.length s
theorem rkv_stg (h : s ∈ (lranks ns ps).map (·.1)) : ∃ k : Nat, rkv (lranks ns ps) s = (k : Int) ∧ k ≤ ns.length ∧ s ∈ stg ns ps k ∧ ∀ j < k, s ∉ stg ns ps j := by
  obtain ⟨k, h1, h2, h3⟩ := rk_stg _ s _ (rkv_mem h)
  exact ⟨k, h1, by omega, h3⟩
theorem stg_sub_top {n : Nat} (h : s ∈ stg ns ps n) : s ∈ stg ns ps ns.length := by
  obtain ⟨N, h1, h2, _⟩ := stg_top ns ps
  by_cases q : n ≤ ns.length
  · exact stg_le q s h
  · rw [stg_all h2 n (by omega)] at h
    exact stg_le h1 s h
theorem rkv_le {n : Nat} (h : s ∈ (lranks ns ps).map (·.1)) : rkv (lranks ns ps) s ≤ (n : Int) ↔ s ∈ stg ns ps n := by
  obtain ⟨k, h1, h2, h3, h4⟩ := rkv_stg h
  rw [h1]
  constructor
  · intro z
    exact stg_le (by omega) s h3
  · intro z
    refine Classical.byContradiction fun q => h4 n (by omega) z
theorem lookup_isSome {f : Rk} : (f.lookup s).isSome = true ↔ s ∈ f.map (·.1) := by
  rw [← lookup_keys]
  exact decide_eq_true_iff
theorem last_top {N : Nat} (hN : N ≤ ns.length) (h : stg ns ps (N + 1) = stg ns ps N) (hm : ∀ j < N, stg ns ps (j + 1) ≠ stg ns ps j) : lastP (lranks ns ps) = (N : Int) := by
  obtain ⟨h1, h2, h3⟩ := foldmax (((lranks ns ps).map (·.1)).map (rkv (lranks ns ps))) 0
  have hle : ∀ s ∈ (lranks ns ps).map (·.1), rkv (lranks ns ps) s ≤ (N : Int) := fun s hs => by
    rw [rkv_le hs]
    have := mem_lranks.mp hs
    rwa [stg_all h ns.length hN] at this
  have hge : (N : Int) ≤ lastP (lranks ns ps) := by
    cases N with
    | zero => exact h1
    | succ N =>
      obtain ⟨x, hx1, hx2⟩ := stg_new (hm N (by omega))
      have hk : x ∈ (lranks ns ps).map (·.1) := mem_lranks.mpr (stg_sub_top hx1)
      have h5 := h2 _ (List.mem_map.mpr ⟨x, hk, rfl⟩)
      have h6 : ¬ rkv (lranks ns ps) x ≤ (N : Int) := fun z => hx2 ((rkv_le hk).mp z)
      have h7 : lastP (lranks ns ps) = (((lranks ns ps).map (·.1)).map (rkv (lranks ns ps))).foldl max 0 := rfl
      rw [h7]
      omega
  have hle2 : lastP (lranks ns ps) ≤ (N : Int) := by
    have h7 : lastP (lranks ns ps) = (((lranks ns ps).map (·.1)).map (rkv (lranks ns ps))).foldl max 0 := rfl
    rw [h7]
    rcases h3 with h3 | h3
    · omega
    · obtain ⟨s, hs, e⟩ := List.mem_map.mp h3
      rw [← e]
      exact hle s hs
  omega
/-- the stages that the program goes through are the law's -/
theorem stages_law (ns : List Str) (ps : List (Str × Str)) : stagesP (mkD (ns, ps)) = lstages ns (lranks ns ps) := by
  obtain ⟨N, hN, h, hm⟩ := stg_top ns ps
  rw [stagesP_eq hN h hm]
  unfold lstages
  rw [last_top hN h hm, Int.toNat_natCast]
  refine List.map_congr_left fun t _ => stg_eq fun x hx => ?_
  rw [Bool.and_eq_true, lookup_isSome]
  constructor
  · intro z
    have hk := mem_lranks.mpr (stg_sub_top z)
    exact ⟨hk, decide_eq_true ((rkv_le hk).mpr z)⟩
  · rintro ⟨hk, z⟩
    exact (rkv_le hk).mp (of_decide_eq_true z)
/-! ### steps -/
def pstg (ns : List Str) (ps : List (Str × Str)) : Nat → List Str
  | 0 => []
  | j + 1 => stg ns ps j
theorem mem_valsP {f : Rk} {one : Str} {y : Int} : y ∈ valsP ps f one ↔ ∃ o, (o, one) ∈ ps ∧ o ∈ f.map (·.1) ∧ rkv f o = y := by
  unfold valsP
  rw [List.mem_map]
  exact ⟨fun ⟨o, h1, h2⟩ => ⟨o, mem_lobj.mp (List.mem_filter.mp h1).1, of_decide_eq_true (List.mem_filter.mp h1).2, h2⟩, fun ⟨o, h1, h2, h3⟩ => ⟨o, List.mem_filter.mpr ⟨mem_lobj.mpr h1, decide_eq_true h2⟩, h3⟩⟩
theorem min_of : ∀ (xs : List Int), xs ≠ [] → ∃ z ∈ xs, ∀ y ∈ xs, z ≤ y
  | [], h => absurd rfl h
  | [x], _ => ⟨x, List.mem_cons_self .., fun y hy => by rw [List.mem_singleton.mp hy]; exact Int.le_refl _⟩
  | x :: x' :: xs, _ => by
    obtain ⟨z, h1, h2⟩ := min_of (x' :: xs) (by simp)
    by_cases q : x ≤ z
    · refine ⟨x, List.mem_cons_self .., fun y hy => ?_⟩
      rcases List.mem_cons.mp hy with rfl | hy
      · exact Int.le_refl _
      · exact Int.le_trans q (h2 y hy)
    · refine ⟨z, List.mem_cons_of_mem _ h1, fun y hy => ?_⟩
      rcases List.mem_cons.mp hy with rfl | hy
      · omega
      · exact h2 y hy
theorem steps_law (ns : List Str) (ps : List (Str × Str)) : StepsOk ps (lranks ns ps) := by
  intro s hs
  obtain ⟨k, h1, h2, h3, h4⟩ := rkv_stg hs
  -- each objector is answered by one of a lesser rank
  have hans : ∀ one, (one, s) ∈ ps → ∃ o, (o, one) ∈ ps ∧ o ∈ (lranks ns ps).map (·.1) ∧ rkv (lranks ns ps) o < (k : Int) := fun one ho => by
    cases k with
    | zero =>
      obtain ⟨y, hy, _⟩ := lans_iff.mp (mem_aP.mp h3).2 one ho
      cases hy
    | succ k =>
      obtain ⟨y, hy, hyo⟩ := lans_iff.mp (mem_aP.mp h3).2 one ho
      have hk := mem_lranks.mpr (stg_sub_top hy)
      have := (rkv_le hk).mpr hy
      exact ⟨y, hyo, hk, by omega⟩
  have hne : ∀ one, (one, s) ∈ ps → valsP ps (lranks ns ps) one ≠ [] := fun one ho e => by
    obtain ⟨o, z1, z2, z3⟩ := hans one ho
    have := mem_valsP.mpr ⟨o, z1, z2, rfl⟩
    rw [e] at this
    cases this
  have hex : ∀ one, ∃ z : Int, (one, s) ∈ ps → z ∈ valsP ps (lranks ns ps) one ∧ ∀ y ∈ valsP ps (lranks ns ps) one, z ≤ y := fun one => by
    by_cases ho : (one, s) ∈ ps
    · obtain ⟨z, z1, z2⟩ := min_of _ (hne one ho)
      exact ⟨z, fun _ => ⟨z1, z2⟩⟩
    · exact ⟨0, fun h => absurd h ho⟩
  refine ⟨fun one => Classical.choose (hex one), fun one ho => Classical.choose_spec (hex one) (mem_lobj.mp ho), ?_, ?_⟩
  · rw [h1]
    cases k with
    | zero => exact List.mem_append_left _ (List.mem_singleton.mpr rfl)
    | succ k =>
      refine List.mem_append_right _ ?_
      -- some objector is not answered before
      have hno : ¬ lans ps (pstg ns ps k) s = true := fun z => h4 k (by omega) (by
        cases k with
        | zero => exact mem_aP.mpr ⟨(mem_aP.mp h3).1, z⟩
        | succ j => exact mem_aP.mpr ⟨(mem_aP.mp h3).1, z⟩)
      obtain ⟨one, ho, hno2⟩ : ∃ one, (one, s) ∈ ps ∧ ∀ m ∈ pstg ns ps k, (m, one) ∉ ps := by
        refine Classical.byContradiction fun hc => hno (lans_iff.mpr fun o ho => ?_)
        refine Classical.byContradiction fun hc2 => hc ⟨o, ho, fun m hm hmo => hc2 ⟨m, hm, hmo⟩⟩
      obtain ⟨z1, z2⟩ := Classical.choose_spec (hex one) ho
      refine List.mem_map.mpr ⟨Classical.choose (hex one), List.mem_map.mpr ⟨one, mem_lobj.mpr ho, rfl⟩, ?_⟩
      obtain ⟨o, w1, w2, w3⟩ := mem_valsP.mp z1
      obtain ⟨o', v1, v2, v3⟩ := hans one ho
      have u1 := z2 _ (mem_valsP.mpr ⟨o', v1, v2, rfl⟩)
      have u2 : (k : Int) ≤ Classical.choose (hex one) := by
        rw [← w3]
        cases k with
        | zero =>
          obtain ⟨kk, q1, _⟩ := rkv_stg w2
          rw [q1]
          omega
        | succ j =>
          refine Classical.byContradiction fun z => hno2 o ((rkv_le w2).mp (by omega)) w1
      omega
  · intro y hy
    rw [h1]
    rcases List.mem_append.mp hy with hy | hy
    · rw [List.mem_singleton.mp hy]
      omega
    · obtain ⟨z, hz, rfl⟩ := List.mem_map.mp hy
      obtain ⟨one, ho, rfl⟩ := List.mem_map.mp hz
      have ho := mem_lobj.mp ho
      obtain ⟨z1, z2⟩ := Classical.choose_spec (hex one) ho
      obtain ⟨o', v1, v2, v3⟩ := hans one ho
      have u1 := z2 _ (mem_valsP.mpr ⟨o', v1, v2, rfl⟩)
      omega
end
end Gd

-- part N3
set_option Elab.async false
set_option linter.all false
set_option maxRecDepth 100000
set_option maxHeartbeats 1000000
namespace Gd
open PySem PySem.Spec PyProof.Rows L2
section
variable {ns : List Str} {ps : List (Str × Str)} {l m : List Str} {s x : Str}
def firstIx (s : Str) : List (List Str) → Nat → Option Int
  | [], _ => none
  | l :: xs, n => if s ∈ l then some (n : Int) else firstIx s xs (n + 1)
theorem lookup_app {α : Type} {a b : List (Str × α)} : (a ++ b).lookup s = (a.lookup s).or (b.lookup s) := by
  induction a with
  | nil => rfl
  | cons q a ih =>
    obtain ⟨k, v⟩ := q
    rw [List.cons_append, List.lookup_cons, List.lookup_cons]
    by_cases e : (s == k) = true
    · rw [e]; rfl
    · rw [Bool.not_eq_true] at e
      rw [e]
      exact ih
theorem setd_lookup {f : Rk} {k : Str} {r : Int} : (setd f k r).lookup s = (f.lookup s).or (if s = k then some r else none) := by
  unfold setd
  by_cases q : (f.lookup k).isSome = true
  · rw [if_pos q]
    by_cases e : s = k
    · subst e
      cases z : f.lookup s with
      | none => rw [z] at q; cases q
      | some v => rfl
    · rw [if_neg e]
      cases f.lookup s <;> rfl
  · rw [if_neg q, lookup_app, List.lookup_cons]
    by_cases e : s = k
    · subst e; simp
    · have e2 : (s == k) = false := by simpa using e
      rw [e2, if_neg e]
      rfl
theorem fold_lookup {r : Int} : ∀ (l : List Str) (f : Rk), (l.foldl (fun a s => setd a s r) f).lookup s = (f.lookup s).or (if s ∈ l then some r else none)
  | [], f => by simp
  | k :: l, f => by
    rw [List.foldl_cons, fold_lookup l, setd_lookup]
    by_cases e : s = k
    · subst e
      rw [if_pos rfl, if_pos (List.mem_cons_self ..)]
      cases f.lookup s <;> simp
    · rw [if_neg e]
      by_cases q : s ∈ l
      · rw [if_pos q, if_pos (List.mem_cons_of_mem _ q)]
        simp
      · rw [if_neg q, if_neg (fun z => (List.mem_cons.mp z).elim e q)]
        simp
theorem found_lookup : ∀ (xs : List (List Str)) (n : Nat) (f : Rk), (((xs.zipIdx n).map fun p => ((p.2 : Int), p.1)).foldl lotStep f).lookup s = (f.lookup s).or (firstIx s xs n)
  | [], n, f => by simp [firstIx]
  | l :: xs, n, f => by
    rw [List.zipIdx_cons, List.map_cons, List.foldl_cons, found_lookup xs (n + 1)]
    show ((l.foldl (fun a s => setd a s (n : Int)) f).lookup s).or _ = _
    rw [fold_lookup]
    show _ = (f.lookup s).or (if s ∈ l then some (n : Int) else firstIx s xs (n + 1))
    by_cases q : s ∈ l
    · rw [if_pos q, if_pos q]
      cases f.lookup s <;> simp
    · rw [if_neg q, if_neg q]
      cases f.lookup s <;> rfl
theorem firstIx_none {n : Nat} {xs : List (List Str)} (h : ∀ l ∈ xs, s ∉ l) : firstIx s xs n = none := by
  induction xs generalizing n with
  | nil => rfl
  | cons l xs ih =>
    unfold firstIx
    rw [if_neg (h l (List.mem_cons_self ..))]
    exact ih fun l hl => h l (List.mem_cons_of_mem _ hl)
theorem firstIx_some : ∀ {xs : List (List Str)} {n k : Nat}, (∃ l, xs[k]? = some l ∧ s ∈ l) → (∀ j < k, ∀ l, xs[j]? = some l → s ∉ l) → firstIx s xs n = some ((n + k : Nat) : Int)
  | [], n, k, ⟨l, h, _⟩, _ => by simp at h
  | l :: xs, n, 0, ⟨l', h, hs⟩, _ => by
    obtain rfl : l = l' := by simpa using h
    unfold firstIx
    rw [if_pos hs]
    rfl
  | l :: xs, n, k + 1, ⟨l', h, hs⟩, hj => by
    unfold firstIx
    rw [if_neg (hj 0 (by omega) l rfl), firstIx_some (k := k) ⟨l', by simpa using h, hs⟩ fun j hjk l2 hl2 => hj (j + 1) (by omega) l2 (by simpa using hl2)]
    congr 2
    omega
theorem foundP_law : (foundP (mkD (ns, ps))).lookup s = if s ∈ (lranks ns ps).map (·.1) then some (rkv (lranks ns ps) s) else none := by
  obtain ⟨N, hN, h, hm⟩ := stg_top ns ps
  unfold foundP
  rw [stagesP_eq hN h hm]
  have := found_lookup (s := s) ((List.range (N + 1)).map (stg ns ps)) 0 []
  show (((((List.range (N + 1)).map (stg ns ps)).zipIdx 0).map fun p => ((p.2 : Int), p.1)).foldl lotStep []).lookup s = _
  rw [this]
  show firstIx s _ 0 = _
  by_cases hs : s ∈ (lranks ns ps).map (·.1)
  · rw [if_pos hs]
    obtain ⟨k, h1, h2, h3, h4⟩ := rkv_stg hs
    have hkN : k ≤ N := by
      refine Classical.byContradiction fun z => h4 N (by omega) ?_
      rw [stg_all h k (by omega)] at h3
      exact h3
    rw [h1]
    have := firstIx_some (s := s) (xs := (List.range (N + 1)).map (stg ns ps)) (n := 0) (k := k) ⟨stg ns ps k, by rw [List.getElem?_map, List.getElem?_range (by omega)]; rfl, h3⟩ fun j hj l hl => by
      rw [List.getElem?_map, List.getElem?_range (by omega)] at hl
      cases hl
      exact h4 j hj
    rw [this, Nat.zero_add]
  · rw [if_neg hs]
    refine firstIx_none fun l hl hsl => hs ?_
    obtain ⟨i, _, rfl⟩ := List.mem_map.mp hl
    exact mem_lranks.mpr (stg_sub_top hsl)
open PyProof.Rows in
theorem dle_pI {x y : Str} {a b : Int} (hne : x ≠ y) (h : PySem.W.dataLe false PyData.str x y = true) : PySem.W.dataLe false pI (x, a) (y, b) = true := by
  have hn : (Sum.inr y.cps.toList : Int ⊕ List Nat) ≠ Sum.inr x.cps.toList := fun e => hne (by
    have := Sum.inr.inj e
    cases x; cases y
    simpa using this.symm)
  have h' : (!lexLt itemOrd [Sum.inr y.cps.toList] [Sum.inr x.cps.toList]) = true := h
  rw [lex_diff (O := itemOrd) hn] at h'
  show (!lexLt itemOrd (Sum.inl 1 :: Sum.inr y.cps.toList :: _) (Sum.inl 1 :: Sum.inr x.cps.toList :: _)) = true
  rw [lex_self (O := itemOrd), lex_diff (O := itemOrd) hn]
  exact h'
theorem rkv_of {f : Rk} {r : Int} (nd : (f.map (·.1)).Nodup) (h : (s, r) ∈ f) : rkv f s = r := by
  have hm := rkv_mem (List.mem_map.mpr ⟨(s, r), h, rfl⟩ : s ∈ f.map (·.1))
  induction f with
  | nil => cases h
  | cons q f ih =>
    rw [List.map_cons] at nd
    obtain ⟨n1, n2⟩ := List.nodup_cons.mp nd
    have hcons : rkv (q :: f) s = if s = q.1 then q.2 else rkv f s := by
      obtain ⟨k, v⟩ := q
      unfold rkv
      rw [List.lookup_cons]
      by_cases e : s = k
      · subst e; simp
      · have e2 : (s == k) = false := by simpa using e
        rw [e2, if_neg e]
    rw [hcons]
    rcases List.mem_cons.mp h with e | h
    · rw [← e, if_pos rfl]
    · have hs : s ∈ f.map (·.1) := List.mem_map.mpr ⟨(s, r), h, rfl⟩
      rw [if_neg (fun e : s = q.1 => n1 (e ▸ hs))]
      exact ih n2 h (rkv_mem hs)
theorem sdI_map : ∀ {xs : List Str} {f : Str → Int}, Sd PyData.str xs → xs.Nodup → Sd pI (xs.map fun s => (s, f s))
  | [], _, _, _ => List.Pairwise.nil
  | x :: xs, f, h, nd => by
    obtain ⟨h1, h2⟩ := List.pairwise_cons.mp h
    obtain ⟨n1, n2⟩ := List.nodup_cons.mp nd
    rw [List.map_cons]
    refine List.pairwise_cons.mpr ⟨fun q hq => ?_, sdI_map h2 n2⟩
    obtain ⟨y, hy, rfl⟩ := List.mem_map.mp hq
    have hxy : x ≠ y := fun e => n1 (e ▸ hy)
    exact dle_pI hxy (h1 y hy)
/-- the ranks that the program tells are the law's -/
theorem ranks_law (nd : ns.Nodup) : ranksP (mkD (ns, ps)) = lranks ns ps := by
  have hR := rkOk_F nd ps (ns.length + 1)
  have e1 : ranksP (mkD (ns, ps)) = ((srt PyData.str ns).filter fun s => decide (s ∈ (lranks ns ps).map (·.1))).map fun s => (s, rkv (lranks ns ps) s) := by
    unfold ranksP
    show ((srt PyData.str ns).filter _).map _ = _
    have ef : ((srt PyData.str ns).filter fun s => ((foundP (mkD (ns, ps))).lookup s).isSome) = (srt PyData.str ns).filter fun s => decide (s ∈ (lranks ns ps).map (·.1)) := List.filter_congr fun s _ => by
      rw [foundP_law]
      by_cases q : s ∈ (lranks ns ps).map (·.1) <;> simp only [q, if_true, if_false, decide_true, decide_false] <;> rfl
    rw [ef]
    refine List.map_congr_left fun s hs => ?_
    have q : s ∈ (lranks ns ps).map (·.1) := of_decide_eq_true (List.mem_filter.mp hs).2
    rw [foundP_law, if_pos q]
    rfl
  rw [e1]
  have hnd : ((srt PyData.str ns).filter fun s => decide (s ∈ (lranks ns ps).map (·.1))).Nodup := (srt_nodup.mpr nd).filter _
  have hT := sdI_map (f := rkv (lranks ns ps)) ((srt_sd PyData.str ns).sub (List.filter_sublist (p := fun s => decide (s ∈ (lranks ns ps).map (·.1))))) hnd
  have hz : (lranks ns ps).Nodup := by
    have := hR.nd
    exact (List.pairwise_map.mp this).imp fun h e => h (by rw [e])
  refine (srt_eq (xs := lrF ns ps ns.length ++ (lrLater ns ps (lrF ns ps ns.length)).map fun s => (s, ((ns.length : Nat) : Int))) (alk_pr alk_S alk_I) (eqE_pr eqE_S eqE_I) ?_ hT).symm
  refine (lrStep_perm ns ps (lrF ns ps ns.length) ns.length).symm.trans ?_
  show (lranks ns ps).Perm _
  refine (List.perm_ext_iff_of_nodup hz (map_nodup (fun a _ b _ e => by injection e) hnd)).mpr fun q => ?_
  obtain ⟨s, r⟩ := q
  constructor
  · intro h
    have hk : s ∈ (lranks ns ps).map (·.1) := List.mem_map.mpr ⟨(s, r), h, rfl⟩
    exact List.mem_map.mpr ⟨s, List.mem_filter.mpr ⟨mem_srt.mpr (hR.sub s hk), decide_eq_true hk⟩, by rw [show rkv (lranks ns ps) s = r from rkv_of hR.nd h]⟩
  · intro h
    obtain ⟨s', h1, e⟩ := List.mem_map.mp h
    cases e
    exact rkv_mem (of_decide_eq_true (List.mem_filter.mp h1).2)
end
end Gd

-- part N4
set_option Elab.async false
set_option linter.all false
set_option maxRecDepth 100000
set_option maxHeartbeats 1000000
/-! ### the least whole lot -/
namespace Gd
open PySem PySem.Spec PyProof.Rows L2
section
variable {ns : List Str} {ps : List (Str × Str)} {l m : List Str} {s x : Str}
/-- who has a rank, sorted -/
def grd (ns : List Str) (ps : List (Str × Str)) : List Str := stg ns ps ns.length
theorem grd_fix : aP ns ps (grd ns ps) = grd ns ps := by
  obtain ⟨N, h1, h2, _⟩ := stg_top ns ps
  show stg ns ps (ns.length + 1) = stg ns ps ns.length
  rw [stg_all h2 _ (by omega), stg_all h2 _ h1]
theorem grd_srt (nd : ns.Nodup) : srt PyData.str ((lranks ns ps).map (·.1)) = grd ns ps := by
  obtain ⟨q, hq⟩ := stg_flt (ns := ns) (ps := ps) ns.length
  have hg : grd ns ps = (srt PyData.str ns).filter q := hq
  have hR := rkOk_F nd ps (ns.length + 1)
  refine srt_eq alk_S eqE_S ((List.perm_ext_iff_of_nodup hR.nd ?_).mpr fun x => mem_lranks) ?_
  · rw [hg]
    exact (srt_nodup.mpr nd).filter _
  · rw [hg]
    exact (srt_sd _ _).sub List.filter_sublist
theorem flt_ext {p q : Str → Bool} {xs : List Str} (h : ∀ x ∈ xs, p x = true ↔ q x = true) : xs.filter p = xs.filter q := List.filter_congr fun x hx => by
  rw [Bool.eq_iff_iff]
  exact h x hx
theorem subl_flt {U a : List Str} (ha : a.Sublist U) (nd : U.Nodup) : a = U.filter fun x => decide (x ∈ a) := by
  induction ha with
  | slnil => rfl
  | cons x h ih =>
    obtain ⟨n1, n2⟩ := List.nodup_cons.mp nd
    rw [List.filter_cons_of_neg (by simpa using fun z => n1 (h.subset z))]
    exact ih n2
  | @cons_cons l1 l2 x h ih =>
    obtain ⟨n1, n2⟩ := List.nodup_cons.mp nd
    rw [List.filter_cons_of_pos (by simp)]
    congr 1
    refine (ih n2).trans (flt_ext fun y hy => ?_)
    have : y ≠ x := fun e => n1 (e ▸ hy)
    simp [this]
theorem lansd_eq (ns : List Str) (ps : List (Str × Str)) (l : List Str) : lansd ns ps l = aP ns ps l := by
  unfold lansd aP
  refine srt_eq alk_S eqE_S ?_ ((srt_sd _ _).sub List.filter_sublist)
  exact ((srt_perm PyData.str ns).symm).filter _
theorem mem_lwhole (nd : ns.Nodup) : l ∈ lwhole ns ps ↔ l.Sublist (srt PyData.str ns) ∧ lcalm ps l = true ∧ aP ns ps l = l := by
  unfold lwhole
  rw [List.mem_filter, List.mem_filter, List.mem_filter, mem_lsubs, lansd_eq]
  constructor
  · rintro ⟨⟨⟨h1, h2⟩, h3⟩, h4⟩
    exact ⟨h1, h2, of_decide_eq_true h4⟩
  · rintro ⟨h1, h2, h3⟩
    refine ⟨⟨⟨h1, h2⟩, ?_⟩, decide_eq_true h3⟩
    unfold lheld
    rw [h2, Bool.true_and, List.all_eq_true]
    intro x hx
    rw [← h3] at hx
    exact (mem_aP.mp hx).2
theorem stg_in (h : aP ns ps l = l) : ∀ n, ∀ x ∈ stg ns ps n, x ∈ l
  | 0, x, hx => by
    rw [← h]
    obtain ⟨h1, h2⟩ := mem_aP.mp hx
    exact mem_aP.mpr ⟨h1, lans_mono (fun y hy => (by cases hy)) h2⟩
  | n + 1, x, hx => by
    rw [← h]
    obtain ⟨h1, h2⟩ := mem_aP.mp hx
    exact mem_aP.mpr ⟨h1, lans_mono (stg_in h n) h2⟩
/-- no one of the least lot objects to another -/
theorem grd_calm (ns : List Str) (ps : List (Str × Str)) : ∀ (n i j : Nat) (a b : Str), i + j ≤ n → a ∈ stg ns ps i → b ∈ stg ns ps j → (a, b) ∉ ps := by
  intro n
  induction n with
  | zero =>
    intro i j a b hn ha hb hab
    obtain rfl : j = 0 := by omega
    obtain ⟨y, hy, _⟩ := lans_iff.mp (mem_aP.mp hb).2 a hab
    cases hy
  | succ n ih =>
    intro i j a b hn ha hb hab
    cases j with
    | zero =>
      obtain ⟨y, hy, _⟩ := lans_iff.mp (mem_aP.mp hb).2 a hab
      cases hy
    | succ j =>
      obtain ⟨y, hy, hya⟩ := lans_iff.mp (mem_aP.mp hb).2 a hab
      exact ih j i y a (by omega) hy ha hya
theorem calm_iff : lcalm ps l = true ↔ ∀ a ∈ l, ∀ b ∈ l, (a, b) ∉ ps := by
  unfold lcalm
  rw [Bool.not_eq_true', List.any_eq_false]
  constructor
  · intro h a ha b hb hab
    have := h (a, b) hab
    simp [ha, hb] at this
  · rintro h ⟨a, b⟩ hab
    simp only [Bool.and_eq_true, decide_eq_true_eq, not_and]
    exact fun ha hb => h a ha b hb hab
theorem grd_whole (nd : ns.Nodup) : grd ns ps ∈ lwhole ns ps := by
  refine (mem_lwhole nd).mpr ⟨?_, calm_iff.mpr fun a ha b hb => grd_calm ns ps _ _ _ a b (Nat.le_refl _) ha hb, grd_fix⟩
  obtain ⟨q, hq⟩ := stg_flt (ns := ns) (ps := ps) ns.length
  show (stg ns ps ns.length).Sublist _
  rw [hq]
  exact List.filter_sublist
theorem nodup_one {α : Type} {xs : List α} {a : α} (nd : xs.Nodup) (ha : a ∈ xs) (h : ∀ x ∈ xs, x = a) : xs = [a] := by
  cases xs with
  | nil => cases ha
  | cons x xs =>
    obtain rfl := h x (List.mem_cons_self ..)
    cases xs with
    | nil => rfl
    | cons y xs =>
      have := h y (List.mem_cons_of_mem _ (List.mem_cons_self ..))
      exact absurd (List.mem_cons_self ..) (this ▸ (List.nodup_cons.mp nd).1)
theorem within_iff : within l m = true ↔ ∀ x ∈ l, x ∈ m := by
  unfold within
  rw [List.all_eq_true]
  exact ⟨fun h x hx => of_decide_eq_true (h x hx), fun h x hx => decide_eq_true (h x hx)⟩
/-- the least of all whole lots is who has a rank -/
theorem least_law (nd : ns.Nodup) : lleast ns ps = [srt PyData.str ((lranks ns ps).map (·.1))] := by
  rw [grd_srt nd]
  have hU : (srt PyData.str ns).Nodup := srt_nodup.mpr nd
  refine nodup_one ?_ ?_ fun l hl => ?_
  · unfold lleast lwhole lsubs
    exact ((((srt_nodup.mpr (lots_nodup hU)).filter _).filter _).filter _).filter _
  · refine List.mem_filter.mpr ⟨grd_whole nd, List.all_eq_true.mpr fun o ho => within_iff.mpr fun x hx => ?_⟩
    exact stg_in ((mem_lwhole nd).mp ho).2.2 _ x hx
  · obtain ⟨h1, h2⟩ := List.mem_filter.mp hl
    obtain ⟨s1, _, s3⟩ := (mem_lwhole nd).mp h1
    have hw := within_iff.mp (List.all_eq_true.mp h2 _ (grd_whole nd))
    obtain ⟨t1, _⟩ := (mem_lwhole nd).mp (grd_whole (ps := ps) nd)
    rw [subl_flt s1 hU, subl_flt t1 hU]
    refine flt_ext fun x _ => ?_
    rw [decide_eq_true_iff, decide_eq_true_iff]
    exact ⟨hw x, stg_in s3 _ x⟩
theorem okF2_law (nd : ns.Nodup) (hok : ∀ s ∈ ns, okS s = true) (hl : ns.length ≤ 50) : okF2 (lranks ns ps) := by
  have hR := rkOk_F nd ps (ns.length + 1)
  refine ⟨fun q hq => hok _ (hR.sub _ (List.mem_map.mpr ⟨q, hq, rfl⟩)), hR.lo, fun q hq => ?_, ?_⟩
  · have := hR.hi q hq
    omega
  · have := rk_len hR
    show (lrF ns ps (ns.length + 1)).length ≤ _
    omega
end
end Gd

-- part PX
set_option Elab.async false
set_option linter.all false
set_option maxRecDepth 100000
set_option maxHeartbeats 1000000
namespace Gd
open PySem PySem.Spec PyProof.Rows L2
section
variable {P : Program} {w : World} {K : PySem.W.Frag} {mg : Str → Option Value} {base : Heap} {aL : Addr} {D : Eqv} {At' : SR → Prop} {m0 : Nat}
/-- the classes' own ==, wherever it is asked -/
def OwnQ (P : Program) (w : World) (K : PySem.W.Frag) (mg : Str → Option Value) (base : Heap) (m0 : Nat) (D : Eqv) : Prop := ∀ X : Cx, X.prog = P → X.w = w → X.K = K → X.mg = mg → X.base = base → ∀ j, Room j X.A → m0 ≤ j → OpR X (compareOp .Eq) (rEqG D)
theorem ownQ_of {C : Addr} {R : Addr → Addr → Hp → Prop} (c : OwnEqR P w K mg base m0 C R) : OwnQ P w K mg base m0 (DIns C R) := fun X h1 h2 h3 h4 h5 j hr hk => by
  subst h1 h2 h3 h4 h5
  exact op_eqOwn c hr hk
theorem room_u {j : Nat} {A : Around} (r : Room j A) : A.units < cLine := by have := r.un; omega
section
variable {σ : L2.St} {G H : Hp} {tv tw : TE} {R : SR} {x : Nat}
theorem sX_LT {b r : Bool} {T : String} (h : HasTy K R T) (ha : Ev b tw σ G R) (hk : PySem.W.kitAny K (.type T) [.type "list", .type "tuple"] = some r := by decide +kernel) : Ev b (tCB (rIsiTY K) (tCons tw (tCons (tTup (tCons (tC (.ty "list")) (tCons (tC (.ty "tuple")) tNil))) tNil))) σ G (B r) := ev_isiTY2 ha fun v b G H r p => ⟨.type T, .inl (h v b G H r p), hk⟩
theorem sX_LT4 {b r : Bool} {T : String} (h : HasTy K R T) (ha : Ev b tw σ G R) (hk : PySem.W.kitAny K (.type T) [.type "int", .type "list", .type "tuple", .type "dict"] = some r) : Ev b (tCB (rIsiTY K) (tCons tw (tCons (tTup (tCons (tC (.ty "int")) (tCons (tC (.ty "list")) (tCons (tC (.ty "tuple")) (tCons (tC (.ty "dict")) tNil))))) tNil))) σ G (B r) := ev_isiTY4 ha fun v b G H r p => ⟨.type T, .inl (h v b G H r p), hk⟩
theorem sX_1 {b r : Bool} {T t : String} (h : HasTy K R T) (ha : Ev b tw σ G R) (hk : kitB T t = some r := by decide +kernel) : Ev b (tCB (rIsiY K) (tCons tw (tCons (tC (.ty t)) tNil))) σ G (B r) := ev_isiY ha (tyY_ty h hk)
theorem lt4_no {T : String} (h0 : kitB T "int" = some false := by decide +kernel) (h1 : kitB T "list" = some false := by decide +kernel) (h2 : kitB T "tuple" = some false := by decide +kernel) (h3 : kitB T "dict" = some false := by decide +kernel) : PySem.W.kitAny K (.type T) [.type "int", .type "list", .type "tuple", .type "dict"] = some false := kitAny_all _ fun u hu => by
  simp only [List.mem_cons, List.not_mem_nil, or_false] at hu
  rcases hu with rfl | rfl | rfl | rfl
  · exact kit_ty h0
  · exact kit_ty h1
  · exact kit_ty h2
  · exact kit_ty h3
theorem hty_Dct {α : Type} {e : α → SR} {kvs : List (Str × α)} : HasTy K (Dct e kvs) "dict" := fun v b G H r ⟨a, vs, h1, h2, _⟩ => by
  subst h1
  rcases r a _ h2 with h | ⟨_, _, ob, h⟩
  · exact .base (.dK h)
  · exact .fDict h
end
theorem ok_sameS' {m : Nat} {Z : SR → Prop} (F : Fn K mg "_law_same" s_same ["_law_found", "_law_due"]) (T : Txt K mg aL) (q_own : OwnQ P w K mg base m0 D) (hA : ∀ R, At' R → AtOk K D R) (hm : m0 ≤ m) (c_same : C8.Cal P w K mg base m "_law_same" (sp_sameZ K Z) []) : C8.Cal P w K mg base (m + 1) "_law_same" (sp_sameZ K (SmS K At' Z)) [] := by
  refine cal_of F sc_same (fun vs H Q E h => spF_len h fun _ => rfl) (fun f cdv A outer s H vs Q E hr h => ?_)
  obtain ⟨R, G, v, w', rfl, r, hR, hv, hw, k⟩ := sp2 h fun _ => rfl
  have hu0 := room_u hr
  refine ⟨_, (pss_cons (ps_if (pt_val (pe_callB (call_isiTY (K := K)) rfl T.isinstance boot_isinstance (pa_cons (pv 1) (pa_cons (pe_tup (pa_cons (pe_bltn (v := .ty "list") rfl T.list boot_list rfl) (pa_cons (pe_bltn (v := .ty "tuple") rfl T.tuple boot_tuple rfl) pa_nil))) pa_nil)))) (pss_cons (ps_if (PW.pt (pw_or (pt_cmpR op_ne (pe_callB (call_isiY (K := K)) rfl T.isinstance boot_isinstance (pa_cons (pv 0) (pa_cons (pe_bltn (v := .ty "list") rfl T.list boot_list rfl) pa_nil))) (pe_callB (call_isiY (K := K)) rfl T.isinstance boot_isinstance (pa_cons (pv 1) (pa_cons (pe_bltn (v := .ty "list") rfl T.list boot_list rfl) pa_nil))) (nomark _)) (pw_or1 (pt_cmpR op_ne (pe_callB (call_isiY (K := K)) rfl T.isinstance boot_isinstance (pa_cons (pv 0) (pa_cons (pe_bltn (v := .ty "tuple") rfl T.tuple boot_tuple rfl) pa_nil))) (pe_callB (call_isiY (K := K)) rfl T.isinstance boot_isinstance (pa_cons (pv 1) (pa_cons (pe_bltn (v := .ty "tuple") rfl T.tuple boot_tuple rfl) pa_nil))) (nomark _))))) (pss_one (ps_ret pe_bl)) pss_nil)
      (pss_one (ps_ret (pe_and (pe_cmpR op_eq (pe_callB (call_lenK (K := K)) rfl T.len PySem.boot_len (pa_cons (pv 0) pa_nil)) (pe_callB (call_lenK (K := K)) rfl T.len PySem.boot_len (pa_cons (pv 1) pa_nil)) (nomark _)) (pe_one (pe_callB (call_allK (K := K) rfl) rfl T.all boot_all (pa_cons (pe_lc (own := [("_law_x", 2), ("_law_y", 3)]) rfl sc_same.nd (pi_zipK (K := K) rfl T.zip (pa_cons (pv 0) (pa_cons (pv 1) pa_nil))) (blkOk_by (by kernel_rfl)) (fun _ _ _ _ _ => (pg_tupK (K := K) (n := 2) rfl (pgs_cons (pg_name (i := 2) sc_same.nd rfl (by first | exact Or.inl rfl | exact Or.inr rfl)) (pgs_cons (pg_name (i := 3) sc_same.nd rfl (by first | exact Or.inl rfl | exact Or.inr rfl)) pgs_nil)))) (fun _ _ _ _ _ => pts_nil) (fun _ _ _ _ _ => (C8.pe_c c_same hr (by first | decide | omega) rfl (pa_cons (pv 2) (pa_cons (pv 3) pa_nil))))) pa_nil))))))) pss_nil)
      (pss_cons (ps_if (pt_val (pe_callB (call_isiY (K := K)) rfl T.isinstance boot_isinstance (pa_cons (pv 1) (pa_cons (pe_bltn (v := .ty "dict") rfl T.dict boot_dict rfl) pa_nil)))) (pss_one (ps_ret (pe_and (pe_callB (call_isiY (K := K)) rfl T.isinstance boot_isinstance (pa_cons (pv 0) (pa_cons (pe_bltn (v := .ty "dict") rfl T.dict boot_dict rfl) pa_nil))) (pe_one (C8.pe_c c_same hr (by first | decide | omega) rfl (pa_cons (LiI.pe_listItems rfl (pv 0) rfl T.list boot_list) (pa_cons (LiI.pe_listItems rfl (pv 1) rfl T.list boot_list) pa_nil))))))) pss_nil)
      (pss_cons (ps_if (pt_val (pe_callB (call_isiY (K := K)) rfl T.isinstance boot_isinstance (pa_cons (pv 1) (pa_cons (pe_bltn (v := .ty "int") rfl T.int boot_int rfl) pa_nil)))) (pss_one (ps_ret (pe_and (pe_callB (call_isiY (K := K)) rfl T.isinstance boot_isinstance (pa_cons (pv 0) (pa_cons (pe_bltn (v := .ty "int") rfl T.int boot_int rfl) pa_nil))) (pe_and (pe_cmpR op_eq (pe_callB (call_isiY (K := K)) rfl T.isinstance boot_isinstance (pa_cons (pv 0) (pa_cons (pe_bltn (v := .ty "bool") rfl T.bool boot_bool rfl) pa_nil))) (pe_callB (call_isiY (K := K)) rfl T.isinstance boot_isinstance (pa_cons (pv 1) (pa_cons (pe_bltn (v := .ty "bool") rfl T.bool boot_bool rfl) pa_nil))) (nomark _)) (pe_one (pe_cmpR (OpR.or op_eq (OpR.or (q_own _ rfl rfl rfl rfl rfl _ hr (by first | decide | omega)) (op_eqF (K := K) hu0))) (pv 0) (pv 1) (nomark _))))))) pss_nil)
      (pss_one (ps_ret (pe_and (pe_not (pe_callB (call_isiTY (K := K)) rfl T.isinstance boot_isinstance (pa_cons (pv 0) (pa_cons (pe_tup (pa_cons (pe_bltn (v := .ty "int") rfl T.int boot_int rfl) (pa_cons (pe_bltn (v := .ty "list") rfl T.list boot_list rfl) (pa_cons (pe_bltn (v := .ty "tuple") rfl T.tuple boot_tuple rfl) (pa_cons (pe_bltn (v := .ty "dict") rfl T.dict boot_dict rfl) pa_nil))))) pa_nil)))) (pe_one (pe_cmpR (OpR.or op_eq (OpR.or (q_own _ rfl rfl rfl rfl rfl _ hr (by first | decide | omega)) (op_eqF (K := K) hu0))) (pv 0) (pv 1) (nomark _))))))))), ?_⟩
  cases hR with
  | s x =>
    refine tq_ifF (et_B (sX_LT hty_S (ev_var rfl hw) lt2_no)) r fun G1 H1 g1 => ?_
    refine tq_ifF (et_B (sX_1 (r := false) hty_S (ev_var rfl ((S x).st g1.g hw)))) (g1.r _ r) fun G2 H2 g2 => ?_
    have g := g1.trans g2
    refine tq_ifF (et_B (sX_1 (r := false) hty_S (ev_var rfl ((S x).st g.g hw)))) (g.r _ r) fun G3 H3 g3 => ?_
    have g := g.trans g3
    exact ts_ret (Ev.eq (R' := B true) (ev_and (ev_not (sX_LT4 hty_S (ev_var rfl ((S x).st g.g hv)) lt4_no)) fun _ => ev_eqXs (R := S x) (R' := S x) (c := true) (ev_var rfl ((S x).st g.g hv)) (ev_var rfl ((S x).st g.g hw)) (fun x y G ⟨p, _⟩ ⟨q, _⟩ => by subst p q; exact ⟨rfl, by simp⟩)) (by simp)) (g.r _ r) fun u G4 H4 g4 p => k u G4 H4 (g.trans g4) p
  | i x =>
    refine tq_ifF (et_B (sX_LT hty_I (ev_var rfl hw) lt2_no)) r fun G1 H1 g1 => ?_
    refine tq_ifF (et_B (sX_1 (r := false) hty_I (ev_var rfl ((I x).st g1.g hw)))) (g1.r _ r) fun G2 H2 g2 => ?_
    have g := g1.trans g2
    refine ts_ifT (t := tRet _) (et_B (sX_1 (r := true) hty_I (ev_var rfl ((I x).st g.g hw)))) (g.r _ r) fun G3 H3 g3 => ?_
    have g := g.trans g3
    exact ts_ret (Ev.eq (R' := B true) (ev_and (sX_1 (r := true) hty_I (ev_var rfl ((I x).st g.g hv))) fun _ => ev_and (ev_eqB (sX_1 (r := false) hty_I (ev_var rfl ((I x).st g.g hv))) (sX_1 (r := false) hty_I (ev_var rfl ((I x).st g.g hw)))) fun _ => ev_eqXs (R := I x) (R' := I x) (c := true) (ev_var rfl ((I x).st g.g hv)) (ev_var rfl ((I x).st g.g hw)) (fun a b G p q => by
      obtain rfl : a = .int x := p
      obtain rfl : b = .int x := q
      exact ⟨rfl, by simp⟩)) (by simp)) (g.r _ r) fun u G4 H4 g4 p => k u G4 H4 (g.trans g4) p
  | b x =>
    refine tq_ifF (et_B (sX_LT hty_B (ev_var rfl hw) lt2_no)) r fun G1 H1 g1 => ?_
    refine tq_ifF (et_B (sX_1 (r := false) hty_B (ev_var rfl ((B x).st g1.g hw)))) (g1.r _ r) fun G2 H2 g2 => ?_
    have g := g1.trans g2
    refine ts_ifT (t := tRet _) (et_B (sX_1 (r := true) hty_B (ev_var rfl ((B x).st g.g hw)))) (g.r _ r) fun G3 H3 g3 => ?_
    have g := g.trans g3
    exact ts_ret (Ev.eq (R' := B true) (ev_and (sX_1 (r := true) hty_B (ev_var rfl ((B x).st g.g hv))) fun _ => ev_and (ev_eqB (sX_1 (r := true) hty_B (ev_var rfl ((B x).st g.g hv))) (sX_1 (r := true) hty_B (ev_var rfl ((B x).st g.g hw)))) fun _ => ev_eqXs (R := B x) (R' := B x) (c := true) (ev_var rfl ((B x).st g.g hv)) (ev_var rfl ((B x).st g.g hw)) (fun a b G p q => by
      obtain rfl : a = .bl x := p
      obtain rfl : b = .bl x := q
      exact ⟨rfl, by simp⟩)) (by simp)) (g.r _ r) fun u G4 H4 g4 p => k u G4 H4 (g.trans g4) p
  | a h =>
    have A0 := hA R h
    refine tq_ifF (et_B (ev_isiTY2 (r := false) (ev_var rfl hw) fun v b G H r p => ?_)) r fun G1 H1 g1 => ?_
    · obtain ⟨t, h1, h2, h3, h4, h5⟩ := A0.ty v b G H r p
      exact ⟨t, h1, kitAny_all _ fun u hu => by
        simp only [List.mem_cons, List.not_mem_nil, or_false] at hu
        rcases hu with rfl | rfl
        · exact h3
        · exact h4⟩
    refine tq_ifF (et_B (ev_isiY (r := false) (ev_var rfl (R.st g1.g hw)) fun v b G H r p => ?_)) (g1.r _ r) fun G2 H2 g2 => ?_
    · obtain ⟨t, h1, h2, h3, h4, h5⟩ := A0.ty v b G H r p
      exact ⟨t, h1, h5⟩
    have g := g1.trans g2
    refine tq_ifF (et_B (ev_isiY (r := false) (ev_var rfl (R.st g.g hw)) fun v b G H r p => ?_)) (g.r _ r) fun G3 H3 g3 => ?_
    · obtain ⟨t, h1, h2, h3, h4, h5⟩ := A0.ty v b G H r p
      exact ⟨t, h1, h2⟩
    have g := g.trans g3
    refine ts_ret (Ev.eq (R' := B true) (ev_and (ev_not (ev_isiTY4 (r := false) (ev_var rfl (R.st g.g hv)) fun v b G H r p => ?_)) fun _ => ev_eqX A0 (ev_var rfl (R.st g.g hv)) (ev_var rfl (R.st g.g hw))) (by simp)) (g.r _ r) fun u G4 H4 g4 p => k u G4 H4 (g.trans g4) p
    obtain ⟨t, h1, h2, h3, h4, h5⟩ := A0.ty v b G H r p
    exact ⟨t, h1, kitAny_all _ fun u hu => by
      simp only [List.mem_cons, List.not_mem_nil, or_false] at hu
      rcases hu with rfl | rfl | rfl | rfl
      · exact h2
      · exact h3
      · exact h4
      · exact h5⟩
  | l hx =>
    rename_i α e xs
    refine ts_ifT (et_B (sX_LT (r := true) hty_lst (ev_var rfl hw) lt2_list)) r fun G1 H1 g1 => ?_
    have hv1 := (Lst e xs).st g1.g hv
    have hw1 := (Lst e xs).st g1.g hw
    refine tq_ifF (EvT.eq (et_or (et_test (ev_neB (sX_1 (r := true) hty_lst (ev_var rfl hv1)) (sX_1 (r := true) hty_lst (ev_var rfl hw1)))) fun _ => et_test (ev_neB (sX_1 (r := false) hty_lst (ev_var rfl hv1)) (sX_1 (r := false) hty_lst (ev_var rfl hw1)))) (by simp)) (g1.r _ r) fun G2 H2 g2 => ?_
    have hv2 := (Lst e xs).st g2.g hv1
    have hw2 := (Lst e xs).st g2.g hw1
    have g := g1.trans g2
    refine ts_ret (Ev.eq (R' := B true) (ev_and (ev_eqI (ev_len (Ev.sqL (ev_var rfl hv2))) (ev_len (Ev.sqL (ev_var rfl hw2)))) fun _ => ev_allL (p := fun _ => true) (en_map (ei_zipL (ev_var rfl hv2) (ev_var rfl hw2)) fun p hp y G' s hy => ?_)) (by rw [zip_all]; simp)) (g.r _ r) fun u G4 H4 g4 p => k u G4 H4 (g.trans g4) p
    obtain ⟨a, v1, v2, rfl, hT, h1, h2⟩ := hy
    obtain ⟨e1, e2⟩ := zip_mem hp
    rw [← e1] at h2
    exact ⟨_, gto_tup2 hT, rfl, ev_call (e p.1) (ea_cons (ev_var rfl h1) (ea_cons (ev_var rfl h2) ea_nil)) (hx _ e2)⟩
  | t hx =>
    rename_i α e xs
    refine ts_ifT (et_B (sX_LT (r := true) hty_tpl (ev_var rfl hw) lt2_tuple)) r fun G1 H1 g1 => ?_
    have hv1 := (Tpl K e xs).st g1.g hv
    have hw1 := (Tpl K e xs).st g1.g hw
    refine tq_ifF (EvT.eq (et_or (et_test (ev_neB (sX_1 (r := false) hty_tpl (ev_var rfl hv1)) (sX_1 (r := false) hty_tpl (ev_var rfl hw1)))) fun _ => et_test (ev_neB (sX_1 (r := true) hty_tpl (ev_var rfl hv1)) (sX_1 (r := true) hty_tpl (ev_var rfl hw1)))) (by simp)) (g1.r _ r) fun G2 H2 g2 => ?_
    have hv2 := (Tpl K e xs).st g2.g hv1
    have hw2 := (Tpl K e xs).st g2.g hw1
    have g := g1.trans g2
    refine ts_ret (Ev.eq (R' := B true) (ev_and (ev_eqI (ev_len (Ev.sqT (ev_var rfl hv2))) (ev_len (Ev.sqT (ev_var rfl hw2)))) fun _ => ev_allL (p := fun _ => true) (en_map (ei_zipT (ev_var rfl hv2) (ev_var rfl hw2)) fun p hp y G' s hy => ?_)) (by rw [zip_all]; simp)) (g.r _ r) fun u G4 H4 g4 p => k u G4 H4 (g.trans g4) p
    obtain ⟨a, v1, v2, rfl, hT, h1, h2⟩ := hy
    obtain ⟨e1, e2⟩ := zip_mem hp
    rw [← e1] at h2
    exact ⟨_, gto_tup2 hT, rfl, ev_call (e p.1) (ea_cons (ev_var rfl h1) (ea_cons (ev_var rfl h2) ea_nil)) (hx _ e2)⟩
  | p h1 h2 =>
    rename_i α β e' f' x
    have hv := pr_tpl hv
    have hw := pr_tpl hw
    have hx : ∀ i ∈ [false, true], Z (prE e' f' x i) := fun i hi => by
      cases i with
      | false => exact h1
      | true => exact h2
    generalize prE e' f' x = e at hv hw hx
    generalize [false, true] = xs at hv hw hx
    refine ts_ifT (et_B (sX_LT (r := true) hty_tpl (ev_var rfl hw) lt2_tuple)) r fun G1 H1 g1 => ?_
    have hv1 := (Tpl K e xs).st g1.g hv
    have hw1 := (Tpl K e xs).st g1.g hw
    refine tq_ifF (EvT.eq (et_or (et_test (ev_neB (sX_1 (r := false) hty_tpl (ev_var rfl hv1)) (sX_1 (r := false) hty_tpl (ev_var rfl hw1)))) fun _ => et_test (ev_neB (sX_1 (r := true) hty_tpl (ev_var rfl hv1)) (sX_1 (r := true) hty_tpl (ev_var rfl hw1)))) (by simp)) (g1.r _ r) fun G2 H2 g2 => ?_
    have hv2 := (Tpl K e xs).st g2.g hv1
    have hw2 := (Tpl K e xs).st g2.g hw1
    have g := g1.trans g2
    refine ts_ret (Ev.eq (R' := B true) (ev_and (ev_eqI (ev_len (Ev.sqT (ev_var rfl hv2))) (ev_len (Ev.sqT (ev_var rfl hw2)))) fun _ => ev_allL (p := fun _ => true) (en_map (ei_zipT (ev_var rfl hv2) (ev_var rfl hw2)) fun p hp y G' s hy => ?_)) (by rw [zip_all]; simp)) (g.r _ r) fun u G4 H4 g4 p => k u G4 H4 (g.trans g4) p
    obtain ⟨a, v1, v2, rfl, hT, h1, h2⟩ := hy
    obtain ⟨e1, e2⟩ := zip_mem hp
    rw [← e1] at h2
    exact ⟨_, gto_tup2 hT, rfl, ev_call (e p.1) (ea_cons (ev_var rfl h1) (ea_cons (ev_var rfl h2) ea_nil)) (hx _ e2)⟩
  | d h1 h2 =>
    rename_i α e kvs
    refine tq_ifF (et_B (sX_LT hty_Dct (ev_var rfl hw) lt2_no)) r fun G1 H1 g1 => ?_
    have hv1 := (Dct e kvs).st g1.g hv
    have hw1 := (Dct e kvs).st g1.g hw
    refine tq_if (v := true) (et_B (sX_1 (r := true) hty_Dct (ev_var rfl hw1))) (g1.r _ r) (fun _ G2 H2 g2 => ?_) fun h => by cases h
    have hv2 := (Dct e kvs).st g2.g hv1
    have hw2 := (Dct e kvs).st g2.g hw1
    have g := g1.trans g2
    exact ts_ret (Ev.eq (R' := B true) (ev_and (sX_1 (r := true) hty_Dct (ev_var rfl hv2)) fun _ => ev_call (ι := SR) (Lst (Pr K S e) kvs) (ea_cons (EvN.ev (en_listItems (ev_var rfl hv2) h1)) (ea_cons (EvN.ev (en_listItems (ev_var rfl hw2) h1)) ea_nil)) h2) (by simp)) (g.r _ r) fun u G4 H4 g4 p => k u G4 H4 (g.trans g4) p
theorem ok_sameX (F : Fn K mg "_law_same" s_same ["_law_found", "_law_due"]) (T : Txt K mg aL) (q_own : OwnQ P w K mg base m0 D) (hA : ∀ R, At' R → AtOk K D R) : ∀ n, C8.Cal P w K mg base (m0 + n + 1) "_law_same" (sp_sameX K At' n) []
  | 0 => cal_of F sc_same (fun vs H Q E h => spF_len h fun _ => rfl) (fun f cdv A outer s H vs Q E hr h => by
    obtain ⟨R, G, v, w', rfl, r, hR, _⟩ := sp2 h fun _ => rfl
    exact hR.elim)
  | n + 1 => ok_sameS' F T q_own hA (by omega) (ok_sameX F T q_own hA n)
end
end Gd

-- part Gd59
set_option Elab.async false
set_option linter.all false
set_option maxRecDepth 100000
set_option maxHeartbeats 1000000
/-! ### several owned things lent at once; what the laws of debates do with what is told -/
namespace Gd
open PySem PySem.Spec PyProof.Rows L2
universe u
theorem pe_dclearK {X : Cx} {K : PySem.W.Frag} {o : Expr} {to : TE} {apos cpos : Pos} (ho : PE X o to) (hbase : attributeBase o "clear" X.env (eval o X.env) = eval o X.env := by rfl) (hline : (apos.endLine == cpos.line) = true := by rfl) (hK : X.K = K := by rfl) : PE X (.Call (.Attribute o "clear" apos) [] [] cpos) (tBM0 K "dict" rDClear to) := by
  subst hK
  exact pe_dclear ho hbase hline
section
variable {K : PySem.W.Frag} {W : SC} {O O' L : Own} {n k m l : Nat} {G0 G G2 H H2 : Hp} {Rs Rs' : RL} {R R1 R2 : SR} {te ta tb tc to : TE} {tr : TA} {t u : TS} {E : Ends} {α β : Type} {e : α → SR} {xs : List α} {p z : Addr} {i j : Nat}
/-- several owned things, read as if they were frozen -/
theorem eg_lendS {ρ : Type} {tt : L2.St → Hp → (ρ → Hp → Prop) → Prop} {P : ρ → Hp → Prop} (L : Own) (hc : ∀ G, (∀ q ∈ L, ∃ o, G q.1 = some o ∧ q.2.p o G) → Slk G Rs Rs') (hP : ∀ v G G', P v G → P v G') (h : ∀ F, EG W (exAll F O) k tt Rs' P) : EG W (L ++ O) k tt Rs P := fun σ G H n Q sl w hn kk => by
  have w0 := w.exact
  rw [exAll_app] at w0
  obtain ⟨Gf, s3, w3, h3⟩ := w0.freezeAll
  refine h (fun a => (H a).getD (.lst [])) σ _ H n _ ((sl.st s3).weak (hc Gf fun q hq => ?_)) w3 hn fun v G2 H2 s2 w2 pv => ?_
  · obtain ⟨o, _, h2, _, h4⟩ := h3 (q.1, exO ((H q.1).getD (.lst [])) q.2) (List.mem_map.mpr ⟨q, hq, rfl⟩)
    exact ⟨o, h2, h4⟩
  · have sG : Same G G2 := s3.trans s2
    refine kk v G H2 (Same.refl G) ⟨fun a u e => .inl (w2.r.ex (sG a u e)), w.nt, w2.tb, ?_, w.nd, fun q hq => ?_⟩ (hP _ _ _ pv)
    · obtain ⟨d1, d2, d3, d4⟩ := w2.d
      exact ⟨d1, w.d.gs, w.d.gc, d4⟩
    · obtain ⟨q1, q2, q3, ho, q4, q5, q6⟩ := w.o q hq
      refine ⟨q1, q2, q3, ho, ?_, q5, q6⟩
      rcases List.mem_append.mp hq with hq | hq
      · obtain ⟨o, z1, z2, z3, _⟩ := h3 (q.1, exO ((H q.1).getD (.lst [])) q.2) (List.mem_map.mpr ⟨q, hq, rfl⟩)
        rw [q4] at z1
        cases z1
        exact w2.r.ex (s2 _ _ z2)
      · obtain ⟨_, _, _, ho', z4, _, z6, _⟩ := w2.o (q.1, exO ((H q.1).getD (.lst [])) q.2) (List.mem_map.mpr ⟨q, hq, rfl⟩)
        rw [z4, z6, q4]
        rfl
theorem etl_lendS {tt : TT} {b : Bool} {O2 : Own} (L : Own) (hO : O2 = L ++ O) (hc : ∀ G, (∀ q ∈ L, ∃ o, G q.1 = some o ∧ q.2.p o G) → Slk G Rs Rs') (h : ∀ F, ETL W (exAll F O) k tt Rs' b) : ETL W O2 k tt Rs b := hO ▸ eg_lendS L hc (fun _ _ _ h => h) h
/-- a, b = (a new thing), (a new list of new lists) -/
theorem hl_parOD {R : OR} {xs : List (List α)} (h1 : ELO W O k ta Rs R) (h2 : ∀ q, ELD W ((q, R) :: O) m tb Rs e xs) (q : ∀ q p ps, ps.length = xs.length → HL W G0 (n + (k + m)) (deepO e p ps xs ++ (q, R) :: O) ((Rs.set i (some (cst (.ref q)))).set j (some (cst (.ref p)))) u E) (hn : n + (k + m) ≤ 1000000 := by omega) : HL W G0 n O Rs (tSeq (tPar i j (tCons ta (tCons tb tNil))) u) E := fun σ H ⟨G, s, sl, w⟩ =>
  h1 σ G H n _ sl w (by omega) fun v G2 H2 s2 w2 => h2 v σ G2 H2 (n + k) _ (sl.st s2) w2 (by omega) fun z ps G3 H3 s3 hl w3 => ⟨_, _, rfl, q v z ps hl _ _ ⟨G3, (s.trans s2).trans s3, ((sl.st (s2.trans s3)).set (R := cst (.ref v)) rfl).set (R := cst (.ref z)) rfl, w3.eq (by omega)⟩⟩
/-- names that are held are texts -/
theorem hl_know {ns : List Str} (i : Nat) (hi : Rs[i]? = some (some (Lst S ns))) (q : (∀ s ∈ ns, okS s = true) → HL W G0 n O Rs t E) : HL W G0 n O Rs t E := fun σ H ⟨G, s, sl, w⟩ => by
  obtain ⟨v, _, a, vs, _, _, _, h⟩ := sl.get i _ hi
  refine q (fun s hs => ?_) σ H ⟨G, s, sl, w⟩
  obtain ⟨k, hk⟩ := List.getElem?_of_mem hs
  obtain ⟨u, _, hu⟩ := h.get' hk
  exact hu.2
theorem eal_XX {A B' : Type} {P : A → Prop} {P' : B' → Prop} {f : A → SR} {g : B' → SR} (h1 : EL W O k ta Rs (ExR P f)) (h2 : EL W O m tb Rs (ExR P' g)) : EG W O (k + m) (tCons ta (tCons tb tNil)) Rs (fun vs G => ∃ q : A × B', (P q.1 ∧ P' q.2) ∧ AlR [f q.1, g q.2] vs G) := fun σ G H n Q sl w hn kk =>
  h1 σ G H n _ sl w (by omega) fun v G2 H2 s2 w2 ⟨a, pa, pv⟩ => h2 σ G2 H2 (n + k) _ (sl.st s2) w2 (by omega) fun u G3 H3 s3 w3 ⟨b, pb, pu⟩ => kk [v, u] G3 H3 (s2.trans s3) (w3.eq (by omega)) ⟨(a, b), ⟨pa, pb⟩, .cons ((f a).st s3 pv) (.cons pu .nil)⟩
/-- told.clear(); what is told of it is gone -/
theorem hl_clear {kvs : List (Str × α)} (hi : Rs[i]? = some (some (cst (.ref p)))) (q : HL W G0 n O Rs u E) : HL W G0 n ((p, ODct e kvs) :: O) Rs (tSeq (tDrop (tBM0 K "dict" rDClear (tVar i))) u) E := fun σ H ⟨G, s, sl, w⟩ => by
  obtain ⟨v, h1, h2⟩ := sl.get i _ hi
  obtain rfl : v = .ref p := h2
  obtain ⟨_, _, _, o, w4, _, ws, rfl, _⟩ := w.o _ (List.mem_cons_self ..)
  have w3 : Wd W n ((p, ⟨fun _ _ => True, fun _ h => h⟩) :: O) G (upd H p (.dK [])) := w.put (fun u ⟨_, e, _⟩ => by rw [e]; rfl) rfl trivial
  exact ⟨_, h1, .inr (.inr (.inl ⟨rfl, .inl ⟨ws, w4⟩⟩)), p, ws, rfl, rfl, w4, q _ _ ⟨G, s, sl, w3.drop (List.sublist_cons_self ..)⟩⟩
/-- xs[j], xs a list of one's own -/
theorem el_ixO {vs : List V} {v : V} (hi : Rs[i]? = some (some (cst (.ref p)))) (hO : (p, OEx (.lst vs)) ∈ O) (hx : vs[j]? = some v) : EL W O 0 (tOp (rIx K) (tVar i) (tC (.int (j : Nat)))) Rs (cst v) := fun σ G H n Q sl w hn kk => by
  obtain ⟨x, h1, h2⟩ := sl.get i _ hi
  obtain rfl : x = .ref p := h2
  obtain ⟨_, _, _, o, h4, _, rfl⟩ := w.o _ hO
  exact ⟨_, h1, .inl ⟨p, vs, _, v, rfl, rfl, SqL.of h4, atI_nat hx, kk v G H (Same.refl G) w rfl⟩⟩
theorem elo_dct {kvs : List (Str × α)} (h : ELO W O k te Rs (ODct e kvs)) : EL W O k te Rs (Dct e kvs) := fun σ G H n Q sl w hn kk => h σ G H n _ sl w hn fun p G2 H2 s2 w2 => by
  obtain ⟨o, h1, h2, s3, w3⟩ := w2.freeze
  exact kk (.ref p) _ H2 (s2.trans s3) w3 (od_dct o _ ((ODct e kvs).st s3 h2) upd_same)
/-- d.get(k), d told -/
theorem el_dget1 {kvs : List (Str × β)} {er : β → SR} {s : Str} (h1 : EL W O k ta Rs (Dct er kvs)) (h2 : EL W O m tb Rs (S s)) : EL W O (k + m) (tDGet1 ta tb) Rs (Op er (kvs.lookup s)) := fun σ G H n Q sl w hn kk => by
  refine h1 σ G H n _ sl w (by omega) fun x G1 H1 s1 w1 ⟨d, ws, e1, e2, e3, al⟩ => ?_
  subst e1
  refine ⟨d, rfl, .inl ⟨_, .inl (w1.r.ex e2)⟩, h2 σ G1 H1 (n + k) _ (sl.st s1) w1 (by omega) fun y G3 H3 s3 w3 ⟨ey, _⟩ => ?_⟩
  subst ey
  refine ⟨_, .inl ⟨ws, Sum.inr s, .inl (w3.r.ex (s3 _ _ e2)), rfl, rfl⟩, ?_⟩
  have al3 := al.st s3
  cases q : kvs.lookup s with
  | some b =>
    obtain ⟨v, q1, q2⟩ := al3.val q
    rw [q1]
    refine kk v G3 H3 (s1.trans s3) (w3.eq (by omega)) ?_
    rw [q]
    exact q2
  | none =>
    rw [al3.valNone q]
    refine kk .non G3 H3 (s1.trans s3) (w3.eq (by omega)) ?_
    rw [q]
    rfl
/-- [x] * 2 -/
theorem eln_twice {a : α} (ha : EL W O k ta Rs (Lst e [a])) : ELN W O k (tOp L2.rRep ta (tC (.int 2))) Rs e [a, a] := eln_f1 (fun x => tOp L2.rRep x (tC (.int 2))) ha fun v σ G p => en_op (ev_cR' p) ev_int fun x y G1 H1 _ rr p q Q k => by
  obtain ⟨ad, vs, rfl, h1, h2, h3⟩ := p
  obtain rfl : y = _ := q
  have hlen := h3.len
  have : sizeLine = 16777216 := sizeLine_eq
  refine ⟨ad, 2, vs, rfl, rfl, rr.at h1 rfl, by decide, by decide, by rw [hlen, this]; show 1 * 2 ≤ 16777216; decide, fun p hp => ?_⟩
  refine k p (vs ++ vs) G1 _ (Go.own rr hp) hp (rr.free hp) ?_ ?_ (h3.app h3)
  · rw [upd_same]
    show some (HO.lst (List.replicate 2 vs).flatten) = _
    simp [List.replicate]
  · rw [List.length_append, hlen, this]; show 1 + 1 ≤ 16777216; decide
end
end Gd

-- part F1a
set_option Elab.async false
set_option linter.all false
set_option maxRecDepth 100000
set_option maxHeartbeats 1000000
/-! ### what the law meets; the debates' own == -/
namespace Gd
open PySem PySem.Spec PyProof.Rows L2
abbrev s_Debate_eq : Stmt := inClass (topS 22) 4
theorem sc_Debate_eq : FnScope ["self", "other"] ["self", "other"] (defScope s_Debate_eq) := ⟨rfl, rfl, rfl, by decide +kernel, rfl, by decide +kernel, by decide +kernel⟩
section
variable {P : Program} {w : World} {K : PySem.W.Frag} {mg : Str → Option Value} {base : Heap} {aL : Addr}
theorem hty_ins {C : Addr} {L : List (Str × SR)} (IC : C8.InsC K C) {v : V} {G H : Hp} {b : Bool} (r : Rel b G H) (h : (InsR C L).p v G) : TyX K H v (.ref C) := by
  obtain ⟨a, dx, fs, rfl, h2, _⟩ := h
  exact .base (.ins (r.at h2 rfl) IC.cl IC.ha IC.hn IC.htk IC.hm)
def DEq (K : PySem.W.Frag) (C : Addr) : Addr → Addr → Hp → Prop := fun a b H => ∃ d G, Rel true G H ∧ (DB K C d).p (.ref a) G ∧ (DB K C d).p (.ref b) G
theorem ok_Debate_eqD {C f : Addr} {fd : FuncData} (F : L2.Fun K "__eq__" "Debate.__eq__" s_Debate_eq f fd) (T : Txt K mg aL) (DC : DCls K C) (v_Debate : ∃ u, mg "Debate" = some u ∧ RelV (.ref C) u) (IC : C8.InsC K C) (hk : PySem.W.kitOne K (.ref C) (.ref C) = some true) : FnOk P w K mg base C8.CX0 5 f fd ["self", "other"] (spEq (DEq K C)) := by
  refine F.ok sc_Debate_eq (fun vs H Q E h => ?_) (fun cdv A outer s H vs Q E hr h => ?_)
  · obtain ⟨a, b, rfl, _⟩ := h
    rfl
  · obtain ⟨a, b, rfl, ⟨d, G, r, hu, hv⟩, q⟩ := h
    have hu64 := hu64_of hr
    refine ⟨_, (pss_cons (ps_if (pt_not (pt_val (pe_callB (call_isiKK (K := K)) rfl T.isinstance boot_isinstance (pa_cons (pv 1) (pa_cons (C8.pe_gc rfl v_Debate) pa_nil))))) (pss_one (ps_ret pe_bl)) pss_nil)
      (pss_one (ps_ret (pe_and (pe_cmpR (op_eqDK (K := K) hu64) (pe_fldK (K := K) (pv 0) rfl) (pe_fldK (K := K) (pv 1) rfl) (nomark _)) (pe_one (pe_cmpR (op_eqDK (K := K) hu64) (pe_fldK (K := K) (pv 0) rfl) (pe_fldK (K := K) (pv 1) rfl) (nomark _))))))), ?_⟩
    refine tq_ifF (EvT.eq (et_not (et_B (c := true) (fun G1 H1 a1 r1 Q k => ?_))) rfl) r fun G1 H1 g1 => ?_
    · exact ⟨_, rfl, .ref b, .ref C, .ref C, .ref C, true, rfl, .own C, hty_ins IC r1 ((DB K C d).st a1 hv), hk, k _ G1 H1 (Go.refl _ _) rfl⟩
    have hu1 := (DB K C d).st g1.g hu
    have hv1 := (DB K C d).st g1.g hv
    exact ts_ret (Ev.eq (R' := B true) (ev_and (ev_eqD (e := Lst S) (c := fun xs => .list (xs.map PyData.str)) (x := d.1) (y := d.1) (ev_dbS DC (ev_var (i := 0) rfl hu1)) (ev_dbS DC (ev_var (i := 1) rfl hv1)) (enc_lst enc_S) (eqE_lst eqE_S)) fun _ => ev_eqD (e := Lst (PP K)) (c := fun xs => .list (xs.map pT)) (x := d.2) (y := d.2) (ev_dbO DC (ev_var (i := 0) rfl hu1)) (ev_dbO DC (ev_var (i := 1) rfl hv1)) (enc_lst (enc_pr enc_S enc_S)) (eqE_lst (eqE_pr eqE_S eqE_S))) (by simp)) (g1.r _ r) fun u G2 H2 g2 p => by
      obtain rfl : u = .bl true := p
      exact q H2 (g1.h.trans g2.h)
/-! ### the odd things -/
inductive AtD (K : PySem.W.Frag) (C : Addr) : SR → Prop
  | n : AtD K C N
  | u (d : Deb) : AtD K C (DB K C d)
theorem atD_ok {C : Addr} (IC : C8.InsC K C) (hint : PySem.W.kitOne K (.ref C) (.type "int") = some false) (hlist : PySem.W.kitOne K (.ref C) (.type "list") = some false) (htup : PySem.W.kitOne K (.ref C) (.type "tuple") = some false) (hdict : PySem.W.kitOne K (.ref C) (.type "dict") = some false) : ∀ R, AtD K C R → AtOk K (DIns C (DEq K C)) R := fun R h => by
  cases h with
  | n => exact ⟨fun v b G H r p => ⟨.type "NoneType", .inl (hty_N v b G H r p), kit_ty (b := "int") (r := false) (by decide +kernel), kit_ty (b := "list") (r := false) (by decide +kernel), kit_ty (b := "tuple") (r := false) (by decide +kernel), kit_ty (b := "dict") (r := false) (by decide +kernel)⟩, fun u v G H r p q => .inl (by
      obtain rfl : u = .non := p
      obtain rfl : v = .non := q
      exact ⟨rfl, rfl⟩)⟩
  | u d => exact ⟨fun v b G H r p => ⟨.ref C, .inl (hty_ins IC r p), hint, hlist, htup, hdict⟩, fun u v G H r p q => .inr (.inl (by
      obtain ⟨a, dx, fs, rfl, h1, h2⟩ := id p
      obtain ⟨a', dx', fs', rfl, h1', h2'⟩ := id q
      exact ⟨a, a', dx, dx', fs, fs', rfl, rfl, r.at h1 rfl, r.at h1' rfl, d, G, r, p, q⟩))⟩
end
section
variable {K : PySem.W.Frag} {C : Addr}
theorem el_sameD {W : SC} {O : Own} {k m n : Nat} {Rs : RL} {R : SR} {ta tb : TE} {E : XK} {At' : SR → Prop} (h1 : EL W O k ta Rs R) (h2 : EL W O m tb Rs R) (hs : SmN K At' n R) : EL W O (k + (m + 0)) (tCall (sp_sameX K At' n) [] E (tCons ta (tCons tb tNil))) Rs (B true) := el_call (ι := SR) (pre := fun R : SR => [R, R]) (ok := SmN K At' n) (post := fun _ => B true) R (eal_cons h1 (eal_cons h2 eal_nil)) hs
theorem mkD_perm {ns ns' : List Str} {ps ps' : List (Str × Str)} (h1 : ns'.Perm ns) (h2 : ps'.Perm ps) : mkD (ns', ps') = mkD (ns, ps) := by
  unfold mkD
  rw [srt_congr alk_S eqE_S h1, srt_congr (alk_pr alk_S alk_S) (eqE_pr eqE_S eqE_S) h2]
theorem okD_perm {ns ns' : List Str} {ps ps' : List (Str × Str)} (h1 : ns'.Perm ns) (h2 : ps'.Perm ps) (h : okD (ns, ps)) : okD (ns', ps') := by
  obtain ⟨⟨a1, a2, a3⟩, a4, a5, a6⟩ := h
  exact ⟨⟨fun x hx => a1 x (h1.mem_iff.mp hx), h1.nodup_iff.mpr a2, by show ns'.length ≤ 1000; rw [h1.length_eq]; exact a3⟩, h2.nodup_iff.mpr a4, fun p hp => ⟨h1.mem_iff.mpr (a5 p (h2.mem_iff.mp hp)).1, h1.mem_iff.mpr (a5 p (h2.mem_iff.mp hp)).2⟩, by show ps'.length ≤ 10000; rw [h2.length_eq]; exact a6⟩
theorem el_mkDX {W : SC} {O : Own} {k : Nat} {Rs : RL} {ta : TA} {E : XK} {A : Type} {P : A → Prop} {f : A → Deb} {d : Deb} (ha : EG W O k ta Rs (fun vs G => ∃ a, P a ∧ AlR [Sq K S (f a).1, Sq K (Pq K) (f a).2] vs G)) (hi : ∀ a, P a → okD (f a) ∧ mkD (f a) = d) : EL W O k (tMake C (sp_initD K C W.tb) [] E ta) Rs (DB K C d) := fun σ G H n Q sl w hn kk =>
  ha σ G H n _ sl w hn fun vs G2 H2 s2 w2 ⟨a, pa, al⟩ => by
    obtain ⟨v, w', rfl, hv, hw⟩ := alr2 al
    obtain ⟨h1, h2⟩ := hi a pa
    intro x dx nx ndx hne
    refine ⟨f a, W.s, W.c, n + k, O, G2, x, v, w', rfl, w2.fresh (w2.go (Go.made w2.r nx ndx)) (Nw.of nx) (w2.r.free nx) upd_same rfl ⟨dx, [], rfl, Nat.le_refl _, fun q hq => by cases hq⟩, hn, h1, hv, hw, fun G3 H3 s3 w3 hu => ⟨rfl, ?_⟩⟩
    rw [h2] at hu
    exact kk _ G3 H3 (s2.trans s3) w3 hu
theorem eld_stages {W : SC} {O : Own} {k : Nat} {Rs : RL} {ta : TE} {E : XK} {d : Deb} (h : EL W O k ta Rs (DB K C d)) (hd : okB d) : ELD W O (k + 0) (tCall (sp_stages K C W.tb) [] E (tCons ta tNil)) Rs S (stagesP d) := eld_callm (ι := Deb) (pre := fun d => [DB K C d]) (ok := okB) (post := stagesP) d (eal_cons h eal_nil) hd
theorem elo_ranks {W : SC} {O : Own} {k : Nat} {Rs : RL} {ta : TE} {E : XK} {d : Deb} (h : EL W O k ta Rs (DB K C d)) (hd : okB d) : ELO W O (k + 0) (tCall (sp_known_ranks K C W.tb) [] E (tCons ta tNil)) Rs (ODct I (ranksP d)) := elo_callm (ι := Deb) (pre := fun d => [DB K C d]) (ok := okB) (post := fun d => ODct I (ranksP d)) d (eal_cons h eal_nil) hd
theorem el_rank {W : SC} {O : Own} {k m : Nat} {Rs : RL} {ta tb : TE} {E : XK} {d : Deb} {x : Str} (h : EL W O k ta Rs (DB K C d)) (h2 : EL W O m tb Rs (S x)) (hd : okB d) (hx : x ∈ d.1) : EL W O (k + (m + 0)) (tCall (sp_rank_of K C W.tb) [] E (tCons ta (tCons tb tNil))) Rs (Op I ((ranksP d).lookup x)) := el_callm (ι := Deb × Str) (pre := fun i => [DB K C i.1, S i.2]) (ok := fun i => okB i.1 ∧ i.2 ∈ i.1.1) (post := fun i => Op I ((ranksP i.1).lookup i.2)) (d, x) (eal_cons h (eal_cons h2 eal_nil)) ⟨hd, hx⟩
theorem el_made' {W : SC} {O : Own} {k : Nat} {Rs : RL} {ta : TE} {E : XK} {i : Deb} {j : Nat} (hs : Rs[j]? = some (some (cst (.ref W.s)))) (h : EL W O k ta Rs (DR K i)) (hi : okD i) : EL W O (k + 0 + (i.2.length + 2)) (tCall (sp_rk_made K C W.tb) [] E (tCons (tVar j) (tCons ta tNil))) Rs (DB K C (mkD i)) := el_calll (ι := Deb) (pre := fun i => [DR K i]) (ok := okD) (cost := fun i => i.2.length + 2) (post := fun i => DB K C (mkD i)) i hs (eal_cons h eal_nil) hi
theorem el_rkr {W : SC} {O : Own} {k m : Nat} {Rs : RL} {ta tb : TE} {E : XK} {ns : List Str} {ps : List (Str × Str)} (h : EL W O k ta Rs (Lst S ns)) (h2 : EL W O m tb Rs (Lst (PP K) ps)) (hn : okN ns) : EL W O (k + (m + 0)) (tCall (sp_rk_ranks K W.tb) [] E (tCons ta (tCons tb tNil))) Rs (Dct I (lranks ns ps)) := el_callm (ι := Deb) (pre := fun i => [Lst S i.1, Lst (PP K) i.2]) (ok := fun i => okN i.1) (post := fun i => Dct I (lranks i.1 i.2)) (ns, ps) (eal_cons h (eal_cons h2 eal_nil)) hn
theorem el_lstg {W : SC} {O : Own} {k m l : Nat} {Rs : RL} {ta tb tc : TE} {E : XK} {ns : List Str} {ps : List (Str × Str)} {rk : Rk} (h : EL W O k ta Rs (Lst S ns)) (h2 : EL W O m tb Rs (Lst (PP K) ps)) (h3 : EL W O l tc Rs (Dct I rk)) (hk : okF2 rk) : EL W O (k + (m + (l + 0))) (tCall (sp_law_stages K W.tb) [] E (tCons ta (tCons tb (tCons tc tNil)))) Rs (Lst (Lst S) (lstages ns rk)) := el_callm (ι := Deb × Rk) (pre := fun i => [Lst S i.1.1, Lst (PP K) i.1.2, Dct I i.2]) (ok := fun i => okF2 i.2) (post := fun i => Lst (Lst S) (lstages i.1.1 i.2)) ((ns, ps), rk) (eal_cons h (eal_cons h2 (eal_cons h3 eal_nil))) hk
theorem el_stps {W : SC} {O : Own} {k m : Nat} {Rs : RL} {ta tb : TE} {E : XK} {ps : List (Str × Str)} {rk : Rk} (h : EL W O k ta Rs (Lst (PP K) ps)) (h2 : EL W O m tb Rs (Dct I rk)) (hk : okF2 rk) (hs : StepsOk ps rk) (hl : ps.length ≤ 1000) : EL W O (k + (m + 0)) (tCall (sp_steps K) [] E (tCons ta (tCons tb tNil))) Rs (B true) := el_call (ι := List (Str × Str) × Rk) (pre := fun i => [Lst (PP K) i.1, Dct I i.2]) (ok := fun i => okF2 i.2 ∧ StepsOk i.1 i.2 ∧ i.1.length ≤ 1000) (post := fun _ => B true) (ps, rk) (eal_cons h (eal_cons h2 eal_nil)) ⟨hk, hs, hl⟩
theorem el_rkd {W : SC} {O : Own} {Rs : RL} {E : XK} {j : Nat} {z : Nat} (hs : Rs[j]? = some (some (cst (.ref W.s)))) (h1 : 0 < z) (h2 : z ≤ 9) : EL W O (0 + 0 + 1100) (tCall (sp_rk_debate K W.tb) [] E (tCons (tVar j) (tCons (tC (.int (z : Nat))) tNil))) Rs (ExR (fun i => okR z i ∧ 0 < i.1.length ∧ goodN i.1) (DR K)) := el_calll (ι := Nat) (pre := fun m => [I m]) (ok := fun m => 0 < m ∧ m ≤ 9) (cost := fun _ => 1100) (post := fun m => ExR (fun i => okR m i ∧ 0 < i.1.length ∧ goodN i.1) (DR K)) z hs (eal_cons el_int eal_nil) ⟨h1, h2⟩
theorem el_rkl {W : SC} {O : Own} {Rs : RL} {E : XK} {j : Nat} (hs : Rs[j]? = some (some (cst (.ref W.s)))) : EL W O (0 + 1000) (tCall (sp_rk_long K W.tb) [] E (tCons (tVar j) tNil)) Rs (ExR (okR 40) (DR K)) := el_calll (ι := Unit) (pre := fun _ => []) (ok := fun _ => True) (cost := fun _ => 1000) (post := fun _ => ExR (okR 40) (DR K)) () hs eal_nil trivial
end
end Gd

-- part L0
set_option Elab.async false
set_option linter.all false
set_option maxRecDepth 100000
set_option maxHeartbeats 1000000
/-! ### a list of one's own, lent while a new one is made; F(..).append(x) -/
namespace Gd
open PySem PySem.Spec PyProof.Rows L2
universe u
section
variable {K : PySem.W.Frag} {W : SC} {O : Own} {n k m : Nat} {G0 : Hp} {Rs : RL} {R : SR} {te ta tb to : TE} {t u : TS} {E : Ends} {α : Type} {e : α → SR} {ws : List α} {xs ys : List Str} {p : Addr} {i j : Nat}
theorem eln_lendS (hi : Rs[i]? = some (some (cst (.ref p)))) (h : ∀ F, ELN W (exAll F O) k te (Rs.set i (some (Lst S xs))) S ys) : ELN W ((p, OL S xs) :: O) k te Rs S ys := fun σ G H n Q sl w hn kk => by
  have w0 := w.exact
  obtain ⟨o, h1, ⟨h2a, h2⟩, s3, w3⟩ := w0.freeze
  refine h (fun a => (H a).getD (.lst [])) σ _ H n _ ((sl.st s3).conv hi fun v hv => ?_) w3 hn fun q G2 H2 s2 w2 => ?_
  · obtain rfl : v = .ref p := hv
    exact ol_lst o _ ((OL S xs).st s3 h2) upd_same
  · have sG : Same G G2 := s3.trans s2
    have hp2 : G2 p = some o := s2 _ _ upd_same
    have hmap : (exAll (fun a => (H a).getD (.lst [])) O).map (·.1) = O.map (·.1) := by
      unfold exAll
      rw [List.map_map]
      rfl
    obtain ⟨q1, q2, q3, oq, q4, q5, vs, rfl, q6, q7⟩ := w2.o _ (List.mem_cons_self ..)
    have q3 : G2 q = none := q3
    have hqp : q ≠ p := fun z => by rw [z, hp2] at q3; cases q3
    have hqO : q ∉ O.map (·.1) := by
      have := (List.nodup_cons.mp w2.nd).1
      rwa [hmap] at this
    have hqG : G q = none := by
      cases e : G q with
      | none => rfl
      | some u => have := sG _ _ e; rw [q3] at this; cases this
    refine kk q G H2 (Same.refl G) ⟨fun a u e => .inl (w2.r.ex (sG a u e)), w.nt, w2.tb, ?_, ?_, fun z hz => ?_⟩
    · obtain ⟨d1, d2, d3, d4⟩ := w2.d
      exact ⟨d1, w.d.gs, w.d.gc, d4⟩
    · refine List.nodup_cons.mpr ⟨fun hm => ?_, w.nd⟩
      rcases List.mem_cons.mp hm with hm | hm
      · exact hqp hm
      · exact hqO hm
    · rcases List.mem_cons.mp hz with rfl | hz
      · exact ⟨q1, q2, hqG, _, q4, q5, vs, rfl, q6, al_S q7⟩
      · obtain ⟨z1, z2, z3, ho, z4, z5, z6⟩ := w.o z hz
        refine ⟨z1, z2, z3, ho, ?_, z5, z6⟩
        rcases List.mem_cons.mp hz with rfl | hz
        · rw [h1] at z4
          cases z4
          exact w2.r.ex hp2
        · obtain ⟨_, _, _, ho', y4, _, y6, _⟩ := w2.o (z.1, exO ((H z.1).getD (.lst [])) z.2) (List.mem_cons_of_mem _ (List.mem_map.mpr ⟨z, hz, rfl⟩))
          rw [y4, y6, z4]
          rfl
/-- F(..).append(x): what F makes is new, and it is thrown away -/
theorem hl_lateN (h : ELO W O k to Rs (OL e ws)) (ha : ∀ p, EL W ((p, OL e ws) :: O) m te Rs R) (hl : ws.length ≤ 100000) (q : HL W G0 (n + (k + m)) O Rs u E) (hn : n + (k + m) ≤ 1000000 := by omega) : HL W G0 n O Rs (tSeq (tDrop (tBM K "list" rAppend to (tCons te tNil))) u) E := fun σ H ⟨G, s, sl, w⟩ => by
  refine h σ G H n _ sl w (by omega) fun p G1 H1 s1 w1 => ?_
  obtain ⟨_, _, _, o, w4, _, vs, rfl, _⟩ := w1.o _ (List.mem_cons_self ..)
  refine ⟨.inl ⟨rfl, vs, SqL.of w4⟩, ?_⟩
  show te σ H1 _
  refine ha p σ G1 H1 (n + k) _ (sl.st s1) w1 (by omega) fun v G2 H2 s2 w2 pv => ?_
  obtain ⟨_, _, _, o, z4, _, us, rfl, _, al⟩ := w2.o _ (List.mem_cons_self ..)
  have := al.len
  have : sizeLine = 16777216 := sizeLine_eq
  have w3 : Wd W (n + (k + m)) ((p, ⟨fun _ _ => True, fun _ h => h⟩) :: O) G2 (upd H2 p (.lst (us ++ [v]))) := (w2.eq (by omega)).put (fun u ⟨_, e, _⟩ => by rw [e]; rfl) rfl trivial
  exact ⟨p, us, v, rfl, rfl, z4, by omega, q _ _ ⟨G2, (s.trans s1).trans s2, sl.st (s1.trans s2), w3.drop (List.sublist_cons_self ..)⟩⟩
theorem hl_retOD {Ro : OR} (hi : Rs[i]? = some (some (cst (.ref p)))) (q : ∀ G H, Same G0 G → Wd W n ((p, Ro) :: O) G H → E.rt (.ref p) H) : HL W G0 n ((p, Ro) :: O) Rs (tRet (tVar i)) E := fun σ H ⟨G, s, sl, w⟩ => by
  obtain ⟨v, h1, h2⟩ := sl.get i _ hi
  obtain rfl : v = .ref p := h2
  exact ⟨_, h1, q G H s w⟩
theorem eln_dropL {lo : Nat} (ha : EL W O k ta Rs (Lst e ws)) (hb : EL W O m tb Rs (I (lo : Nat))) : ELN W O (k + m) (tSl (rSlL K) ta (tPart tb) tNoPart) Rs e (ws.drop lo) := eln_f2 (fun a b => tSl (rSlL K) a (tPart b) tNoPart) ha hb fun _ _ _ _ p q => en_dropL (ev_cR' p) (eo_some (ev_cR' q))
theorem el_idS (ha : EL W O k ta Rs (Lst S xs)) : EL W O k ta Rs (Lst (fun R : SR => R) (xs.map S)) := ha.is fun _ _ p => lst_conv (f := fun R : SR => R) (c := S) (fun _ _ h => h) p
end
end Gd

-- part L1
set_option Elab.async false
set_option linter.all false
set_option maxRecDepth 100000
set_option maxHeartbeats 1000000
/-! ### checked_lot, answered, least_lot -/
namespace Gd
open PySem PySem.Spec PyProof.Rows L2
universe u
abbrev s_BadLot_init : Stmt := inClass (topS 2) 0
theorem sc_BadLot_init : FnScope ["self", "index"] ["self", "index"] (defScope s_BadLot_init) := ⟨rfl, rfl, rfl, by decide +kernel, rfl, by decide +kernel, by decide +kernel⟩
abbrev s_checked_lot : Stmt := topS 13
theorem sc_checked_lot : FnScope ["debate", "lot", "index", "thing"] ["debate", "lot"] (defScope s_checked_lot) := ⟨rfl, rfl, rfl, by decide +kernel, rfl, by decide +kernel, by decide +kernel⟩
abbrev s_answered : Stmt := topS 16
theorem sc_answered : FnScope ["debate", "lot"] ["debate", "lot"] (defScope s_answered) := ⟨rfl, rfl, rfl, by decide +kernel, rfl, by decide +kernel, by decide +kernel⟩
abbrev s_least_lot : Stmt := topS 17
theorem sc_least_lot : FnScope ["debate", "members", "later"] ["debate"] (defScope s_least_lot) := ⟨rfl, rfl, rfl, by decide +kernel, rfl, by decide +kernel, by decide +kernel⟩
/-- the lots that go up from nothing -/
def upD (d : Deb) : Nat → List Str
  | 0 => []
  | n + 1 => ansP d (upD d n)
def leastP (d : Deb) : List Str := upD d (d.1.length + 1)
theorem upD_up {d : Deb} : ∀ n, ∀ x ∈ upD d n, x ∈ upD d (n + 1)
  | 0, x, h => by cases h
  | n + 1, x, h => ansP_mono (upD_up n) h
theorem upD_sub {d : Deb} : ∀ {n x}, x ∈ upD d n → x ∈ d.1
  | 0, _, h => by cases h
  | _ + 1, _, h => ansP_sub h
theorem upD_nodup {d : Deb} (nd : d.1.Nodup) : ∀ n, (upD d n).Nodup
  | 0 => List.nodup_nil
  | _ + 1 => ansP_nodup nd _
theorem upD_len {d : Deb} : ∀ n, (upD d n).length ≤ d.1.length
  | 0 => Nat.zero_le _
  | _ + 1 => ansP_len _
theorem upD_grow {d : Deb} : ∀ {n}, upD d (n + 1) ≠ upD d n → (upD d n).length < (upD d (n + 1)).length
  | 0, h => by
    cases e : upD d 1 with
    | nil => exact absurd e h
    | cons x xs => exact Nat.succ_pos _
  | n + 1, h => ansP_grow (upD_up n) h
theorem upD_fix {d : Deb} {n : Nat} (h : upD d (n + 1) = upD d n) : ∀ k, upD d (n + k) = upD d n
  | 0 => rfl
  | k + 1 => by
    show ansP d (upD d (n + k)) = _
    rw [upD_fix h k]
    exact h
theorem leastP_of {d : Deb} {n : Nat} (h : upD d (n + 1) = upD d n) (hn : n ≤ d.1.length + 1) : leastP d = upD d n := by
  unfold leastP
  rw [show d.1.length + 1 = n + (d.1.length + 1 - n) by omega]
  exact upD_fix h _
theorem upD_mk {ns : List Str} {ps : List (Str × Str)} : ∀ n, upD (mkD (ns, ps)) (n + 1) = stg ns ps n
  | 0 => ansP_mk ns ps []
  | n + 1 => by
    show ansP _ (upD _ (n + 1)) = aP ns ps (stg ns ps n)
    rw [upD_mk n]
    exact ansP_mk ns ps _
theorem leastP_mk {ns : List Str} {ps : List (Str × Str)} : leastP (mkD (ns, ps)) = grd ns ps := by
  unfold leastP grd
  rw [show (mkD (ns, ps)).1.length = ns.length from srt_len PyData.str ns]
  exact upD_mk _
/-- what is no lot, and where -/
def NoSeqY (K : PySem.W.Frag) (R : SR) : Prop := ∀ v b G H, Rel b G H → R.p v G → ∃ tt, TyY K H v tt ∧ PySem.W.kitAny K tt [.type "list", .type "tuple"] = some false
inductive BadL (K : PySem.W.Frag) (cs : List Str) : SR → Nat → Prop
  | seq (R : SR) : NoSeqY K R → BadL K cs R 0
  | out (xs : List Str) (R : SR) (rest : List SR) : xs.Nodup → (∀ x ∈ xs, x ∈ cs) → (StX K cs R ∨ ∃ z, R = S z ∧ z ∈ xs) → BadL K cs (Lst (fun R : SR => R) (xs.map S ++ R :: rest)) xs.length
section
variable {P : Program} {w : World} {K : PySem.W.Frag} {mg : Str → Option Value} {base : Heap} {aL : Addr} {Tb : List (Addr × Str)}
theorem ok_BadLot_init {C f : Addr} {fd : FuncData} (F : L2.Fun K "__init__" "BadLot.__init__" s_BadLot_init f fd) (hC : OexC K C) (hn : PySem.W.findIn K (.ref C) "index" = some none) : FnOk P w K mg base C8.CX0 1 f fd ["self", "index"] (sp_exI C "index") := by
  refine F.ok sc_BadLot_init (fun vs H Q E h => ?_) (fun cdv A outer s H vs Q E hr h => ?_)
  · obtain ⟨a, y, rfl, _⟩ := h
    rfl
  · obtain ⟨a, y, rfl, h⟩ := h
    exact ⟨_, (pss_one (ps_ost (pv 0) (pv 1))), ts_exI (D := { nx := fun _ H' => Q .non H', rt := Q }) hC hn h⟩
def sp_is_listY (K : PySem.W.Frag) : Sp := spF false (fun R : SR => [R]) (NoSeqY K) (fun _ => B false)
theorem ok_is_listY (F : Fn K mg "is_list" s_is_list ["thing"]) (T : Txt K mg aL) : C8.Cal P w K mg base 1 "is_list" (sp_is_listY K) [] := by
  refine cal_of F sc_is_list (fun vs H Q E h => spF_len h fun _ => rfl) (fun f cdv A outer s H vs Q E hr h => ?_)
  obtain ⟨R, G, v, rfl, r, hn, hv, k⟩ := sp1 h fun _ => rfl
  refine ⟨_, (pss_one (ps_ret (pe_callB (call_isiTY (K := K)) rfl T.isinstance boot_isinstance (pa_cons (pv 0) (pa_cons (pe_tup (pa_cons (pe_bltn (v := .ty "list") rfl T.list boot_list rfl) (pa_cons (pe_bltn (v := .ty "tuple") rfl T.tuple boot_tuple rfl) pa_nil))) pa_nil))))), ?_⟩
  exact ts_ret (ev_isiTY2 (ev_var rfl hv) hn) r k
def sp_checked_lot (K : PySem.W.Frag) (C : Addr) (Tb : List (Addr × Str)) : Sp := spMO Tb (fun i : Deb × List Str => [DB K C i.1, Sq K S i.2]) okM (fun i => OL S (srt PyData.str i.2))
theorem ok_checked_lot {C : Addr} (F : Fn K mg "checked_lot" s_checked_lot ["debate", "lot"]) (T : Txt K mg aL) (DC : DCls K C) (c_is_list : C8.Cal P w K mg base 1 "is_list" (sp_is_list K) []) : C8.Cal P w K mg base 2 "checked_lot" (sp_checked_lot K C Tb) [] := by
  refine cal_of F sc_checked_lot (fun vs H Q E h => spMO_len h fun _ => rfl) (fun f cdv A outer s H vs Q E hr h => ?_)
  have hu := hu_of hr
  have hu64 := hu64_of hr
  obtain ⟨⟨d, ms⟩, st, c, n, O, G, w0, hn, ⟨hd, hm, nd⟩, al, k⟩ := h
  have nd : ms.Nodup := nd
  have hm : ∀ x ∈ ms, x ∈ d.1 := hm
  refine ⟨_, (pss_cons (ps_if (pt_not (pt_val (C8.pe_c c_is_list hr (by first | decide | omega) rfl (pa_cons (pv 1) pa_nil)))) (pss_one ps_never) pss_nil)
      (pss_cons (ps_for PassesOwn.never rfl (pi_enumK (K := K) rfl T.enumerate (pa_cons (pv 1) pa_nil)) (pg_tupK (K := K) (n := 2) rfl (pgs_cons (pg_name (i := 2) sc_checked_lot.nd rfl (by first | exact Or.inl rfl | exact Or.inr rfl)) (pgs_cons (pg_name (i := 3) sc_checked_lot.nd rfl (by first | exact Or.inl rfl | exact Or.inr rfl)) pgs_nil))) (pss_one (ps_if (PW.pt (pw_or (pt_not (pt_val (pe_callB (call_isiKK (K := K)) rfl T.isinstance boot_isinstance (pa_cons (pv 3) (pa_cons (pe_bltn (v := .ty "str") rfl T.str boot_str rfl) pa_nil))))) (pw_or (pt_cmp (pc_dnotin hu (pv 3) (pe_fldK (K := K) (pv 0) rfl))) (pw_or1 (pt_cmpR (op_inK (K := K)) (pv 3) (pe_slice (sl_qK (K := K)) (pv 1) po_none (po_some (pv 2))) (by with_unfolding_all rfl)))))) (pss_one ps_never) pss_nil)))
      (pss_one (ps_ret (pe_callB (call_srtK (K := K) hu64) rfl T.sorted boot_sorted (pa_cons (pv 1) pa_nil)))))), ?_⟩
  refine (?_ : HL ⟨st, c, Tb⟩ G n O [some (DB K C d), some (Sq K S ms), none, none] _ _) _ _ ⟨G, Same.refl G, by have h := slots_start (N := ["debate", "lot", "index", "thing"]) al; rw [alr_len al] at h; exact h, w0⟩
  refine hl_ifF (k := 0) (ETL.eq (etl_not (etl_B (el_call () (eal_cons ((el_var (i := 1) rfl).is fun _ _ q => sqv_of' q) eal_nil) trivial))) rfl) ?_
  refine hl_for (k := 0) (e := Pr K I S) (xs := enumI ms) (δ := Unit) (fun _ _ => True) (fun _ => O) (fun _ => [some (DB K C d), some (Sq K S ms), none, none]) 0 (eil_enum (el_var (i := 1) rfl)) () trivial rfl (fun G => (.eq (.eq (.no (.no .nil))))) ?_ ?_ (by omega)
  · rintro i ⟨j, x⟩ dd E' G1 hp _ hrt s1 kn hn1
    obtain ⟨rfl, hpi⟩ := enumI_get hp
    refine ⟨_, _, gl_pr gl_name gl_name, ?_⟩
    dsimp only [List.set]
    have hx : x ∈ d.1 := hm x (List.mem_of_getElem? hpi)
    have hpn : x ∉ ms.take i := nodup_take nd hpi
    refine hl_last ?_
    refine hl_ifF (k := 0) (ETL.eq (etl_or (k := 0) (m := 0) (etl_not (etl_B (el_isi (r := true) hty_S (el_var (i := 3) rfl)))) fun _ => etl_or (k := 0) (m := 0) (etl_test (el_notinK (el_var (i := 3) rfl) (el_ks (el_dbT DC (el_var (i := 0) rfl))))) fun _ => etl_test (el_in (el_var (i := 3) rfl) (el_takeQ (k := 0) (m := 0) (el_var (i := 1) rfl) (el_var (i := 2) rfl)))) ?_) ?_
    · rw [dbT_ks]
      simp [hx, hpn]
    · exact hl_nx fun σ H a => kn () σ H trivial ((a.weak fun G => (.eq (.eq (.no (.no .nil))))).le (by omega))
  · rintro _ _
    exact hl_retN (k := 0) (eln_sortedS (el_var (i := 1) rfl)) fun p G2 H2 s2 w2 => k p G2 H2 s2 (w2.le (by omega))
def sp_checked_lotX (K : PySem.W.Frag) (C CB : Addr) (Tb : List (Addr × Str)) : Sp := spXM Tb (fun i : Deb × SR × Nat => [DB K C i.1, i.2.1]) (fun i => BadL K i.1.1 i.2.1 i.2.2) CB "index" (fun i => I (i.2.2 : Nat))
theorem ox_checked_lot {C CB : Addr} (F : Fn K mg "checked_lot" s_checked_lot ["debate", "lot"]) (T : Txt K mg aL) (DC : DCls K C) (e_BadLot : ExC P w K mg base "BadLot" CB "index") (c_is_list : C8.Cal P w K mg base 1 "is_list" (sp_is_list K) []) (c_is_listN : C8.Cal P w K mg base 1 "is_list" (sp_is_listY K) []) : CalX P w K mg base 3 "checked_lot" ["debate", "lot"] (sp_checked_lotX K C CB Tb) := by
  refine calX_of F sc_checked_lot (fun vs H Q E h => spXM_len h fun _ => rfl) (fun f cdv A outer s H vs Q E hr h => ?_)
  have hu := hu_of hr
  have hu64 := hu64_of hr
  obtain ⟨⟨d, R, m⟩, st, c, n, O, G, w0, hn, hB, al, k⟩ := h
  have hB : BadL K d.1 R m := hB
  have a0 : At ⟨st, c, Tb⟩ G n O [some (DB K C d), some R, none, none] _ _ := ⟨G, Same.refl G, by have h := slots_start (N := ["debate", "lot", "index", "thing"]) al; rw [alr_len al] at h; exact h, w0⟩
  cases hB with
  | seq _ hn' =>
    refine ⟨_, (pss_cons (ps_if (pt_not (pt_val (C8.pe_c c_is_listN hr (by first | decide | omega) rfl (pa_cons (pv 1) pa_nil)))) (pss_one (ps_raise rfl (takes_of rfl rfl rfl rfl) (pmk_exc e_BadLot hr (by first | decide | omega) rfl (pa_cons pe_int pa_nil)))) pss_nil)
      (pss_cons (ps_for (passes_of rfl) rfl (pi_enumK (K := K) rfl T.enumerate (pa_cons (pv 1) pa_nil)) (pg_tupK (K := K) (n := 2) rfl (pgs_cons (pg_name (i := 2) sc_checked_lot.nd rfl (by first | exact Or.inl rfl | exact Or.inr rfl)) (pgs_cons (pg_name (i := 3) sc_checked_lot.nd rfl (by first | exact Or.inl rfl | exact Or.inr rfl)) pgs_nil))) (pss_one (ps_if (PW.pt (pw_or (pt_not (pt_val (pe_callB (call_isiKK (K := K)) rfl T.isinstance boot_isinstance (pa_cons (pv 3) (pa_cons (pe_bltn (v := .ty "str") rfl T.str boot_str rfl) pa_nil))))) (pw_or (pt_cmp (pc_dnotin hu (pv 3) (pe_fldK (K := K) (pv 0) rfl))) (pw_or1 (pt_cmpR (op_inK (K := K)) (pv 3) (pe_slice (sl_qK (K := K)) (pv 1) po_none (po_some (pv 2))) (by with_unfolding_all rfl)))))) (pss_one (ps_raise rfl (takes_of rfl rfl rfl rfl) (pmk_exc e_BadLot hr (by first | decide | omega) rfl (pa_cons (pv 2) pa_nil)))) pss_nil)))
      (pss_one (ps_ret (pe_callB (call_srtK (K := K) hu64) rfl T.sorted boot_sorted (pa_cons (pv 1) pa_nil)))))), ?_⟩
    refine (?_ : HL ⟨st, c, Tb⟩ G n O [some (DB K C d), some R, none, none] _ _) _ _ a0
    refine hl_ifT (k := 0) (ETL.eq (etl_not (etl_B (el_call (ι := SR) R (eal_cons (el_var (i := 1) rfl) eal_nil) hn'))) rfl) ?_
    exact fun σ' H' a' => mkO_L (k := 0) (el_int (i := 0)) a' (by omega) fun z dd G3 H3 s3 w3 hz hd => k z dd G3 H3 s3 (w3.le (by omega)) hz hd
  | out xs R2 rest nd hs hA =>
    refine ⟨_, (pss_cons (ps_if (pt_not (pt_val (C8.pe_c c_is_list hr (by first | decide | omega) rfl (pa_cons (pv 1) pa_nil)))) (pss_one (ps_raise rfl (takes_of rfl rfl rfl rfl) (pmk_exc e_BadLot hr (by first | decide | omega) rfl (pa_cons pe_int pa_nil)))) pss_nil)
      (pss_cons (ps_for (passes_of rfl) rfl (pi_enumK (K := K) rfl T.enumerate (pa_cons (pv 1) pa_nil)) (pg_tupK (K := K) (n := 2) rfl (pgs_cons (pg_name (i := 2) sc_checked_lot.nd rfl (by first | exact Or.inl rfl | exact Or.inr rfl)) (pgs_cons (pg_name (i := 3) sc_checked_lot.nd rfl (by first | exact Or.inl rfl | exact Or.inr rfl)) pgs_nil))) (pss_one (ps_if (PW.pt (pw_or (pt_not (pt_val (pe_callB (call_isiY (K := K)) rfl T.isinstance boot_isinstance (pa_cons (pv 3) (pa_cons (pe_bltn (v := .ty "str") rfl T.str boot_str rfl) pa_nil))))) (pw_or (pt_cmp (pc_dnotin hu (pv 3) (pe_fldK (K := K) (pv 0) rfl))) (pw_or1 (pt_cmpR (op_inK (K := K)) (pv 3) (pe_slice (sl_qK (K := K)) (pv 1) po_none (po_some (pv 2))) (by with_unfolding_all rfl)))))) (pss_one (ps_raise rfl (takes_of rfl rfl rfl rfl) (pmk_exc e_BadLot hr (by first | decide | omega) rfl (pa_cons (pv 2) pa_nil)))) pss_nil)))
      (pss_one (ps_ret (pe_callB (call_srtK (K := K) hu64) rfl T.sorted boot_sorted (pa_cons (pv 1) pa_nil)))))), ?_⟩
    have hit : ∀ i, i ≤ xs.length → (xs.map S ++ R2 :: rest).take i = (xs.take i).map S := fun i hi => by
      rw [List.take_append_of_le_length (by rw [List.length_map]; exact hi), List.map_take]
    have elen : (enumI (xs.map S ++ R2 :: rest)).length = xs.length + (rest.length + 1) := by
      rw [enumI_len, List.length_append, List.length_map, List.length_cons]
    refine (?_ : HL ⟨st, c, Tb⟩ G n O [some (DB K C d), some (Lst (fun R : SR => R) (xs.map S ++ R2 :: rest)), none, none] _ _) _ _ a0
    refine hl_ifF (k := 0) (ETL.eq (etl_not (etl_B (el_call () (eal_cons ((el_var (i := 1) rfl).is fun _ _ q => sqv_id q) eal_nil) trivial))) rfl) ?_
    refine hl_for (k := 0) (e := Pr K I (fun R : SR => R)) (xs := enumI (xs.map S ++ R2 :: rest)) (δ := Unit) (fun i _ => i ≤ xs.length) (fun _ => O) (fun _ => [some (DB K C d), some (Lst (fun R : SR => R) (xs.map S ++ R2 :: rest)), none, none]) 0 (eil_enum (el_sqL (el_var (i := 1) rfl))) () (Nat.zero_le _) rfl (fun G => (.eq (.eq (.no (.no .nil))))) ?_ ?_ (by omega)
    · rintro i ⟨j, R3⟩ dd E' G1 hp hi hrt s1 kn hn1
      obtain ⟨rfl, hxi⟩ := enumI_get hp
      have hxi : (xs.map S ++ R2 :: rest)[i]? = some R3 := hxi
      refine ⟨_, _, gl_pr gl_name gl_name, ?_⟩
      dsimp only [List.set]
      refine hl_last ?_
      have known : ∀ z, R3 = S z → z ∈ d.1 → ETL ⟨st, c, Tb⟩ O 0 (tOr (tNot (tB (tCB (rIsiY K) (tCons (tVar 3) (tCons (tC (V.ty "str")) tNil))))) (tOr (tTest (tDNotIn (tVar 3) (tFld K (tVar 0) "own_objectors"))) (tTest (tOp (rIn K false) (tVar 3) (tSl (rSlA2 K) (tVar 1) tNoPart (tPart (tVar 2))))))) [some (DB K C d), some (Lst (fun R : SR => R) (xs.map S ++ R2 :: rest)), some (I (i : Nat)), some R3] (decide (z ∈ xs.take i)) := fun z e hz => by
        subst e
        refine ETL.eq (etl_or (k := 0) (m := 0) (etl_not (etl_B (el_f1 (fun a => tCB (rIsiY K) (tCons a (tCons (tC (.ty "str")) tNil))) (el_var (i := 3) rfl) fun _ _ _ p => ev_isiY (r := true) (ev_cR' p) (tyY_ty hty_S)))) fun _ => etl_or (k := 0) (m := 0) (etl_test (el_notinK (el_var (i := 3) rfl) (el_ks (el_dbT DC (el_var (i := 0) rfl))))) fun _ => etl_test (el_in (xs := xs.take i) (el_var (i := 3) rfl) ((el_takeQ (k := 0) (m := 0) (el_sqL (el_var (i := 1) rfl)) (el_var (i := 2) rfl)).is fun u G9 p => ?_))) ?_
        · rw [hit i hi] at p
          exact sq_texts p
        · rw [dbT_ks]
          simp [hz]
      by_cases hlt : i < xs.length
      · have e : R3 = S xs[i] := by
          rw [List.getElem?_append_left (by rw [List.length_map]; exact hlt), List.getElem?_map, List.getElem?_eq_getElem hlt] at hxi
          exact (Option.some.inj hxi).symm
        have hn : xs[i] ∉ xs.take i := nodup_take nd (List.getElem?_eq_getElem hlt)
        refine hl_ifF (k := 0) (ETL.eq (known _ e (hs _ (List.getElem_mem hlt))) (by simp [hn])) ?_
        exact hl_nx fun σ H a => kn () σ H hlt ((a.weak fun G => (.eq (.eq (.no (.no .nil))))).le (by omega))
      · have ei : i = xs.length := by omega
        subst ei
        have e : R3 = R2 := by
          rw [List.getElem?_append_right (by rw [List.length_map]; exact Nat.le_refl _), List.length_map, Nat.sub_self] at hxi
          exact (Option.some.inj hxi).symm
        refine hl_ifT (k := 0) ?_ ?_
        · rcases hA with hA | ⟨z, ez, hz⟩
          · cases hA with
            | no s hs' =>
              subst e
              exact ETL.eq (etl_or (k := 0) (m := 0) (etl_not (etl_B (el_f1 (fun a => tCB (rIsiY K) (tCons a (tCons (tC (.ty "str")) tNil))) (el_var (i := 3) rfl) fun _ _ _ p => ev_isiY (r := true) (ev_cR' p) (tyY_ty hty_S)))) fun _ => etl_or (k := 0) (m := 0) (d := false) (etl_test (el_notinK (el_var (i := 3) rfl) (el_ks (el_dbT DC (el_var (i := 0) rfl))))) fun h => by rw [dbT_ks] at h; simp [hs'] at h) (by rw [dbT_ks]; simp [hs'])
            | odd _ h =>
              subst e
              exact ETL.eq (etl_or (k := 0) (m := 0) (d := true) (etl_not (etl_B (el_f1 (fun a => tCB (rIsiY K) (tCons a (tCons (tC (.ty "str")) tNil))) (el_var (i := 3) rfl) fun _ _ _ p => ev_isiY (r := false) (ev_cR' p) h))) fun h => by cases h) rfl
          · exact ETL.eq (known z (by rw [e, ez]) (hs z hz)) (by rw [List.take_length]; simp [hz])
        · exact fun σ' H' a' => mkO_L (k := 0) (el_var (i := 2) rfl) a' (by omega) fun z dd G3 H3 s3 w3 hz hd => k z dd G3 H3 (s1.trans s3) (w3.le (by omega)) hz hd
    · rintro _ hi
      have hi : (enumI (xs.map S ++ R2 :: rest)).length ≤ xs.length := hi
      rw [elen] at hi
      omega
theorem eln_clot {C : Addr} {W : SC} {O : Own} {k m : Nat} {Rs : RL} {ta tb : TE} {E : XK} {d : Deb} {ms : List Str} (h1 : EL W O k ta Rs (DB K C d)) (h2 : EL W O m tb Rs (Sq K S ms)) (hok : okM (d, ms)) : ELN W O (k + (m + 0)) (tCall (sp_checked_lot K C W.tb) [] E (tCons ta (tCons tb tNil))) Rs S (srt PyData.str ms) := elo_callm (ι := Deb × List Str) (pre := fun i => [DB K C i.1, Sq K S i.2]) (ok := okM) (post := fun i => OL S (srt PyData.str i.2)) (d, ms) (eal_cons h1 (eal_cons h2 eal_nil)) hok
def sp_answered (K : PySem.W.Frag) (C : Addr) (Tb : List (Addr × Str)) : Sp := spMO Tb (fun i : Deb × List Str => [DB K C i.1, Sq K S i.2]) okM (fun i => OL S (ansP i.1 (srt PyData.str i.2)))
theorem ok_answered {C : Addr} (F : Fn K mg "answered" s_answered ["debate", "lot"]) (T : Txt K mg aL) (DC : DCls K C) (c_answered_in : C8.Cal P w K mg base 2 "answered_in" (sp_answered_in K C) []) (c_checked_lot : C8.Cal P w K mg base 2 "checked_lot" (sp_checked_lot K C Tb) []) : C8.Cal P w K mg base 3 "answered" (sp_answered K C Tb) [] := by
  refine cal_of F sc_answered (fun vs H Q E h => spMO_len h fun _ => rfl) (fun f cdv A outer s H vs Q E hr h => ?_)
  obtain ⟨⟨d, ms⟩, st, c, n, O, G, w0, hn, hok, al, k⟩ := h
  obtain ⟨hd, hm, nd⟩ := id hok
  have nd : ms.Nodup := nd
  have hm : ∀ x ∈ ms, x ∈ d.1 := hm
  refine ⟨_, (pss_one (ps_ret (C8.pe_c c_answered_in hr (by first | decide | omega) rfl (pa_cons (pv 0) (pa_cons (C8.pe_c c_checked_lot hr (by first | decide | omega) rfl (pa_cons (pv 0) (pa_cons (pv 1) pa_nil))) pa_nil))))), ?_⟩
  refine (?_ : HL ⟨st, c, Tb⟩ G n O [some (DB K C d), some (Sq K S ms)] _ _) _ _ ⟨G, Same.refl G, by have h := slots_start (N := ["debate", "lot"]) al; rw [alr_len al] at h; exact h, w0⟩
  exact hl_retN (k := 0) (eln_call (ι := Deb × List Str) (post := fun i => ansP i.1 i.2) (d, srt PyData.str ms) (eal_cons (el_var (i := 0) rfl) (eal_cons (el_sqL (ELN.el (eln_clot (W := ⟨st, c, Tb⟩) (el_var (i := 0) rfl) (el_var (i := 1) rfl) hok))) eal_nil)) ⟨hd, fun m hm' => hm m (mem_srt.mp hm'), srt_nodup.mpr nd⟩) fun p G2 H2 s2 w2 => k p G2 H2 s2 (w2.le (by omega))
def sp_answeredX (K : PySem.W.Frag) (C CB : Addr) (Tb : List (Addr × Str)) : Sp := spXM Tb (fun i : Deb × SR × Nat => [DB K C i.1, i.2.1]) (fun i => BadL K i.1.1 i.2.1 i.2.2) CB "index" (fun i => I (i.2.2 : Nat))
theorem ox_answered {C CB : Addr} (F : Fn K mg "answered" s_answered ["debate", "lot"]) (T : Txt K mg aL) (DC : DCls K C) (c_answered_in : C8.Cal P w K mg base 2 "answered_in" (sp_answered_in K C) []) (x_checked_lot : CalX P w K mg base 3 "checked_lot" ["debate", "lot"] (sp_checked_lotX K C CB Tb)) : CalX P w K mg base 4 "answered" ["debate", "lot"] (sp_answeredX K C CB Tb) := by
  refine calX_of F sc_answered (fun vs H Q E h => spXM_len h fun _ => rfl) (fun f cdv A outer s H vs Q E hr h => ?_)
  obtain ⟨⟨d, R, m⟩, st, c, n, O, G, w0, hn, hB, al, k⟩ := h
  have hB : BadL K d.1 R m := hB
  have a0 : At ⟨st, c, Tb⟩ G n O [some (DB K C d), some R] _ _ := ⟨G, Same.refl G, by have h := slots_start (N := ["debate", "lot"]) al; rw [alr_len al] at h; exact h, w0⟩
  refine ⟨_, (pss_one (ps_ret (C8.pe_c c_answered_in hr (by first | decide | omega) rfl (pa_cons (pv 0) (pa_cons (pe_cx x_checked_lot hr (by first | decide | omega) rfl (passes_call (takes_of rfl rfl rfl rfl) (fun _ _ _ _ h => h)) (pa_cons (pv 0) (pa_cons (pv 1) pa_nil))) pa_nil))))), ?_⟩
  obtain ⟨G', _, sl, _⟩ := id a0
  obtain ⟨v, h1, _⟩ := sl.get 0 _ rfl
  refine ⟨v, h1, ?_⟩
  exact xr_callM (W := ⟨st, c, Tb⟩) (ι := Deb × SR × Nat) (val := fun i => I (i.2.2 : Nat)) (d, R, m) (eal_cons (el_var (i := 0) rfl) (eal_cons (el_var (i := 1) rfl) eal_nil)) hB a0 (by omega) fun v e G2 H2 s2 w2 pv hd => k v e G2 H2 s2 (w2.le (by omega)) pv hd
def sp_least_lot (K : PySem.W.Frag) (C : Addr) (Tb : List (Addr × Str)) : Sp := spMO Tb (fun d : Deb => [DB K C d]) okB (fun d => OL S (leastP d))
theorem ok_least_lot {C : Addr} (F : Fn K mg "least_lot" s_least_lot ["debate"]) (T : Txt K mg aL) (c_answered_in : C8.Cal P w K mg base 2 "answered_in" (sp_answered_in K C) []) : C8.Cal P w K mg base 3 "least_lot" (sp_least_lot K C Tb) [] := by
  refine cal_of F sc_least_lot (fun vs H Q E h => spMO_len h fun _ => rfl) (fun f cdv A outer s H vs Q E hr h => ?_)
  have hu64 := hu64_of hr
  obtain ⟨d, st, c, n, O, G, w0, hn, hd, al, k⟩ := h
  refine ⟨_, (pss_cons (ps_set (i := 1) sc_least_lot.nd rfl (by first | exact Or.inl rfl | exact Or.inr rfl) (pe_lst pa_nil))
      (pss_one (ps_while PassesOwn.never (pt_val pe_bl) (pss_cons (ps_set (i := 2) sc_least_lot.nd rfl (by first | exact Or.inl rfl | exact Or.inr rfl) (C8.pe_c c_answered_in hr (by first | decide | omega) rfl (pa_cons (pv 0) (pa_cons (pv 1) pa_nil))))
      (pss_cons (ps_if (pt_cmpR (op_eqDK (K := K) hu64) (pv 2) (pv 1) (nomark _)) (pss_one (ps_ret (pv 1))) pss_nil)
      (pss_one (ps_set (i := 1) sc_least_lot.nd rfl (by first | exact Or.inl rfl | exact Or.inr rfl) (pv 2)))))))), ?_⟩
  refine (?_ : HL ⟨st, c, Tb⟩ G n O [some (DB K C d), none, none] _ _) _ _ ⟨G, Same.refl G, by have h := slots_start (N := ["debate", "members", "later"]) al; rw [alr_len al] at h; exact h, w0⟩
  refine hl_setN (k := 0) (eln_lst (e := S) [] eal_nil (Nat.zero_le _)) fun p0 => ?_
  dsimp only [List.set]
  refine hl_last ?_
  refine hl_forever (δ := Nat × Addr) (fun i z => z.1 = i ∧ i ≤ (upD d i).length) (fun z => (z.2, OL S (upD d z.1)) :: O) (fun z => [some (DB K C d), some (cst (.ref z.2)), none]) (d.1.length + 1) (0, p0) ⟨rfl, Nat.zero_le _⟩ rfl (fun G => (.eq (.eq (.no .nil)))) (fun _ => etl_test el_bl) ?_ (Nat.succ_pos _)
  rintro _ ⟨i, p⟩ E' G1 ⟨rfl, hl⟩ hiz hrt s1 kn
  dsimp only at hl hiz kn ⊢
  refine hl_setN (k := 0) (eln_lendS (i := 1) rfl fun F => eln_call (ι := Deb × List Str) (post := fun i => ansP i.1 i.2) (d, upD d i) (eal_cons (el_var (i := 0) rfl) (eal_cons (el_sqL (el_var (i := 1) rfl)) eal_nil)) ⟨hd, fun m hm => upD_sub hm, upD_nodup hd.nd _⟩) fun q => ?_
  dsimp only [List.set]
  refine hl_if (k := 0) (c := decide (upD d (i + 1) = upD d i)) (etl_lendS (O := O) (Rs' := [some (DB K C d), some (Lst S (upD d i)), some (Lst S (upD d (i + 1)))]) [(q, OL S (upD d (i + 1))), (p, OL S (upD d i))] rfl (fun G h => (.eq (.cv ?_ (.cv ?_ .nil)))) fun F => etl_test (el_eqD (enc_lst enc_S) (eqE_lst eqE_S) (el_var (i := 2) rfl) (el_var (i := 1) rfl))) (fun hc => ?_) (fun hc => ?_)
  · intro v hv
    obtain rfl : v = .ref p := hv
    obtain ⟨o, h1, h2⟩ := h _ (List.mem_cons_of_mem _ (List.mem_cons_self ..))
    exact ol_lst o G h2 h1
  · intro v hv
    obtain rfl : v = .ref q := hv
    obtain ⟨o, h1, h2⟩ := h _ (List.mem_cons_self ..)
    exact ol_lst o G h2 h1
  · refine HL.drop ?_ (List.sublist_cons_self ..)
    refine hl_retOD (i := 1) rfl fun G2 H2 s2 w2 => ?_
    show E'.rt _ _
    rw [hrt]
    have e := leastP_of (of_decide_eq_true hc) (by omega)
    rw [← e] at w2
    exact k p G2 H2 (s1.trans s2) (w2.le (by omega))
  · have hc : upD d (i + 1) ≠ upD d i := fun z => by rw [decide_eq_true z] at hc; cases hc
    have hg := upD_grow hc
    have hle := upD_len (d := d) (i + 1)
    refine hl_last ?_
    refine hl_set (k := 0) (R := cst (.ref q)) (el_var (i := 2) rfl) ?_
    dsimp only [List.set]
    refine HL.drop (O' := (q, OL S (upD d (i + 1))) :: O) ?_ (List.Sublist.cons_cons _ (List.sublist_cons_self ..))
    exact hl_nx fun σ H a => kn (i + 1, q) σ H ⟨rfl, by omega⟩ (by omega) ((a.weak fun G => (.eq (.eq (.no .nil)))).le (by omega))
end
end Gd

-- part L2
set_option Elab.async false
set_option linter.all false
set_option maxRecDepth 100000
set_option maxHeartbeats 1000000
/-! ### k02: what the law meets, its least lot, its debates -/
namespace Gd
open PySem PySem.Spec PyProof.Rows L2
universe u
abbrev s_met : Stmt := topS 42
theorem sc_met : FnScope ["_law_ask", "e"] ["_law_ask"] (defScope s_met) := ⟨rfl, rfl, rfl, by decide +kernel, rfl, by decide +kernel, by decide +kernel⟩
abbrev s_least : Stmt := topS 43
theorem sc_least : FnScope ["_law_names", "_law_pairs", "_law_found", "_law_turn"] ["_law_names", "_law_pairs"] (defScope s_least) := ⟨rfl, rfl, rfl, by decide +kernel, rfl, by decide +kernel, by decide +kernel⟩
abbrev s_d_debate : Stmt := topS 32
theorem sc_d_debate : FnScope ["_law_stream", "_law_most", "_law_names"] ["_law_stream", "_law_most"] (defScope s_d_debate) := ⟨rfl, rfl, rfl, by decide +kernel, rfl, by decide +kernel, by decide +kernel⟩
section
variable {X : Cx}
/-- _law_met(lambda: ..) -/
theorem pe_met {q : Str} {c Pt C : Addr} {Tb : List (Addr × Str)} {j : Nat} {params : Arguments} {body : Expr} {scope : Scope} {t : XK → TE} {p lpos pos : Pos} (F : Fn X.K X.mg "_law_met" s_met ["_law_ask"]) (Ex : ExC X.prog X.w X.K X.mg X.base "BadLot" C "index") (TB : LamX.TabB X.base X.mg c Pt) (hmT : (Pt, q ++ "<lambda>") ∈ Tb) (hmu : ∀ p ∈ Tb, p.1 = Pt → p.2 = q ++ "<lambda>") (hg : Gl X "_law_met") (hcode : X.env.code = .ref c)
    (hr : Room j X.A) (hj : 7 ≤ j) (L : LamX.LamS X.env.scope scope) (hbody : ∀ (A : Around) (outer : List Env) (s : Shared) (H : Hp) (E : XK) (f c' : Addr), Room 5 (A.deeper (LamX.lamEnv X scope s.heap.objs.size f c')) → PE (LamX.lamCx X A outer s H E scope f c') body (t E))
    (hdef : defaultsOf params X.env = ([], []) := by rfl) (hbind : ∀ (q : Str) (cl : List (Str × Addr)) (pm cv ctv : Value), bindArgs (PySem.W.kla_fn "<lambda>" q params body scope cl pm cv ctv) ⟨[], []⟩ = pure [] := by intros; rfl) (hq : X.env.qual = q := by rfl) :
    PE X (.Call (.Name "_law_met" p) [.Lambda params body scope lpos] [] pos) (LamX.tLam Tb (TMet C "index" "told" "lot") t) := by
  obtain ⟨g, fd, ⟨⟨oc, od, kV, doc, pm, an, cdv, ct, osl, rfl, lk, hcd⟩, kp⟩, hm, hb⟩ := F
  subst hq
  exact LamX.pe_lamcall (k := 5) hg hm kp lk hcd hb sc_met rfl (.inl rfl) (met_gives (a := "_law_ask") (en := "e") Ex rfl (by decide) (by decide) rfl (by decide) (by decide) fun _ => rfl) TB hcode hmT hmu (hr.mono hj) L hdef hbind hbody
end
section
variable {P : Program} {w : World} {K : PySem.W.Frag} {mg : Str → Option Value} {base : Heap} {aL : Addr} {Tb : List (Addr × Str)}
def lup (ns : List Str) (ps : List (Str × Str)) : Nat → List Str
  | 0 => []
  | n + 1 => lansd ns ps (lup ns ps n)
theorem lup_stg {ns : List Str} {ps : List (Str × Str)} : ∀ n, lup ns ps (n + 1) = stg ns ps n
  | 0 => lansd_eq ns ps []
  | n + 1 => by
    show lansd ns ps (lup ns ps (n + 1)) = aP ns ps (stg ns ps n)
    rw [lup_stg n]
    exact lansd_eq ns ps _
def sp_law_least (K : PySem.W.Frag) (Tb : List (Addr × Str)) : Sp := spM Tb (fun i : Deb => [Lst S i.1, Lst (PP K) i.2]) (fun i => i.1.length ≤ 1000) (fun i => Lst S (grd i.1 i.2))
theorem ok_law_least (F : Fn K mg "_law_least" s_least ["_law_names", "_law_pairs"]) (T : Txt K mg aL) (c_d_answered : C8.Cal P w K mg base 4 "_law_d_answered" (sp_d_answered K) []) : C8.Cal P w K mg base 5 "_law_least" (sp_law_least K Tb) [] := by
  refine cal_of F sc_least (fun vs H Q E h => spM_len h fun _ => rfl) (fun f cdv A outer s H vs Q E hr h => ?_)
  obtain ⟨⟨ns, ps⟩, st, c, n, O, G, w0, hn, hl, al, k⟩ := h
  have hl : ns.length ≤ 1000 := hl
  refine ⟨_, (pss_cons (ps_set (i := 2) sc_least.nd rfl (by first | exact Or.inl rfl | exact Or.inr rfl) (pe_lst pa_nil))
      (pss_cons (ps_for PassesOwn.never rfl (pi_range1 rfl T.range (pa_cons (pe_op op_add (pe_callB (call_lenK (K := K)) rfl T.len PySem.boot_len (pa_cons (pv 0) pa_nil)) pe_int) pa_nil)) (pg_name (i := 3) sc_least.nd rfl (by first | exact Or.inl rfl | exact Or.inr rfl)) (pss_one (ps_set (i := 2) sc_least.nd rfl (by first | exact Or.inl rfl | exact Or.inr rfl) (C8.pe_c c_d_answered hr (by first | decide | omega) rfl (pa_cons (pv 0) (pa_cons (pv 1) (pa_cons (pv 2) pa_nil)))))))
      (pss_one (ps_ret (pv 2))))), ?_⟩
  refine (?_ : HL ⟨st, c, Tb⟩ G n O [some (Lst S ns), some (Lst (PP K) ps), none, none] _ _) _ _ ⟨G, Same.refl G, by have h := slots_start (N := ["_law_names", "_law_pairs", "_law_found", "_law_turn"]) al; rw [alr_len al] at h; exact h, w0⟩
  refine hl_set (k := 0) (R := Lst S []) (ELN.el (eln_lst (e := S) [] eal_nil (Nat.zero_le _))) ?_
  dsimp only [List.set]
  refine hl_for (k := 0) (e := fun i : Nat => I (0 + (i : Nat))) (xs := List.range ((ns.length : Int) + 1).toNat) (δ := Nat) (fun i d => d = i) (fun _ => O) (fun d => [some (Lst S ns), some (Lst (PP K) ps), some (Lst S (lup ns ps d)), none]) 0 (eil_range1 (el_addI (k := 0) (m := 0) (el_len (el_sqL (el_var (i := 0) rfl))) el_int) (by omega) (by omega)) 0 rfl rfl (fun G => (.eq (.eq (.eq (.no .nil))))) ?_ ?_ (by omega)
  · rintro _ kx i E' G1 hx rfl hrt s1 kn hn1
    refine ⟨_, _, gl_name, ?_⟩
    dsimp only [List.set]
    refine hl_last ?_
    refine hl_set (k := 0) (R := Lst S (lup ns ps (i + 1))) (el_ansd (k := 0) (m := 0) (l := 0) (el_sqL (el_var (i := 0) rfl)) (el_var (i := 1) rfl) (el_sqL (el_var (i := 2) rfl))) ?_
    dsimp only [List.set]
    exact hl_nx fun σ H a => kn (i + 1) σ H rfl ((a.weak fun G => (.eq (.eq (.eq (.no .nil))))).le (by omega))
  · rintro _ rfl
    rw [List.length_range]
    have e : lup ns ps ((ns.length : Int) + 1).toNat = grd ns ps := by
      rw [show ((ns.length : Int) + 1).toNat = ns.length + 1 by omega]
      exact lup_stg _
    rw [e]
    exact hl_ret (k := 0) (R := Lst S (grd ns ps)) (el_var (i := 2) rfl) fun v G2 H2 s2 w2 p => k v G2 H2 s2 (w2.le (by omega)) p
theorem el_dnX {W : SC} {O : Own} {k : Nat} {Rs : RL} {te : TE} {E : XK} {j : Nat} {Pd : Nat → Prop} {z : Nat} (hs : Rs[j]? = some (some (cst (.ref W.s)))) (h : EL W O k te Rs (ExR Pd fun d => I (d : Nat))) (hd : ∀ d, Pd d → d ≤ z) (hz : z ≤ 10) : EL W O (k + 10) (tCall sp_d_names [] E (tCons (tVar j) (tCons te tNil))) Rs (ExR (fun ys => goodN ys ∧ ys.length ≤ z) (Lst S)) :=
  el_calldX (P := Pd) (ι := Nat) (pre := fun m => [I m]) (ok := fun m => m ≤ 10) (cost := fun _ => 10) (post := fun m => ExR (fun ys => goodN ys ∧ ys.length = m) (Lst S)) (fun d => d) hs (eal_X1 h) (fun d hd' => Nat.le_trans (hd d hd') hz) (fun _ _ => Nat.le_refl _) fun a pa v G ⟨ys, ⟨h1, h2⟩, h3⟩ => ⟨ys, ⟨h1, by rw [h2]; exact hd a pa⟩, h3⟩
def okG (z : Nat) (i : Deb) : Prop := goodN i.1 ∧ i.1.length ≤ z ∧ okPs i.1 i.2
theorem okG_D {z : Nat} {i : Deb} (h : okG z i) (hz : z ≤ 1000) : okD i := ⟨⟨goodN_names h.1, h.1.1, Nat.le_trans h.2.1 hz⟩, h.2.2.1, h.2.2.2.1, Nat.le_trans h.2.2.2.2 (by decide)⟩
def sp_d_debate (K : PySem.W.Frag) (Tb : List (Addr × Str)) : Sp := spL Tb (fun m : Nat => [I m]) (fun m => m ≤ 9) (fun _ => 720) (fun m => ExR (okG m) (DR K))
theorem ok_d_debate (F : Fn K mg "_law_d_debate" s_d_debate ["_law_stream", "_law_most"]) (T : Txt K mg aL) (c_draw : C8.Cal P w K mg base 1 "_law_draw" sp_draw []) (c_d_names : C8.Cal P w K mg base 3 "_law_d_names" sp_d_names []) (c_d_pairs : C8.Cal P w K mg base 3 "_law_d_pairs" (sp_d_pairs K Tb) []) : C8.Cal P w K mg base 4 "_law_d_debate" (sp_d_debate K Tb) [] := by
  refine cal_of F sc_d_debate (fun vs H Q E h => spL_len h fun _ => rfl) (fun f cdv A outer s H vs Q E hr h => ?_)
  obtain ⟨mm, st, c, n, O, G, rest, rfl, w0, hn, hm, al, k⟩ := h
  obtain ⟨v, rfl, hv⟩ := alr1 al
  have hn : n + 720 ≤ 1000000 := hn
  have hm : mm ≤ 9 := hm
  refine ⟨_, (pss_cons (ps_set (i := 2) sc_d_debate.nd rfl (by first | exact Or.inl rfl | exact Or.inr rfl) (C8.pe_c c_d_names hr (by first | decide | omega) rfl (pa_cons (pv 0) (pa_cons (C8.pe_c c_draw hr (by first | decide | omega) rfl (pa_cons (pv 0) (pa_cons (pe_op op_add (pv 1) pe_int) pa_nil))) pa_nil))))
      (pss_one (ps_ret (pe_tup (pa_cons (pv 2) (pa_cons (C8.pe_c c_d_pairs hr (by first | decide | omega) rfl (pa_cons (pv 0) (pa_cons (pv 2) pa_nil))) pa_nil)))))), ?_⟩
  refine (?_ : HL ⟨st, c, Tb⟩ G n O [some (cst (.ref st)), some (I mm), none] _ _) _ _ ⟨G, Same.refl G, slots_start (N := ["_law_stream", "_law_most", "_law_names"]) (vs := [.ref st, v]) (Ls := [cst (.ref st), I mm]) (.cons rfl (.cons hv .nil)), w0⟩
  refine hl_set (el_dnX (z := mm) rfl (el_drw (z := mm + 1) rfl (EL.eq (el_addI (k := 0) (m := 0) (el_var (i := 1) rfl) el_int) (by show cst _ = cst _; congr 2)) (by omega) (by omega)) (fun d hd => ?_) (by omega)) ?_
  · have hd : d < mm + 1 := hd
    omega
  dsimp only [List.set]
  refine hl_open 2 rfl fun ns ⟨hns, hnl⟩ => ?_
  dsimp only [List.set]
  refine hl_ret (k := 700) (R := ExR (okG mm) (DR K)) ?_ fun v G2 H2 s2 w2 p => k v G2 H2 s2 (w2.le (by show _ ≤ n + 720; omega)) p
  exact (el_prX2 (k := 0) (el_var (i := 2) rfl) (el_dpairs rfl (el_var (i := 2) rfl) (by omega))).is fun v G ⟨ps, hps, hv⟩ => ⟨(ns, ps), ⟨hns, hnl, hps⟩, hv⟩
end
end Gd

-- part P14a
set_option Elab.async false
set_option linter.all false
set_option maxRecDepth 100000
set_option maxHeartbeats 1000000
namespace Gd
open PySem PySem.Spec PyProof.Rows L2
section
variable {P : Program} {w : World} {K : PySem.W.Frag} {mg : Str → Option Value} {base : Heap} {aL : Addr}
def sp_start (K : PySem.W.Frag) : Sp := fun vs H Q _ => ∃ (a : Addr) (ns : List Int), vs = [.ref a] ∧ SqL K H a (ns.map V.int) ∧ ns.length ≤ 63 ∧ ∀ s c H2, H s = none → H c = none → Same H H2 → s ≠ c → H2 s = some (.lst [.ref c, .int 0, .int 0, .int 11]) → H2 c = some (.lst (ns.map V.int)) → Q (.ref s) H2
theorem ok_start (F : Fn K mg "_law_start" s_start ["_law_script"]) (T : Txt K mg aL) : C8.Cal P w K mg base 1 "_law_start" (sp_start K) [] := by
  refine cal_of F sc_start (fun vs H Q E h => ?_) (fun f cdv A outer s H vs Q E hr h => ?_)
  · obtain ⟨_, _, rfl, _⟩ := h
    rfl
  obtain ⟨a, ns, rfl, hS, hl, k⟩ := h
  refine ⟨_, (pss_one (ps_ret (pe_lst (pa_cons (pe_callTy (call_listK (K := K)) rfl T.list boot_list (pa_cons (pv 0) pa_nil)) (pa_cons pe_int (pa_cons pe_int (pa_cons pe_int pa_nil))))))), ?_⟩
  refine ⟨.ref a, rfl, a, ns.map V.int, rfl, .inl hS, fun c hc => ⟨by show 4 ≤ sizeLine; decide, fun s hs => ?_⟩⟩
  have nsc : s ≠ c := fun e => by rw [e, upd_same] at hs; cases hs
  have hs0 : H s = none := by rw [upd_ne nsc] at hs; exact hs
  exact k s c _ hs0 hc ((Same.new hc).trans (Same.new hs)) nsc upd_same (by rw [upd_ne nsc.symm]; exact upd_same)
end
end Gd

-- part L3
set_option Elab.async false
set_option linter.all false
set_option maxRecDepth 100000
set_option maxHeartbeats 1000000
/-! ### k02: what lots answer -/
namespace Gd
open PySem PySem.Spec PyProof.Rows L2
universe u
abbrev s_answers_right : Stmt := topS 44
theorem sc_answers_right : FnScope ["_law_stream", "_law_debate", "_law_names", "_law_pairs", "_law_turn", "_law_lot", "_law_handed", "_law_at", "_law_odd", "_law_dues", "_law_some", "_law_due"] ["_law_stream", "_law_debate", "_law_names", "_law_pairs"] (defScope s_answers_right) := ⟨rfl, rfl, rfl, by decide +kernel, rfl, by decide +kernel, by decide +kernel⟩
section
variable {P : Program} {w : World} {K : PySem.W.Frag} {mg : Str → Option Value} {base : Heap} {aL : Addr}
theorem elo_answd {C : Addr} {W : SC} {O : Own} {k m : Nat} {Rs : RL} {ta tb : TE} {E : XK} {d : Deb} {ms : List Str} (h1 : EL W O k ta Rs (DB K C d)) (h2 : EL W O m tb Rs (Sq K S ms)) (hok : okM (d, ms)) : ELO W O (k + (m + 0)) (tCall (sp_answered K C W.tb) [] E (tCons ta (tCons tb tNil))) Rs (OL S (ansP d (srt PyData.str ms))) := elo_callm (ι := Deb × List Str) (pre := fun i => [DB K C i.1, Sq K S i.2]) (ok := okM) (post := fun i => OL S (ansP i.1 (srt PyData.str i.2))) (d, ms) (eal_cons h1 (eal_cons h2 eal_nil)) hok
def subL (ns l : List Str) : Prop := l.Nodup ∧ (∀ x ∈ l, x ∈ ns) ∧ l.length ≤ ns.length
/-- a drawn lot -/
theorem el_dlot {W : SC} {O : Own} {Rs : RL} {E1 E2 : XK} {i j : Nat} {ns : List Str} (hs : Rs[j]? = some (some (cst (.ref W.s)))) (hn : Rs[i]? = some (some (Lst S ns))) (nd : ns.Nodup) (hl : ns.length ≤ 10) : EL W O 11 (tSl (rSlL K) (tCall (sp_mixed K) [] E1 (tCons (tVar j) (tCons (tVar i) tNil))) tNoPart (tPart (tCall sp_draw [] E2 (tCons (tVar j) (tCons (tOp (rI0 fun i j => .int (i + j)) (tCB (rLen K) (tCons (tVar i) tNil)) (tC (.int 1))) tNil))))) Rs (ExR (subL ns) (Lst S)) := by
  refine EG.le (el_f2X (P := fun ys : List Str => ys.Perm ns) (fa := Lst S) (P' := fun d : Nat => d < ns.length + 1) (fb := fun d : Nat => I (d : Nat)) (fun a b => tSl (rSlL K) a tNoPart (tPart b)) (el_mix hs (el_sqL (el_var hn)) (by omega)) (el_drw (z := ns.length + 1) hs (EL.eq (el_addI (k := 0) (m := 0) (el_len (el_sqL (el_var hn))) el_int) (by show cst _ = cst _; congr 2)) (by omega) (by omega)) (fun ys d x y σ G hp hd hx hy => ev_ex (a := ys.take d) (EvN.ev (en_takeL (ev_cR' hx) (eo_some (ev_cR' hy)))) ⟨?_, fun z hz => hp.mem_iff.mp (List.mem_of_mem_take hz), ?_⟩)) (by omega)
  · exact (hp.nodup_iff.mpr nd).sublist (List.take_sublist _ _)
  · rw [List.length_take, hp.length_eq]
    omega
def oddsL (ns : List Str) : List SR := [N, I 5, B true, S "never", S "", Lst S ["b"], Dct S []] ++ ns.map S
theorem oddsL_are {cs l : List Str} (hg : ∀ y ∈ cs, y ∈ names10) : ∀ R ∈ oddsL l, StX K cs R ∨ ∃ z, R = S z ∧ z ∈ l := by
  intro R hR
  rcases List.mem_append.mp hR with hR | hR
  · refine .inl ?_
    simp only [List.mem_cons, List.not_mem_nil, or_false] at hR
    rcases hR with rfl | rfl | rfl | rfl | rfl | rfl | rfl
    · exact .odd _ (tyY_ty hty_N)
    · exact .odd _ (tyY_ty hty_I)
    · exact .odd _ (tyY_ty hty_B)
    · exact .no _ fun h => absurd (hg _ h) (by decide +kernel)
    · exact .no _ fun h => absurd (hg _ h) (by decide +kernel)
    · exact .odd _ (tyY_ty hty_lst)
    · exact .odd _ (tyY_ty hty_Dct)
  · obtain ⟨z, hz, rfl⟩ := List.mem_map.mp hR
    exact .inr ⟨z, rfl, hz⟩
theorem noSeqY {R : SR} {T : String} (h : HasTy K R T) (h2 : PySem.W.kitAny K (.type T) [.type "list", .type "tuple"] = some false) : NoSeqY K R := fun v b G H r p => ⟨.type T, .inl (h v b G H r p), h2⟩
abbrev eDue (K : PySem.W.Frag) : SR × Int → SR := Pr K (fun R : SR => R) I
def dues (l : List Str) (R : SR) (at_ : Nat) : List (SR × Int) := [(Lst (fun R : SR => R) ((l.take at_).map S ++ [R] ++ (l.drop at_).map S ++ [N]), (at_ : Nat)), (N, (0 : Nat)), (S "ab", (0 : Nat)), (Dct S [], (0 : Nat)), (I 5, (0 : Nat))]
theorem dues_bad {cs l : List Str} {R : SR} {at_ : Nat} (nd : l.Nodup) (hl : ∀ x ∈ l, x ∈ cs) (ha : at_ ≤ l.length) (hR : StX K cs R ∨ ∃ z, R = S z ∧ z ∈ l.take at_) : ∀ r ∈ dues l R at_, ∃ m : Nat, r.2 = (m : Int) ∧ BadL K cs r.1 m := by
  intro r hr
  simp only [dues, List.mem_cons, List.not_mem_nil, or_false] at hr
  rcases hr with rfl | rfl | rfl | rfl | rfl
  · refine ⟨at_, rfl, ?_⟩
    have h := BadL.out (K := K) (cs := cs) (l.take at_) R ((l.drop at_).map S ++ [N]) (nd.sublist (List.take_sublist _ _)) (fun x hx => hl x (List.mem_of_mem_take hx)) hR
    rw [List.length_take, Nat.min_eq_left ha] at h
    simpa using h
  · exact ⟨0, rfl, .seq _ (noSeqY hty_N lt2_no)⟩
  · exact ⟨0, rfl, .seq _ (noSeqY hty_S lt2_no)⟩
  · exact ⟨0, rfl, .seq _ (noSeqY hty_Dct lt2_no)⟩
  · exact ⟨0, rfl, .seq _ (noSeqY hty_I lt2_no)⟩
theorem el_dues {W : SC} {O : Own} {Rs : RL} {i j q : Nat} {l : List Str} {R : SR} {at_ : Nat} (h5 : Rs[i]? = some (some (Lst S l))) (h7 : Rs[j]? = some (some (I (at_ : Nat)))) (h8 : Rs[q]? = some (some R)) (hl : l.length ≤ 1000) : EL W O 0 (tLst (tCons (tTup (tCons (tOp rCat (tOp rCat (tOp rCat (tSl (rSlL K) (tVar i) tNoPart (tPart (tVar j))) (tLst (tCons (tVar q) tNil))) (tSl (rSlL K) (tVar i) (tPart (tVar j)) tNoPart)) (tLst (tCons (tC .non) tNil))) (tCons (tVar j) tNil))) (tCons (tTup (tCons (tC .non) (tCons (tC (.int 0)) tNil))) (tCons (tTup (tCons (tC (.str "ab")) (tCons (tC (.int 0)) tNil))) (tCons (tTup (tCons tDNewK (tCons (tC (.int 0)) tNil))) (tCons (tTup (tCons (tC (.int 5)) (tCons (tC (.int 0)) tNil))) tNil)))))) Rs (Lst (eDue K) (dues l R at_)) := by
  have t1 : (l.take at_).length ≤ 1000 := Nat.le_trans (by rw [List.length_take]; exact Nat.min_le_right _ _) hl
  have t2 : (l.drop at_).length ≤ 1000 := Nat.le_trans (by rw [List.length_drop]; exact Nat.sub_le _ _) hl
  refine ELN.el (eln_lst (e := eDue K) (dues l R at_) (eal_cons (k := 0) (m := 0) (el_pr (k := 0) (m := 0) (e := fun R : SR => R) (f := I) (ELN.el (eln_cat (k := 0) (m := 0) (e := fun R : SR => R) (ELN.el (eln_cat (k := 0) (m := 0) (e := fun R : SR => R) (ELN.el (eln_cat (k := 0) (m := 0) (e := fun R : SR => R) (el_idS (ELN.el (eln_takeL (k := 0) (m := 0) (el_var h5) (el_var h7)))) (ELN.el (eln_lst (e := fun R : SR => R) [R] (eal_cons (el_var h8) eal_nil) (by simp))) ?_)) (el_idS (ELN.el (eln_dropL (k := 0) (m := 0) (el_var h5) (el_var h7)))) ?_)) (ELN.el (eln_lst (e := fun R : SR => R) [N] (eal_cons el_non eal_nil) (by simp))) ?_)) (el_var h7)) (eal_cons (k := 0) (m := 0) (el_pr (k := 0) (m := 0) (e := fun R : SR => R) (f := I) el_non el_int) (eal_cons (k := 0) (m := 0) (el_pr (k := 0) (m := 0) (e := fun R : SR => R) (f := I) (el_str (i := "ab")) el_int) (eal_cons (k := 0) (m := 0) (el_pr (k := 0) (m := 0) (e := fun R : SR => R) (f := I) (el_dnew0 (e := S)) el_int) (eal_cons (k := 0) (m := 0) (el_pr (k := 0) (m := 0) (e := fun R : SR => R) (f := I) el_int el_int) eal_nil))))) (by unfold dues; simp))
  all_goals (simp only [List.length_append, List.length_map, List.length_cons, List.length_nil]; omega)
def sp_answers (K : PySem.W.Frag) (C : Addr) (Tb : List (Addr × Str)) : Sp := spL Tb (fun i : Deb => [DB K C (mkD i), Lst S i.1, Lst (PP K) i.2]) (okG 9) (fun _ => 100) (fun _ => B true)
theorem ok_answers_right {C CB cc Pt : Addr} {Tb : List (Addr × Str)} (F : FnL K mg "_law_answers_right" s_answers_right ["_law_stream", "_law_debate", "_law_names", "_law_pairs"] cc) (T : Txt K mg aL) (c_draw : C8.Cal P w K mg base 1 "_law_draw" sp_draw []) (c_pick : C8.Cal P w K mg base 2 "_law_pick" (sp_pick K) []) (c_mixed : C8.Cal P w K mg base 2 "_law_mixed" (sp_mixed K) []) (c_answered : C8.Cal P w K mg base 3 "answered" (sp_answered K C Tb) []) (c_d_answered : C8.Cal P w K mg base 4 "_law_d_answered" (sp_d_answered K) []) (c_same : C8.Cal P w K mg base 11 "_law_same" (sp_sameX K (AtD K C) 5) [])
    (F_met : Fn K mg "_law_met" s_met ["_law_ask"]) (e_BadLot : ExC P w K mg base "BadLot" CB "index") (x_answered : CalX P w K mg base 4 "answered" ["debate", "lot"] (sp_answeredX K C CB Tb)) (TB : LamX.TabB base mg cc Pt) (hmT : (Pt, ("_law_answers_right" : Str) ++ ".<locals>." ++ "<lambda>") ∈ Tb) (hmu : ∀ p ∈ Tb, p.1 = Pt → p.2 = ("_law_answers_right" : Str) ++ ".<locals>." ++ "<lambda>") : C8.Cal P w K mg base 12 "_law_answers_right" (sp_answers K C Tb) [] := by
  refine calL_of F sc_answers_right (fun vs H Q E h => spL_len h fun _ => rfl) (fun f A outer s H vs Q E hr h => ?_)
  have hu64 := hu64_of hr
  have hu := hu_of hr
  obtain ⟨⟨ns, ps⟩, st, c, n, O, G, rest, rfl, w0, hn, ⟨hgn, hnl, hps⟩, al, k⟩ := h
  have hn : n + 100 ≤ 1000000 := hn
  have hnl : ns.length ≤ 9 := hnl
  have hgn : goodN ns := hgn
  have hps : okPs ns ps := hps
  refine ⟨_, (pss_cons (ps_for PassesOwn.never rfl (pi_range1 rfl T.range (pa_cons pe_int pa_nil)) (pg_name (i := 4) sc_answers_right.nd rfl (by first | exact Or.inl rfl | exact Or.inr rfl)) (pss_cons (ps_set (i := 5) sc_answers_right.nd rfl (by first | exact Or.inl rfl | exact Or.inr rfl) (pe_slice (sl_lK (K := K)) (C8.pe_c c_mixed hr (by first | decide | omega) rfl (pa_cons (pv 0) (pa_cons (pv 2) pa_nil))) po_none (po_some (C8.pe_c c_draw hr (by first | decide | omega) rfl (pa_cons (pv 0) (pa_cons (pe_op op_add (pe_callB (call_lenK (K := K)) rfl T.len PySem.boot_len (pa_cons (pv 2) pa_nil)) pe_int) pa_nil))))))
      (pss_cons (ps_set (i := 6) sc_answers_right.nd rfl (by first | exact Or.inl rfl | exact Or.inr rfl) (C8.pe_c c_pick hr (by first | decide | omega) rfl (pa_cons (pv 0) (pa_cons (pe_lst (pa_cons (pe_callTy (call_listK (K := K)) rfl T.list boot_list (pa_cons (pv 5) pa_nil)) (pa_cons (pe_callTy (call_tupK (K := K)) rfl T.tuple boot_tuple (pa_cons (pv 5) pa_nil)) pa_nil))) pa_nil))))
      (pss_cons (ps_expr (pe_bmK (K := K) PySem.F.plainAttrs_list PySem.F.slot_list_append PySem.F.type_list_append mt_append (C8.pe_c c_answered hr (by first | decide | omega) rfl (pa_cons (pv 1) (pa_cons (pv 6) pa_nil))) (pa_cons pe_str pa_nil)))
      (pss_cons (ps_if (PW.pt (pw_or (pt_not (pt_val (C8.pe_c c_same hr (by first | decide | omega) rfl (pa_cons (C8.pe_c c_answered hr (by first | decide | omega) rfl (pa_cons (pv 1) (pa_cons (pv 6) pa_nil))) (pa_cons (C8.pe_c c_d_answered hr (by first | decide | omega) rfl (pa_cons (pv 2) (pa_cons (pv 3) (pa_cons (pv 5) pa_nil)))) pa_nil))))) (pw_or1 (pt_cmpR (op_neDK (K := K) hu64) (pe_callTy (call_listK (K := K)) rfl T.list boot_list (pa_cons (pv 6) pa_nil)) (pv 5) (nomark _))))) (pss_one (ps_ret pe_bl)) pss_nil)
      (pss_cons (ps_set (i := 7) sc_answers_right.nd rfl (by first | exact Or.inl rfl | exact Or.inr rfl) (C8.pe_c c_draw hr (by first | decide | omega) rfl (pa_cons (pv 0) (pa_cons (pe_op op_add (pe_callB (call_lenK (K := K)) rfl T.len PySem.boot_len (pa_cons (pv 5) pa_nil)) pe_int) pa_nil))))
      (pss_cons (ps_set (i := 8) sc_answers_right.nd rfl (by first | exact Or.inl rfl | exact Or.inr rfl) (C8.pe_c c_pick hr (by first | decide | omega) rfl (pa_cons (pv 0) (pa_cons (pe_op op_cat (pe_lst (pa_cons pe_non (pa_cons pe_int (pa_cons pe_bl (pa_cons pe_str (pa_cons pe_str (pa_cons (pe_lst (pa_cons pe_str pa_nil)) (pa_cons pe_dnewK pa_nil)))))))) (pe_slice (sl_lK (K := K)) (pv 5) po_none (po_some (pv 7)))) pa_nil))))
      (pss_cons (ps_set (i := 9) sc_answers_right.nd rfl (by first | exact Or.inl rfl | exact Or.inr rfl) (pe_lst (pa_cons (pe_tup (pa_cons (pe_op op_cat (pe_op op_cat (pe_op op_cat (pe_slice (sl_lK (K := K)) (pv 5) po_none (po_some (pv 7))) (pe_lst (pa_cons (pv 8) pa_nil))) (pe_slice (sl_lK (K := K)) (pv 5) (po_some (pv 7)) po_none)) (pe_lst (pa_cons pe_non pa_nil))) (pa_cons (pv 7) pa_nil))) (pa_cons (pe_tup (pa_cons pe_non (pa_cons pe_int pa_nil))) (pa_cons (pe_tup (pa_cons pe_str (pa_cons pe_int pa_nil))) (pa_cons (pe_tup (pa_cons pe_dnewK (pa_cons pe_int pa_nil))) (pa_cons (pe_tup (pa_cons pe_int (pa_cons pe_int pa_nil))) pa_nil)))))))
      (pss_one (ps_if (pt_not (pt_val (pe_callB (call_allK (K := K) rfl) rfl T.all boot_all (pa_cons (pe_lc (own := [("_law_some", 10), ("_law_due", 11)]) rfl sc_answers_right.nd (pi_seqK (K := K) (pv 9)) (blkOk_by (by kernel_rfl)) (fun _ _ _ _ _ => (pg_tupK (K := K) (n := 2) rfl (pgs_cons (pg_name (i := 10) sc_answers_right.nd rfl (by first | exact Or.inl rfl | exact Or.inr rfl)) (pgs_cons (pg_name (i := 11) sc_answers_right.nd rfl (by first | exact Or.inl rfl | exact Or.inr rfl)) pgs_nil)))) (fun _ _ _ _ _ => pts_nil) (fun _ _ _ _ _ => (C8.pe_c c_same hr (by first | decide | omega) rfl (pa_cons (pe_met (q := "_law_answers_right" ++ ".<locals>.") F_met e_BadLot TB hmT hmu rfl rfl hr (by first | decide | omega) (LamX.lamS_by (by kernel_rfl)) (fun A outer s H E f c' hl => (pe_lx x_answered hl (by first | decide | omega) rfl (pa_cons (pv 1) (pa_cons (pv 10) pa_nil))))) (pa_cons (pe_tup (pa_cons pe_str (pa_cons (pv 11) pa_nil))) pa_nil))))) pa_nil)))) (pss_one (ps_ret pe_bl)) pss_nil))))))))))
      (pss_one (ps_ret pe_bl))), ?_⟩
  have a0 : At ⟨st, c, Tb⟩ G n O [some (cst (.ref st)), some (DB K C (mkD (ns, ps))), some (Lst S ns), some (Lst (PP K) ps), none, none, none, none, none, none, none, none] (L2.start ["_law_stream", "_law_debate", "_law_names", "_law_pairs", "_law_turn", "_law_lot", "_law_handed", "_law_at", "_law_odd", "_law_dues", "_law_some", "_law_due"] (.ref st :: rest)) H := by
    refine ⟨G, Same.refl G, ?_, w0⟩
    have h := slots_start (N := ["_law_stream", "_law_debate", "_law_names", "_law_pairs", "_law_turn", "_law_lot", "_law_handed", "_law_at", "_law_odd", "_law_dues", "_law_some", "_law_due"]) (vs := .ref st :: rest) (Ls := [cst (.ref st), DB K C (mkD (ns, ps)), Lst S ns, Lst (PP K) ps]) (.cons rfl al)
    have e : (V.ref st :: rest).length = 4 := by rw [List.length_cons, alr_len al]; rfl
    rw [e] at h
    exact h
  refine (?_ : HL ⟨st, c, Tb⟩ G n O [some (cst (.ref st)), some (DB K C (mkD (ns, ps))), some (Lst S ns), some (Lst (PP K) ps), none, none, none, none, none, none, none, none] _ _) _ _ a0
  refine hl_know 2 rfl fun hok => ?_
  have hB := okB_mk (i := (ns, ps)) (okG_D (z := 9) ⟨hgn, hnl, hps⟩ (by decide)) hok
  have hd1 : ∀ y ∈ (mkD (ns, ps)).1, y ∈ names10 := fun y hy => hgn.2 y (mem_srt.mp hy)
  refine hl_for (k := 0) (e := fun i : Nat => I (0 + (i : Nat))) (xs := List.range 3) (δ := Unit) (fun _ _ => True) (fun _ => O) (fun _ => [some (cst (.ref st)), some (DB K C (mkD (ns, ps))), some (Lst S ns), some (Lst (PP K) ps), none, none, none, none, none, none, none, none]) 30 (eil_range1 (i := 3) el_int (by decide) (by decide)) () trivial rfl (fun G => (.eq (.eq (.eq (.eq (.no (.no (.no (.no (.no (.no (.no (.no .nil))))))))))))) ?_ ?_ (by rw [List.length_range]; omega)
  · rintro i t d E' G1 ht _ hrt s1 kn hn1
    have hi3 : i < 3 := by
      have := (List.getElem?_eq_some_iff.mp ht).1
      rwa [List.length_range] at this
    refine ⟨_, _, gl_name, ?_⟩
    dsimp only [List.set]
    refine hl_set (el_dlot (i := 2) (j := 0) rfl rfl hgn.1 (by omega)) ?_
    dsimp only [List.set]
    refine hl_open 5 rfl fun l ⟨lnd, lns, lll⟩ => ?_
    dsimp only [List.set]
    have hM : okM (mkD (ns, ps), l) := ⟨hB, fun m hm => mem_srt.mpr (lns m hm), lnd⟩
    have hans : lansd ns ps l = ansP (mkD (ns, ps)) (srt PyData.str l) := by
      rw [lansd_eq, ansP_mk]
      exact aP_congr fun x => mem_srt.symm
    refine hl_set (k := 1) (R := Sq K S l) ((el_pck (xs := [(), ()]) rfl (el_sqL (ELN.el (eln_lst (e := fun _ : Unit => Sq K S l) [(), ()] (eal_cons (el_sqL (ELN.el (eln_list (el_sqL (el_var (i := 5) rfl))))) (eal_cons (el_sqT (el_tupleL (el_var (i := 5) rfl))) eal_nil)) (by simp)))) (by simp) (by simp)).is fun v G ⟨_, _, h⟩ => h) ?_
    dsimp only [List.set]
    refine hl_lateN (k := 0) (m := 0) (elo_answd (W := ⟨st, c, Tb⟩) (el_var (i := 1) rfl) (el_var (i := 6) rfl) hM) (fun p => el_str (i := "late")) (Nat.le_trans (ansP_len _) (Nat.le_trans hB.l1 (by decide))) ?_
    refine hl_ifF (k := 0) (etl_orF (k := 0) (m := 0) (etl_notT (etl_B (el_sameD (n := 5) (R := Lst S (ansP (mkD (ns, ps)) (srt PyData.str l))) (ELN.el (elo_answd (W := ⟨st, c, Tb⟩) (el_var (i := 1) rfl) (el_var (i := 6) rfl) hM)) (EL.eq (el_ansd (el_sqL (el_var (i := 2) rfl)) (el_var (i := 3) rfl) (el_sqL (el_var (i := 5) rfl))) (by rw [hans])) (SmS.l fun x _ => SmS.s x)))) (ETL.eq (etl_test (el_neD (e := Lst S) (x := l) (y := l) (enc_lst enc_S) (eqE_lst eqE_S) (ELN.el (eln_list (el_var (i := 6) rfl))) (el_var (i := 5) rfl))) (by simp))) ?_
    refine hl_set (el_drw (z := l.length + 1) rfl (EL.eq (el_addI (k := 0) (m := 0) (el_len (el_sqL (el_var (i := 5) rfl))) el_int) (by show cst _ = cst _; congr 2)) (by omega) (by omega)) ?_
    dsimp only [List.set]
    refine hl_open 7 rfl fun at_ hat => ?_
    have hat : at_ < l.length + 1 := hat
    dsimp only [List.set]
    have tl : (l.take at_).length ≤ l.length := by rw [List.length_take]; exact Nat.min_le_right _ _
    refine hl_set (el_pck (xs := oddsL (l.take at_)) rfl (el_sqL (ELN.el (eln_cat (k := 0) (m := 0) (e := fun R : SR => R) (ELN.el (eln_lst (e := fun R : SR => R) [N, I 5, B true, S "never", S "", Lst S ["b"], Dct S []] (eal_cons el_non (eal_cons el_int (eal_cons el_bl (eal_cons (el_str (i := "never")) (eal_cons (el_str (i := "")) (eal_cons (ELN.el (eln_lst (e := S) ["b"] (eal_cons (el_str (i := "b")) eal_nil) (by simp))) (eal_cons (el_dnew0 (e := S)) eal_nil))))))) (by simp))) (el_idS (ELN.el (eln_takeL (k := 0) (m := 0) (el_var (i := 5) rfl) (el_var (i := 7) rfl)))) (by rw [List.length_map]; simp; omega)))) (by unfold oddsL; simp) (by unfold oddsL; simp; omega)) ?_
    dsimp only [List.set]
    refine hl_open 8 rfl fun R hR => ?_
    dsimp only [List.set]
    have hR := oddsL_are (K := K) hd1 R hR
    refine hl_set (el_dues (i := 5) (j := 7) (q := 8) rfl rfl rfl (by omega)) ?_
    dsimp only [List.set]
    refine hl_last ?_
    have hdue := dues_bad (K := K) (cs := (mkD (ns, ps)).1) lnd (fun x hx => mem_srt.mpr (lns x hx)) (by omega) hR
    refine hl_ifF (k := 0) (etl_notT (ETL.eq (etl_B (el_allL (p := fun _ : SR × Int => true) (eln_map0 (e := eDue K) (eil_sq (el_sqL (el_var (i := 9) rfl))) (fun _ _ => gl_pr gl_name gl_name) fun r hr O2 => ?_))) (by simp))) ?_
    · obtain ⟨m, hm, hb⟩ := hdue r hr
      obtain ⟨R', z⟩ := r
      obtain rfl : z = (m : Int) := hm
      exact el_sameD (n := 5) (R := PW K "lot" (I (m : Nat))) (el_metX (W := ⟨st, c, Tb⟩) (ι := Deb × SR × Nat) (val := fun i => I (i.2.2 : Nat)) (mkD (ns, ps), R', m) (eal_cons (el_var (i := 1) rfl) (eal_cons (el_var (i := 10) rfl) eal_nil)) hb) (el_pr (e := S) (f := fun R : SR => R) (x := "lot") (y := I (m : Nat)) el_str (el_var (i := 11) rfl)) (SmS.p (SmS.s _) (SmS.i _))
    · exact hl_nx fun σ H a => kn () σ H trivial ((a.weak fun G => (.eq (.eq (.eq (.eq (.no (.no (.no (.no (.no (.no (.no (.no .nil))))))))))))).le (by omega))
  · rintro _ _
    rw [List.length_range]
    exact hl_ret (k := 0) (R := B true) el_bl fun v G2 H2 s2 w2 p => k v G2 H2 s2 (w2.le (by show _ ≤ n + 100; omega)) p
end
end Gd

-- part L4
set_option Elab.async false
set_option linter.all false
set_option maxRecDepth 100000
set_option maxHeartbeats 1000000
/-! ### k02: the walk of the law -/
namespace Gd
open PySem PySem.Spec PyProof.Rows L2
universe u
abbrev s_law : Stmt := topS 45
theorem sc_law : FnScope ["_law_script", "_law_stream", "_law_turn", "_law_names", "_law_pairs", "_law_debate"] ["_law_script"] (defScope s_law) := ⟨rfl, rfl, rfl, by decide +kernel, rfl, by decide +kernel, by decide +kernel⟩
section
variable {P : Program} {w : World} {K : PySem.W.Frag} {mg : Str → Option Value} {base : Heap} {aL : Addr}
theorem elo_least {C : Addr} {W : SC} {O : Own} {k : Nat} {Rs : RL} {ta : TE} {E : XK} {d : Deb} (h1 : EL W O k ta Rs (DB K C d)) (hd : okB d) : ELO W O (k + 0) (tCall (sp_least_lot K C W.tb) [] E (tCons ta tNil)) Rs (OL S (leastP d)) := elo_callm (ι := Deb) (pre := fun d => [DB K C d]) (ok := okB) (post := fun d => OL S (leastP d)) d (eal_cons h1 eal_nil) hd
theorem el_dsts {W : SC} {O : Own} {Rs : RL} {E : XK} {j z : Nat} (hs : Rs[j]? = some (some (cst (.ref W.s)))) (hz : z ≤ 9) : EL W O (0 + 0 + 720) (tCall (sp_d_debate K W.tb) [] E (tCons (tVar j) (tCons (tC (.int (z : Nat))) tNil))) Rs (ExR (okG z) (DR K)) := el_calll (ι := Nat) (pre := fun m => [I m]) (ok := fun m => m ≤ 9) (cost := fun _ => 720) (post := fun m => ExR (okG m) (DR K)) z hs (eal_cons el_int eal_nil) hz
theorem el_lleast {W : SC} {O : Own} {k m : Nat} {Rs : RL} {ta tb : TE} {E : XK} {ns : List Str} {ps : List (Str × Str)} (h1 : EL W O k ta Rs (Lst S ns)) (h2 : EL W O m tb Rs (Lst (PP K) ps)) (hl : ns.length ≤ 1000) : EL W O (k + (m + 0)) (tCall (sp_law_least K W.tb) [] E (tCons ta (tCons tb tNil))) Rs (Lst S (grd ns ps)) := el_callm (ι := Deb) (pre := fun i => [Lst S i.1, Lst (PP K) i.2]) (ok := fun i => i.1.length ≤ 1000) (post := fun i => Lst S (grd i.1 i.2)) (ns, ps) (eal_cons h1 (eal_cons h2 eal_nil)) hl
theorem el_anr {C : Addr} {W : SC} {O : Own} {Rs : RL} {E : XK} {j q r z : Nat} {ns : List Str} {ps : List (Str × Str)} (hs : Rs[j]? = some (some (cst (.ref W.s)))) (h1 : Rs[q]? = some (some (DB K C (mkD (ns, ps))))) (h2 : Rs[r]? = some (some (Lst S ns))) (h3 : Rs[z]? = some (some (Lst (PP K) ps))) (hg : okG 9 (ns, ps)) : EL W O 100 (tCall (sp_answers K C W.tb) [] E (tCons (tVar j) (tCons (tVar q) (tCons (tVar r) (tCons (tVar z) tNil))))) Rs (B true) := EG.le (el_calll (ι := Deb) (pre := fun i => [DB K C (mkD i), Lst S i.1, Lst (PP K) i.2]) (ok := okG 9) (cost := fun _ => 100) (post := fun _ => B true) (ns, ps) hs (eal_cons (el_var h1) (eal_cons (el_var h2) (eal_cons (el_var h3) eal_nil))) hg) (by omega)
def sp_law2 (K : PySem.W.Frag) (Tb : List (Addr × Str)) : Sp := fun vs H Q _ => ∃ (a : Addr) (ns : List Int), vs = [.ref a] ∧ SqL K H a (ns.map V.int) ∧ ns.length ≤ 63 ∧ LamX.Tabs Tb H ∧ ∀ H', Q (.bl true) H'
theorem ok_law {C : Addr} {Tb : List (Addr × Str)} (F : Fn K mg "law" s_law ["_law_script"]) (T : Txt K mg aL)
    (c_start : C8.Cal P w K mg base 1 "_law_start" (sp_start K) []) (c_d_debate : C8.Cal P w K mg base 4 "_law_d_debate" (sp_d_debate K Tb) []) (m_Debate : C8.Mak P w K mg base 5 "Debate" C (sp_initD K C Tb) []) (c_least_lot : C8.Cal P w K mg base 3 "least_lot" (sp_least_lot K C Tb) []) (c_same : C8.Cal P w K mg base 11 "_law_same" (sp_sameX K (AtD K C) 5) []) (c_least : C8.Cal P w K mg base 5 "_law_least" (sp_law_least K Tb) []) (c_answers_right : C8.Cal P w K mg base 12 "_law_answers_right" (sp_answers K C Tb) []) (c_d_lots : C8.Cal P w K mg base 5 "_law_d_lots" (sp_d_lotsL K Tb) []) : CalS P w K mg base 13 "law" s_law ["_law_script"] (sp_law2 K Tb) := by
  refine cal_ofS F sc_law (fun vs H Q E h => ?_) (fun f cdv A outer s H vs Q E hr h => ?_)
  · obtain ⟨_, _, rfl, _⟩ := h
    rfl
  obtain ⟨a, ns, rfl, hS, hl, t0, k⟩ := h
  refine ⟨_, (pss_cons (ps_set (i := 1) sc_law.nd rfl (by first | exact Or.inl rfl | exact Or.inr rfl) (C8.pe_c c_start hr (by first | decide | omega) rfl (pa_cons (pv 0) pa_nil)))
      (pss_cons (ps_for PassesOwn.never rfl (pi_range1 rfl T.range (pa_cons pe_int pa_nil)) (pg_name (i := 2) sc_law.nd rfl (by first | exact Or.inl rfl | exact Or.inr rfl)) (pss_cons (ps_asg (C8.pe_c c_d_debate hr (by first | decide | omega) rfl (pa_cons (pv 1) (pa_cons pe_int pa_nil))) (pg_tupK (K := K) (n := 2) rfl (pgs_cons (pg_name (i := 3) sc_law.nd rfl (by first | exact Or.inl rfl | exact Or.inr rfl)) (pgs_cons (pg_name (i := 4) sc_law.nd rfl (by first | exact Or.inl rfl | exact Or.inr rfl)) pgs_nil))))
      (pss_cons (ps_set (i := 5) sc_law.nd rfl (by first | exact Or.inl rfl | exact Or.inr rfl) (C8.pe_mk m_Debate hr (by first | decide | omega) rfl (pa_cons (pv 3) (pa_cons (pv 4) pa_nil))))
      (pss_cons (ps_expr (pe_bmK (K := K) PySem.F.plainAttrs_list PySem.F.slot_list_append PySem.F.type_list_append mt_append (C8.pe_c c_least_lot hr (by first | decide | omega) rfl (pa_cons (pv 5) pa_nil)) (pa_cons pe_str pa_nil)))
      (pss_cons (ps_if (pt_not (pt_val (C8.pe_c c_same hr (by first | decide | omega) rfl (pa_cons (C8.pe_c c_least_lot hr (by first | decide | omega) rfl (pa_cons (pv 5) pa_nil)) (pa_cons (C8.pe_c c_least hr (by first | decide | omega) rfl (pa_cons (pv 3) (pa_cons (pv 4) pa_nil))) pa_nil))))) (pss_one (ps_ret pe_bl)) pss_nil)
      (pss_cons (ps_if (pt_not (pt_val (C8.pe_c c_answers_right hr (by first | decide | omega) rfl (pa_cons (pv 1) (pa_cons (pv 5) (pa_cons (pv 3) (pa_cons (pv 4) pa_nil))))))) (pss_one (ps_ret pe_bl)) pss_nil)
      (pss_one (ps_if (PW.pt (pw_and (pt_cmpR op_lt (pe_callB (call_lenK (K := K)) rfl T.len PySem.boot_len (pa_cons (pv 3) pa_nil)) pe_int (nomark _)) (pw_and1 (pt_not (pt_val (C8.pe_c c_same hr (by first | decide | omega) rfl (pa_cons (C8.pe_c c_d_lots hr (by first | decide | omega) rfl (pa_cons (pv 3) (pa_cons (pv 4) (pa_cons pe_str pa_nil)))) (pa_cons (pe_lst (pa_cons (C8.pe_c c_least_lot hr (by first | decide | omega) rfl (pa_cons (pv 5) pa_nil)) pa_nil)) pa_nil)))))))) (pss_one (ps_ret pe_bl)) pss_nil))))))))
      (pss_one (ps_ret pe_bl)))), ?_⟩
  refine ⟨_, rfl, a, ns, rfl, hS, hl, fun st c H1 hs hc s1 ne e1 e2 => ?_⟩
  refine gName_I ?_
  have a0 : At ⟨st, c, Tb⟩ (fun _ => none) 0 [] [none, some (cst (.ref st)), none, none, none, none] ([some (.ref a), some (.ref st), none, none, none, none]) H1 := ⟨fun _ => none, Same.refl _, ⟨rfl, fun i R e => by
    match i with
    | 0 => cases e
    | 1 => obtain rfl : cst (.ref st) = R := Option.some.inj (Option.some.inj e); exact ⟨_, rfl, rfl⟩
    | i + 2 =>
      have e : (List.replicate 4 (none : Option SR))[i]? = some (some R) := e
      rw [List.getElem?_replicate] at e
      split at e <;> cases e⟩, ⟨fun _ _ h => (by cases h), NoTb.none, t0.ext s1, ⟨ne, rfl, rfl, ns, 0, 11, 0, e1, e2, by decide, by decide, by decide, by decide, hl⟩, List.nodup_nil, fun q hq => (by cases hq)⟩⟩
  refine (?_ : HL ⟨st, c, Tb⟩ (fun _ => none) 0 [] [none, some (cst (.ref st)), none, none, none, none] _ _) _ _ a0
  clear a0
  refine hl_for (e := fun i : Nat => I (0 + (i : Nat))) (xs := List.range 6) (δ := Unit) (fun _ _ => True) (fun _ => []) (fun _ => [none, some (cst (.ref st)), none, none, none, none]) 1000 (eil_range1 (i := 6) el_int (by decide) (by decide)) () trivial rfl (fun G => (.no (.eq (.no (.no (.no (.no .nil))))))) ?_ ?_ (by rw [List.length_range]; decide)
  · rintro i t d D' G1 ht _ hrt s1 kn hn1
    have hi6 : i < 6 := by
      have := (List.getElem?_eq_some_iff.mp ht).1
      rwa [List.length_range] at this
    refine ⟨_, _, gl_name, ?_⟩
    dsimp only [List.set]
    refine hl_asgX (k := 720) (Rf := fun x => [none, some (cst (.ref st)), some (I (0 + (t : Nat))), some (Lst S x.1), some (Lst (PP K) x.2), none]) (el_dsts (z := 9) rfl (by decide)) (fun x => gl_pr gl_name gl_name) fun ⟨ns, ps⟩ hR => ?_
    dsimp only
    have hnl : ns.length ≤ 9 := hR.2.1
    have nd : ns.Nodup := hR.1.1
    have hD : okD (ns, ps) := okG_D hR (by decide)
    refine hl_know 3 rfl fun hok => ?_
    have hB := okB_mk hD hok
    refine hl_set (k := 0) (R := DB K C (mkD (ns, ps))) (el_mkD (W := ⟨st, c, Tb⟩) (i := (ns, ps)) (eal_cons (el_sqL (el_var (i := 3) rfl)) (eal_cons ((el_var (i := 4) rfl).is fun _ _ h => pq_of h) eal_nil)) hD) ?_
    dsimp only [List.set]
    have hgl : (grd ns ps).length ≤ 1000 := by
      rw [← leastP_mk]
      exact Nat.le_trans (upD_len _) hB.l1
    refine hl_lateN (k := 0) (m := 0) (elo_least (W := ⟨st, c, Tb⟩) (el_var (i := 5) rfl) hB) (fun p => el_str (i := "late")) (by rw [leastP_mk]; omega) ?_
    refine hl_ifF (k := 0) (etl_notT (etl_B (el_sameD (n := 5) (R := Lst S (grd ns ps)) (EL.eq (ELN.el (elo_least (W := ⟨st, c, Tb⟩) (el_var (i := 5) rfl) hB)) (by rw [leastP_mk])) (el_lleast (W := ⟨st, c, Tb⟩) (el_var (i := 3) rfl) (el_var (i := 4) rfl) (by omega)) (SmS.l fun x _ => SmS.s x)))) ?_
    refine hl_ifF (k := 100) (etl_notT (etl_B (el_anr (W := ⟨st, c, Tb⟩) rfl rfl rfl rfl hR))) ?_
    refine hl_last ?_
    have hlst := least_law (ps := ps) nd
    rw [grd_srt nd] at hlst
    refine hl_ifF (k := 0) (ETL.eq (etl_and (k := 0) (m := 0) (d := false) (etl_test (el_ltI (k := 0) (m := 0) (el_len (el_sqL (el_var (i := 3) rfl))) el_int)) fun _ => etl_notT (etl_B (el_sameD (n := 5) (R := Lst (Lst S) [grd ns ps]) (EL.eq (el_lotsL (W := ⟨st, c, Tb⟩) (el_sqL (el_var (i := 3) rfl)) (el_var (i := 4) rfl) (by omega)) (by rw [hlst])) (ELN.el (eln_lst (e := Lst S) [grd ns ps] (eal_cons (EL.eq (ELN.el (elo_least (W := ⟨st, c, Tb⟩) (el_var (i := 5) rfl) hB)) (by rw [leastP_mk])) eal_nil) (by simp))) (SmS.l fun x _ => SmS.l fun y _ => SmS.s y)))) (by simp)) ?_
    exact hl_nx fun σ H a => kn () σ H trivial ((a.weak fun G => (.no (.eq (.no (.no (.no (.no .nil))))))).le (by omega))
  · rintro _ _
    rw [List.length_range]
    exact hl_ret (k := 0) (R := B true) el_bl fun v G2 H2 s2 w2 p => by
      obtain rfl : v = .bl true := p
      exact k H2
end
end Gd

-- part R1
set_option Elab.async false
set_option linter.all false
set_option maxRecDepth 100000
set_option maxHeartbeats 4000000
namespace Gd
open PySem PySem.Spec PyProof.Rows L2
theorem all_mk {l : PySem.W.OpenLaw} {w : World} {K : PySem.W.Frag} {h : Heap} {mg : Str → Option Value} {fa cc0 Pt0 C CB : Addr} (X : K.In h) (G : h.Ns mainGlobals mg) (hfa : mg "law" = some (.ref fa)) (TT0 : h.get? Pt0 = some (PySem.W.tabObj #[]))
    {t1 t2 : Tok}
    {f0 : Addr} {od0 an0 : Option Addr} {sl0 : Array (Option Value)} {oc0 kV0 dc0 pm0 cd0 ct0 : Value}
    {f1 : Addr} {od1 an1 : Option Addr} {sl1 : Array (Option Value)} {oc1 kV1 dc1 pm1 cd1 ct1 : Value}
    {f2 : Addr} {od2 an2 : Option Addr} {sl2 : Array (Option Value)} {oc2 kV2 dc2 pm2 cd2 ct2 : Value}
    {f3 : Addr} {od3 an3 : Option Addr} {sl3 : Array (Option Value)} {oc3 kV3 dc3 pm3 cd3 ct3 : Value}
    {f4 : Addr} {od4 an4 : Option Addr} {sl4 : Array (Option Value)} {oc4 kV4 dc4 pm4 cd4 ct4 : Value}
    {f5 : Addr} {od5 an5 : Option Addr} {sl5 : Array (Option Value)} {oc5 kV5 dc5 pm5 cd5 ct5 : Value}
    {f6 : Addr} {od6 an6 : Option Addr} {sl6 : Array (Option Value)} {oc6 kV6 dc6 pm6 cd6 ct6 : Value}
    {f7 : Addr} {od7 an7 : Option Addr} {sl7 : Array (Option Value)} {oc7 kV7 dc7 pm7 cd7 ct7 : Value}
    {f8 : Addr} {od8 an8 : Option Addr} {sl8 : Array (Option Value)} {oc8 kV8 dc8 pm8 cd8 ct8 : Value}
    {f9 : Addr} {od9 an9 : Option Addr} {sl9 : Array (Option Value)} {oc9 kV9 dc9 pm9 cd9 ct9 : Value}
    {f10 : Addr} {od10 an10 : Option Addr} {sl10 : Array (Option Value)} {oc10 kV10 dc10 pm10 cd10 ct10 : Value}
    {f11 : Addr} {od11 an11 : Option Addr} {sl11 : Array (Option Value)} {oc11 kV11 dc11 pm11 cd11 ct11 : Value}
    {f12 : Addr} {od12 an12 : Option Addr} {sl12 : Array (Option Value)} {oc12 kV12 dc12 pm12 cd12 ct12 : Value}
    {f13 : Addr} {od13 an13 : Option Addr} {sl13 : Array (Option Value)} {oc13 kV13 dc13 pm13 cd13 ct13 : Value}
    {f14 : Addr} {od14 an14 : Option Addr} {sl14 : Array (Option Value)} {oc14 kV14 dc14 pm14 cd14 ct14 : Value}
    {f15 : Addr} {od15 an15 : Option Addr} {sl15 : Array (Option Value)} {oc15 kV15 dc15 pm15 cd15 ct15 : Value}
    {f16 : Addr} {od16 an16 : Option Addr} {sl16 : Array (Option Value)} {oc16 kV16 dc16 pm16 cd16 ct16 : Value}
    {f17 : Addr} {od17 an17 : Option Addr} {sl17 : Array (Option Value)} {oc17 kV17 dc17 pm17 cd17 ct17 : Value}
    {f18 : Addr} {od18 an18 : Option Addr} {sl18 : Array (Option Value)} {oc18 kV18 dc18 pm18 cd18 ct18 : Value}
    {f19 : Addr} {od19 an19 : Option Addr} {sl19 : Array (Option Value)} {oc19 kV19 dc19 pm19 cd19 ct19 : Value}
    {f20 : Addr} {od20 an20 : Option Addr} {sl20 : Array (Option Value)} {oc20 kV20 dc20 pm20 cd20 ct20 : Value}
    {f21 : Addr} {od21 an21 : Option Addr} {sl21 : Array (Option Value)} {oc21 kV21 dc21 pm21 cd21 ct21 : Value}
    {f22 : Addr} {od22 an22 : Option Addr} {sl22 : Array (Option Value)} {oc22 kV22 dc22 pm22 cd22 ct22 : Value}
    {f23 : Addr} {od23 an23 : Option Addr} {sl23 : Array (Option Value)} {oc23 kV23 dc23 pm23 cd23 ct23 : Value}
    {f24 : Addr} {od24 an24 : Option Addr} {sl24 : Array (Option Value)} {oc24 kV24 dc24 pm24 cd24 ct24 : Value}
    {f25 : Addr} {od25 an25 : Option Addr} {sl25 : Array (Option Value)} {oc25 kV25 dc25 pm25 cd25 ct25 : Value}
    {f26 : Addr} {od26 an26 : Option Addr} {sl26 : Array (Option Value)} {oc26 kV26 dc26 pm26 cd26 ct26 : Value}
    {f27 : Addr} {od27 an27 : Option Addr} {sl27 : Array (Option Value)} {oc27 kV27 dc27 pm27 cd27 ct27 : Value}
    {f28 : Addr} {od28 an28 : Option Addr} {sl28 : Array (Option Value)} {oc28 kV28 dc28 pm28 cd28 ct28 : Value}
    {f29 : Addr} {od29 an29 : Option Addr} {sl29 : Array (Option Value)} {oc29 kV29 dc29 pm29 cd29 ct29 : Value}
    {f30 : Addr} {od30 an30 : Option Addr} {sl30 : Array (Option Value)} {oc30 kV30 dc30 pm30 cd30 ct30 : Value}
    {f31 : Addr} {od31 an31 : Option Addr} {sl31 : Array (Option Value)} {oc31 kV31 dc31 pm31 ct31 : Value}
    {f32 : Addr} {od32 an32 : Option Addr} {sl32 : Array (Option Value)} {oc32 kV32 dc32 pm32 cd32 ct32 : Value}
    {fI : Addr} {odMI anMI : Option Addr} {slMI : Array (Option Value)} {ocMI kVMI dcMI pmMI cdMI ctMI : Value}
    {fE : Addr} {odME anME : Option Addr} {slME : Array (Option Value)} {ocME kVME dcME pmME cdME ctME : Value}
    {xBnm xBq : Str} {xBN : Addr} {xBbs xBbm xBsub : List Value} {xBsn : List Str} {xBab : Bool} {xBcol : Option Bool} {xBdd : Option Addr} {xBm0 xBm1 xBm2 xBm3 xBm5 : Option Value}
    {fB : Addr} {odMB anMB : Option Addr} {slMB : Array (Option Value)} {ocMB kVMB dcMB pmMB cdMB ctMB : Value}
    (cH0 : PySem.W.codeHdIn K cc0 Pt0 = true)
    (nP0 : K.lookup Pt0 = none)
    (aC : PySem.W.nsIn K mainGlobals "Debate" = some (some (.ref C)))
    (aI : PySem.W.findIn K (.ref C) "__init__" = some (some (.ref fI)))
    (lI : K.lookup fI = some ⟨ocMI, odMI, .func (PySem.W.fnOf "__init__" "Debate.__init__" (defArgs s_Debate_init) (defBody s_Debate_init) (defScope s_Debate_init) .none kVMI dcMI pmMI anMI cdMI ctMI), slMI⟩)
    (cI : PySem.W.codeIn K cdMI "Debate.__init__" = true)
    (kI : PySem.W.keepIn K (.ref fI) = true)
    (iI : PySem.W.isFn K (.ref fI) = true)
    (aE : PySem.W.findIn K (.ref C) "__eq__" = some (some (.ref fE)))
    (lE : K.lookup fE = some ⟨ocME, odME, .func (PySem.W.fnOf "__eq__" "Debate.__eq__" (defArgs s_Debate_eq) (defBody s_Debate_eq) (defScope s_Debate_eq) .none kVME dcME pmME anME cdME ctME), slME⟩)
    (cE : PySem.W.codeIn K cdME "Debate.__eq__" = true)
    (kE : PySem.W.keepIn K (.ref fE) = true)
    (iE : PySem.W.isFn K (.ref fE) = true)
    (pg : PySem.W.plainGet K C Str.empty = true)
    (hd : PySem.W.hasDictIn K C = true)
    (po : PySem.W.plainOver K C = true)
    (sa : PySem.W.findIn K (.ref C) "__setattr__" = some (some (.builtin "object.__setattr__")))
    (mk : PySem.W.makesIn K C = true)
    (kc : PySem.W.keepIn K (.ref C) = true)
    (nS : PySem.W.findIn K (.ref C) "own_statements" = some none)
    (nO : PySem.W.findIn K (.ref C) "own_objections" = some none)
    (nT : PySem.W.findIn K (.ref C) "own_objectors" = some none)
    (nF : PySem.W.findIn K (.ref C) "own_objected" = some none)
    (cA : PySem.W.findIn K (.ref C) "__class__" = some (some (.builtin "object.__class__")))
    (cN : PySem.W.specialIn K (.builtin "object.__class__") "__get__" = some (some (.builtin "getset_descriptor.__get__")))
    (cT : PySem.W.takesIn K (.builtin "object.__class__") = some true)
    (cM : PySem.W.mroIn K C (.type "object") = some true)
    (cS : PySem.W.kitOne K (.ref C) (.ref C) = some true)
    (kl : PySem.W.kitOne K (.ref C) (.type "list") = some false)
    (kt : PySem.W.kitOne K (.ref C) (.type "tuple") = some false)
    (ki : PySem.W.kitOne K (.ref C) (.type "int") = some false)
    (kd : PySem.W.kitOne K (.ref C) (.type "dict") = some false)
    (xBC : PySem.W.nsIn K mainGlobals "BadLot" = some (some (.ref CB)))
    (xBL : K.lookup CB = some (excClassObj xBnm xBq CB xBN xBbs xBbm true xBsn xBsub xBab xBcol xBdd xBm0 xBm1 xBm2 xBm3 xBm5 "ValueError.__new__"))
    (xBR : PySem.HandSPX.refsVE xBbm = true)
    (xBS : PySem.W.findIn K (.ref CB) "__setattr__" = some (some (.builtin "object.__setattr__")))
    (xBG : PySem.W.findIn K (.ref CB) "__getattribute__" = some (some (.builtin "BaseException.__getattribute__")))
    (xBH : PySem.W.findIn K (.ref CB) "__getattr__" = some none)
    (xBF : PySem.W.findIn K (.ref CB) "index" = some none)
    (xBE : PySem.W.subIn K (.ref CB) (.type "BaseException") = some true)
    (xBT : PySem.W.typeIn K (.ref CB) = some (.type "type"))
    (xBK : PySem.W.keepIn K (.ref CB) = true)
    (xBD : PySem.W.hasDictIn K CB = true)
    (xBO : PySem.W.exmOne K (.ref CB) (.ref CB) = some true)
    (aB : PySem.W.findIn K (.ref CB) "__init__" = some (some (.ref fB)))
    (lB : K.lookup fB = some ⟨ocMB, odMB, .func (PySem.W.fnOf "__init__" "BadLot.__init__" (defArgs s_BadLot_init) (defBody s_BadLot_init) (defScope s_BadLot_init) .none kVMB dcMB pmMB anMB cdMB ctMB), slMB⟩)
    (cB : PySem.W.codeIn K cdMB "BadLot.__init__" = true)
    (kB : PySem.W.keepIn K (.ref fB) = true)
    (tB : PySem.W.typeIn K (.ref fB) = some (.type "function"))
    (gS : PySem.W.nsIn K mainGlobals "SMALL" = some (some (.str "abcdefghijklmnopqrstuvwxyz" t1)))
    (gF : PySem.W.nsIn K mainGlobals "FIGURES" = some (some (.str "0123456789" t2)))
    (a0 : PySem.W.nsIn K mainGlobals "is_list" = some (some (.ref f0)))
    (l0 : K.lookup f0 = some ⟨oc0, od0, .func (PySem.W.fnOf "is_list" "is_list" (defArgs s_is_list) (defBody s_is_list) (defScope s_is_list) .none kV0 dc0 pm0 an0 cd0 ct0), sl0⟩)
    (c0 : PySem.W.codeIn K cd0 "is_list" = true)
    (k0 : PySem.W.keepIn K (.ref f0) = true)
    (a1 : PySem.W.nsIn K mainGlobals "is_name" = some (some (.ref f1)))
    (l1 : K.lookup f1 = some ⟨oc1, od1, .func (PySem.W.fnOf "is_name" "is_name" (defArgs s_is_name) (defBody s_is_name) (defScope s_is_name) .none kV1 dc1 pm1 an1 cd1 ct1), sl1⟩)
    (c1 : PySem.W.codeIn K cd1 "is_name" = true)
    (k1 : PySem.W.keepIn K (.ref f1) = true)
    (a2 : PySem.W.nsIn K mainGlobals "as_tuples" = some (some (.ref f2)))
    (l2 : K.lookup f2 = some ⟨oc2, od2, .func (PySem.W.fnOf "as_tuples" "as_tuples" (defArgs s_as_tuples) (defBody s_as_tuples) (defScope s_as_tuples) .none kV2 dc2 pm2 an2 cd2 ct2), sl2⟩)
    (c2 : PySem.W.codeIn K cd2 "as_tuples" = true)
    (k2 : PySem.W.keepIn K (.ref f2) = true)
    (a3 : PySem.W.nsIn K mainGlobals "checked_lot" = some (some (.ref f3)))
    (l3 : K.lookup f3 = some ⟨oc3, od3, .func (PySem.W.fnOf "checked_lot" "checked_lot" (defArgs s_checked_lot) (defBody s_checked_lot) (defScope s_checked_lot) .none kV3 dc3 pm3 an3 cd3 ct3), sl3⟩)
    (c3 : PySem.W.codeIn K cd3 "checked_lot" = true)
    (k3 : PySem.W.keepIn K (.ref f3) = true)
    (a4 : PySem.W.nsIn K mainGlobals "hit_by" = some (some (.ref f4)))
    (l4 : K.lookup f4 = some ⟨oc4, od4, .func (PySem.W.fnOf "hit_by" "hit_by" (defArgs s_hit_by) (defBody s_hit_by) (defScope s_hit_by) .none kV4 dc4 pm4 an4 cd4 ct4), sl4⟩)
    (c4 : PySem.W.codeIn K cd4 "hit_by" = true)
    (k4 : PySem.W.keepIn K (.ref f4) = true)
    (a5 : PySem.W.nsIn K mainGlobals "answered_in" = some (some (.ref f5)))
    (l5 : K.lookup f5 = some ⟨oc5, od5, .func (PySem.W.fnOf "answered_in" "answered_in" (defArgs s_answered_in) (defBody s_answered_in) (defScope s_answered_in) .none kV5 dc5 pm5 an5 cd5 ct5), sl5⟩)
    (c5 : PySem.W.codeIn K cd5 "answered_in" = true)
    (k5 : PySem.W.keepIn K (.ref f5) = true)
    (a6 : PySem.W.nsIn K mainGlobals "answered" = some (some (.ref f6)))
    (l6 : K.lookup f6 = some ⟨oc6, od6, .func (PySem.W.fnOf "answered" "answered" (defArgs s_answered) (defBody s_answered) (defScope s_answered) .none kV6 dc6 pm6 an6 cd6 ct6), sl6⟩)
    (c6 : PySem.W.codeIn K cd6 "answered" = true)
    (k6 : PySem.W.keepIn K (.ref f6) = true)
    (a7 : PySem.W.nsIn K mainGlobals "least_lot" = some (some (.ref f7)))
    (l7 : K.lookup f7 = some ⟨oc7, od7, .func (PySem.W.fnOf "least_lot" "least_lot" (defArgs s_least_lot) (defBody s_least_lot) (defScope s_least_lot) .none kV7 dc7 pm7 an7 cd7 ct7), sl7⟩)
    (c7 : PySem.W.codeIn K cd7 "least_lot" = true)
    (k7 : PySem.W.keepIn K (.ref f7) = true)
    (a8 : PySem.W.nsIn K mainGlobals "checked_statements" = some (some (.ref f8)))
    (l8 : K.lookup f8 = some ⟨oc8, od8, .func (PySem.W.fnOf "checked_statements" "checked_statements" (defArgs s_checked_statements) (defBody s_checked_statements) (defScope s_checked_statements) .none kV8 dc8 pm8 an8 cd8 ct8), sl8⟩)
    (c8 : PySem.W.codeIn K cd8 "checked_statements" = true)
    (k8 : PySem.W.keepIn K (.ref f8) = true)
    (a9 : PySem.W.nsIn K mainGlobals "is_pair_of" = some (some (.ref f9)))
    (l9 : K.lookup f9 = some ⟨oc9, od9, .func (PySem.W.fnOf "is_pair_of" "is_pair_of" (defArgs s_is_pair_of) (defBody s_is_pair_of) (defScope s_is_pair_of) .none kV9 dc9 pm9 an9 cd9 ct9), sl9⟩)
    (c9 : PySem.W.codeIn K cd9 "is_pair_of" = true)
    (k9 : PySem.W.keepIn K (.ref f9) = true)
    (a10 : PySem.W.nsIn K mainGlobals "checked_objections" = some (some (.ref f10)))
    (l10 : K.lookup f10 = some ⟨oc10, od10, .func (PySem.W.fnOf "checked_objections" "checked_objections" (defArgs s_checked_objections) (defBody s_checked_objections) (defScope s_checked_objections) .none kV10 dc10 pm10 an10 cd10 ct10), sl10⟩)
    (c10 : PySem.W.codeIn K cd10 "checked_objections" = true)
    (k10 : PySem.W.keepIn K (.ref f10) = true)
    (a11 : PySem.W.nsIn K mainGlobals "_law_start" = some (some (.ref f11)))
    (l11 : K.lookup f11 = some ⟨oc11, od11, .func (PySem.W.fnOf "_law_start" "_law_start" (defArgs s_start) (defBody s_start) (defScope s_start) .none kV11 dc11 pm11 an11 cd11 ct11), sl11⟩)
    (c11 : PySem.W.codeIn K cd11 "_law_start" = true)
    (k11 : PySem.W.keepIn K (.ref f11) = true)
    (a12 : PySem.W.nsIn K mainGlobals "_law_draw" = some (some (.ref f12)))
    (l12 : K.lookup f12 = some ⟨oc12, od12, .func (PySem.W.fnOf "_law_draw" "_law_draw" (defArgs s_draw) (defBody s_draw) (defScope s_draw) .none kV12 dc12 pm12 an12 cd12 ct12), sl12⟩)
    (c12 : PySem.W.codeIn K cd12 "_law_draw" = true)
    (k12 : PySem.W.keepIn K (.ref f12) = true)
    (a13 : PySem.W.nsIn K mainGlobals "_law_pick" = some (some (.ref f13)))
    (l13 : K.lookup f13 = some ⟨oc13, od13, .func (PySem.W.fnOf "_law_pick" "_law_pick" (defArgs s_pick) (defBody s_pick) (defScope s_pick) .none kV13 dc13 pm13 an13 cd13 ct13), sl13⟩)
    (c13 : PySem.W.codeIn K cd13 "_law_pick" = true)
    (k13 : PySem.W.keepIn K (.ref f13) = true)
    (a14 : PySem.W.nsIn K mainGlobals "_law_mixed" = some (some (.ref f14)))
    (l14 : K.lookup f14 = some ⟨oc14, od14, .func (PySem.W.fnOf "_law_mixed" "_law_mixed" (defArgs s_mixed) (defBody s_mixed) (defScope s_mixed) .none kV14 dc14 pm14 an14 cd14 ct14), sl14⟩)
    (c14 : PySem.W.codeIn K cd14 "_law_mixed" = true)
    (k14 : PySem.W.keepIn K (.ref f14) = true)
    (a15 : PySem.W.nsIn K mainGlobals "_law_same" = some (some (.ref f15)))
    (l15 : K.lookup f15 = some ⟨oc15, od15, .func (PySem.W.fnOf "_law_same" "_law_same" (defArgs s_same) (defBody s_same) (defScope s_same) .none kV15 dc15 pm15 an15 cd15 ct15), sl15⟩)
    (c15 : PySem.W.codeIn K cd15 "_law_same" = true)
    (k15 : PySem.W.keepIn K (.ref f15) = true)
    (a16 : PySem.W.nsIn K mainGlobals "_law_each_once" = some (some (.ref f16)))
    (l16 : K.lookup f16 = some ⟨oc16, od16, .func (PySem.W.fnOf "_law_each_once" "_law_each_once" (defArgs s_each_once) (defBody s_each_once) (defScope s_each_once) .none kV16 dc16 pm16 an16 cd16 ct16), sl16⟩)
    (c16 : PySem.W.codeIn K cd16 "_law_each_once" = true)
    (k16 : PySem.W.keepIn K (.ref f16) = true)
    (a17 : PySem.W.nsIn K mainGlobals "_law_d_names" = some (some (.ref f17)))
    (l17 : K.lookup f17 = some ⟨oc17, od17, .func (PySem.W.fnOf "_law_d_names" "_law_d_names" (defArgs s_d_names) (defBody s_d_names) (defScope s_d_names) .none kV17 dc17 pm17 an17 cd17 ct17), sl17⟩)
    (c17 : PySem.W.codeIn K cd17 "_law_d_names" = true)
    (k17 : PySem.W.keepIn K (.ref f17) = true)
    (a18 : PySem.W.nsIn K mainGlobals "_law_d_pairs" = some (some (.ref f18)))
    (l18 : K.lookup f18 = some ⟨oc18, od18, .func (PySem.W.fnOf "_law_d_pairs" "_law_d_pairs" (defArgs s_d_pairs) (defBody s_d_pairs) (defScope s_d_pairs) .none kV18 dc18 pm18 an18 cd18 ct18), sl18⟩)
    (c18 : PySem.W.codeIn K cd18 "_law_d_pairs" = true)
    (k18 : PySem.W.keepIn K (.ref f18) = true)
    (a19 : PySem.W.nsIn K mainGlobals "_law_d_debate" = some (some (.ref f19)))
    (l19 : K.lookup f19 = some ⟨oc19, od19, .func (PySem.W.fnOf "_law_d_debate" "_law_d_debate" (defArgs s_d_debate) (defBody s_d_debate) (defScope s_d_debate) .none kV19 dc19 pm19 an19 cd19 ct19), sl19⟩)
    (c19 : PySem.W.codeIn K cd19 "_law_d_debate" = true)
    (k19 : PySem.W.keepIn K (.ref f19) = true)
    (a20 : PySem.W.nsIn K mainGlobals "_law_d_objectors" = some (some (.ref f20)))
    (l20 : K.lookup f20 = some ⟨oc20, od20, .func (PySem.W.fnOf "_law_d_objectors" "_law_d_objectors" (defArgs s_d_objectors) (defBody s_d_objectors) (defScope s_d_objectors) .none kV20 dc20 pm20 an20 cd20 ct20), sl20⟩)
    (c20 : PySem.W.codeIn K cd20 "_law_d_objectors" = true)
    (k20 : PySem.W.keepIn K (.ref f20) = true)
    (a21 : PySem.W.nsIn K mainGlobals "_law_d_hits" = some (some (.ref f21)))
    (l21 : K.lookup f21 = some ⟨oc21, od21, .func (PySem.W.fnOf "_law_d_hits" "_law_d_hits" (defArgs s_d_hits) (defBody s_d_hits) (defScope s_d_hits) .none kV21 dc21 pm21 an21 cd21 ct21), sl21⟩)
    (c21 : PySem.W.codeIn K cd21 "_law_d_hits" = true)
    (k21 : PySem.W.keepIn K (.ref f21) = true)
    (a22 : PySem.W.nsIn K mainGlobals "_law_d_answers" = some (some (.ref f22)))
    (l22 : K.lookup f22 = some ⟨oc22, od22, .func (PySem.W.fnOf "_law_d_answers" "_law_d_answers" (defArgs s_d_answers) (defBody s_d_answers) (defScope s_d_answers) .none kV22 dc22 pm22 an22 cd22 ct22), sl22⟩)
    (c22 : PySem.W.codeIn K cd22 "_law_d_answers" = true)
    (k22 : PySem.W.keepIn K (.ref f22) = true)
    (a23 : PySem.W.nsIn K mainGlobals "_law_d_answered" = some (some (.ref f23)))
    (l23 : K.lookup f23 = some ⟨oc23, od23, .func (PySem.W.fnOf "_law_d_answered" "_law_d_answered" (defArgs s_d_answered) (defBody s_d_answered) (defScope s_d_answered) .none kV23 dc23 pm23 an23 cd23 ct23), sl23⟩)
    (c23 : PySem.W.codeIn K cd23 "_law_d_answered" = true)
    (k23 : PySem.W.keepIn K (.ref f23) = true)
    (a24 : PySem.W.nsIn K mainGlobals "_law_d_is_calm" = some (some (.ref f24)))
    (l24 : K.lookup f24 = some ⟨oc24, od24, .func (PySem.W.fnOf "_law_d_is_calm" "_law_d_is_calm" (defArgs s_d_is_calm) (defBody s_d_is_calm) (defScope s_d_is_calm) .none kV24 dc24 pm24 an24 cd24 ct24), sl24⟩)
    (c24 : PySem.W.codeIn K cd24 "_law_d_is_calm" = true)
    (k24 : PySem.W.keepIn K (.ref f24) = true)
    (a25 : PySem.W.nsIn K mainGlobals "_law_d_is_held" = some (some (.ref f25)))
    (l25 : K.lookup f25 = some ⟨oc25, od25, .func (PySem.W.fnOf "_law_d_is_held" "_law_d_is_held" (defArgs s_d_is_held) (defBody s_d_is_held) (defScope s_d_is_held) .none kV25 dc25 pm25 an25 cd25 ct25), sl25⟩)
    (c25 : PySem.W.codeIn K cd25 "_law_d_is_held" = true)
    (k25 : PySem.W.keepIn K (.ref f25) = true)
    (a26 : PySem.W.nsIn K mainGlobals "_law_d_subsets" = some (some (.ref f26)))
    (l26 : K.lookup f26 = some ⟨oc26, od26, .func (PySem.W.fnOf "_law_d_subsets" "_law_d_subsets" (defArgs s_d_subsets) (defBody s_d_subsets) (defScope s_d_subsets) .none kV26 dc26 pm26 an26 cd26 ct26), sl26⟩)
    (c26 : PySem.W.codeIn K cd26 "_law_d_subsets" = true)
    (k26 : PySem.W.keepIn K (.ref f26) = true)
    (a27 : PySem.W.nsIn K mainGlobals "_law_d_lots" = some (some (.ref f27)))
    (l27 : K.lookup f27 = some ⟨oc27, od27, .func (PySem.W.fnOf "_law_d_lots" "_law_d_lots" (defArgs s_d_lots) (defBody s_d_lots) (defScope s_d_lots) .none kV27 dc27 pm27 an27 cd27 ct27), sl27⟩)
    (c27 : PySem.W.codeIn K cd27 "_law_d_lots" = true)
    (k27 : PySem.W.keepIn K (.ref f27) = true)
    (a28 : PySem.W.nsIn K mainGlobals "_law_d_within" = some (some (.ref f28)))
    (l28 : K.lookup f28 = some ⟨oc28, od28, .func (PySem.W.fnOf "_law_d_within" "_law_d_within" (defArgs s_d_within) (defBody s_d_within) (defScope s_d_within) .none kV28 dc28 pm28 an28 cd28 ct28), sl28⟩)
    (c28 : PySem.W.codeIn K cd28 "_law_d_within" = true)
    (k28 : PySem.W.keepIn K (.ref f28) = true)
    (a29 : PySem.W.nsIn K mainGlobals "_law_met" = some (some (.ref f29)))
    (l29 : K.lookup f29 = some ⟨oc29, od29, .func (PySem.W.fnOf "_law_met" "_law_met" (defArgs s_met) (defBody s_met) (defScope s_met) .none kV29 dc29 pm29 an29 cd29 ct29), sl29⟩)
    (c29 : PySem.W.codeIn K cd29 "_law_met" = true)
    (k29 : PySem.W.keepIn K (.ref f29) = true)
    (a30 : PySem.W.nsIn K mainGlobals "_law_least" = some (some (.ref f30)))
    (l30 : K.lookup f30 = some ⟨oc30, od30, .func (PySem.W.fnOf "_law_least" "_law_least" (defArgs s_least) (defBody s_least) (defScope s_least) .none kV30 dc30 pm30 an30 cd30 ct30), sl30⟩)
    (c30 : PySem.W.codeIn K cd30 "_law_least" = true)
    (k30 : PySem.W.keepIn K (.ref f30) = true)
    (a31 : PySem.W.nsIn K mainGlobals "_law_answers_right" = some (some (.ref f31)))
    (l31 : K.lookup f31 = some ⟨oc31, od31, .func (PySem.W.fnOf "_law_answers_right" "_law_answers_right" (defArgs s_answers_right) (defBody s_answers_right) (defScope s_answers_right) .none kV31 dc31 pm31 an31 (.ref cc0) ct31), sl31⟩)
    (c31 : PySem.W.codeIn K (.ref cc0) "_law_answers_right" = true)
    (k31 : PySem.W.keepIn K (.ref f31) = true)
    (a32 : PySem.W.nsIn K mainGlobals "law" = some (some (.ref f32)))
    (l32 : K.lookup f32 = some ⟨oc32, od32, .func (PySem.W.fnOf "law" "law" (defArgs s_law) (defBody s_law) (defScope s_law) .none kV32 dc32 pm32 an32 cd32 ct32), sl32⟩)
    (c32 : PySem.W.codeIn K cd32 "law" = true)
    (k32 : PySem.W.keepIn K (.ref f32) = true)
    (zlen : PySem.W.nsIn K mainGlobals "len" = some none)
    (zall : PySem.W.nsIn K mainGlobals "all" = some none)
    (zany : PySem.W.nsIn K mainGlobals "any" = some none)
    (zsorted : PySem.W.nsIn K mainGlobals "sorted" = some none)
    (zisinstance : PySem.W.nsIn K mainGlobals "isinstance" = some none)
    (zlist : PySem.W.nsIn K mainGlobals "list" = some none)
    (ztuple : PySem.W.nsIn K mainGlobals "tuple" = some none)
    (zdict : PySem.W.nsIn K mainGlobals "dict" = some none)
    (zint : PySem.W.nsIn K mainGlobals "int" = some none)
    (zbool : PySem.W.nsIn K mainGlobals "bool" = some none)
    (zstr : PySem.W.nsIn K mainGlobals "str" = some none)
    (zzip : PySem.W.nsIn K mainGlobals "zip" = some none)
    (zrange : PySem.W.nsIn K mainGlobals "range" = some none)
    (zenumerate : PySem.W.nsIn K mainGlobals "enumerate" = some none) :
    LamX.LawAtS l w K CX0 13 63 "_law_script" mg fa h := by
  have T : Txt K mg 0 := ⟨PySem.W.mg_none_of X G zlen, PySem.W.mg_none_of X G zall, PySem.W.mg_none_of X G zany, PySem.W.mg_none_of X G zsorted, PySem.W.mg_none_of X G zisinstance, PySem.W.mg_none_of X G zlist, PySem.W.mg_none_of X G ztuple, PySem.W.mg_none_of X G zdict, PySem.W.mg_none_of X G zint, PySem.W.mg_none_of X G zbool, PySem.W.mg_none_of X G zstr, PySem.W.mg_none_of X G zzip, PySem.W.mg_none_of X G zrange, PySem.W.mg_none_of X G zenumerate, ⟨_, PySem.W.mg_of X G gS, ⟨_, rfl⟩⟩, ⟨_, PySem.W.mg_of X G gF, ⟨_, rfl⟩⟩⟩
  have FI := fun_mk (st := s_Debate_init) lI cI kI
  have FE := fun_mk (st := s_Debate_eq) lE cE kE
  have DC : DCls K C := ⟨⟨pg, hd, po, sa⟩, nS, nO, nT, nF⟩
  have IC : C8.InsC K C := ⟨⟨pg, hd, po, sa⟩, cA, cN, cT, cM, cS⟩
  have FB := fun_mk (st := s_BadLot_init) lB cB kB
  have OXB : OexC K CB := ⟨⟨xBnm, xBq, xBN, xBbs, xBbm, xBsn, xBsub, xBab, xBcol, xBdd, xBm0, xBm1, xBm2, xBm3, xBm5, xBL, xBR⟩, xBS, xBE, xBT, xBK⟩
  have F0 : Fn K mg "is_list" s_is_list ["thing"] := ⟨f0, _, fun_mk (st := s_is_list) l0 c0 k0, PySem.W.mg_of X G a0, (fun_mk (st := s_is_list) l0 c0 k0).binds (ps := ["thing"]) fun _ _ _ _ _ _ us hl => match us, hl with | [_], _ => rfl⟩
  have F1 : Fn K mg "is_name" s_is_name ["thing"] := ⟨f1, _, fun_mk (st := s_is_name) l1 c1 k1, PySem.W.mg_of X G a1, (fun_mk (st := s_is_name) l1 c1 k1).binds (ps := ["thing"]) fun _ _ _ _ _ _ us hl => match us, hl with | [_], _ => rfl⟩
  have F2 : Fn K mg "as_tuples" s_as_tuples ["thing"] := ⟨f2, _, fun_mk (st := s_as_tuples) l2 c2 k2, PySem.W.mg_of X G a2, (fun_mk (st := s_as_tuples) l2 c2 k2).binds (ps := ["thing"]) fun _ _ _ _ _ _ us hl => match us, hl with | [_], _ => rfl⟩
  have F3 : Fn K mg "checked_lot" s_checked_lot ["debate", "lot"] := ⟨f3, _, fun_mk (st := s_checked_lot) l3 c3 k3, PySem.W.mg_of X G a3, (fun_mk (st := s_checked_lot) l3 c3 k3).binds (ps := ["debate", "lot"]) fun _ _ _ _ _ _ us hl => match us, hl with | [_, _], _ => rfl⟩
  have F4 : Fn K mg "hit_by" s_hit_by ["debate", "members"] := ⟨f4, _, fun_mk (st := s_hit_by) l4 c4 k4, PySem.W.mg_of X G a4, (fun_mk (st := s_hit_by) l4 c4 k4).binds (ps := ["debate", "members"]) fun _ _ _ _ _ _ us hl => match us, hl with | [_, _], _ => rfl⟩
  have F5 : Fn K mg "answered_in" s_answered_in ["debate", "members"] := ⟨f5, _, fun_mk (st := s_answered_in) l5 c5 k5, PySem.W.mg_of X G a5, (fun_mk (st := s_answered_in) l5 c5 k5).binds (ps := ["debate", "members"]) fun _ _ _ _ _ _ us hl => match us, hl with | [_, _], _ => rfl⟩
  have F6 : Fn K mg "answered" s_answered ["debate", "lot"] := ⟨f6, _, fun_mk (st := s_answered) l6 c6 k6, PySem.W.mg_of X G a6, (fun_mk (st := s_answered) l6 c6 k6).binds (ps := ["debate", "lot"]) fun _ _ _ _ _ _ us hl => match us, hl with | [_, _], _ => rfl⟩
  have F7 : Fn K mg "least_lot" s_least_lot ["debate"] := ⟨f7, _, fun_mk (st := s_least_lot) l7 c7 k7, PySem.W.mg_of X G a7, (fun_mk (st := s_least_lot) l7 c7 k7).binds (ps := ["debate"]) fun _ _ _ _ _ _ us hl => match us, hl with | [_], _ => rfl⟩
  have F8 : Fn K mg "checked_statements" s_checked_statements ["statements"] := ⟨f8, _, fun_mk (st := s_checked_statements) l8 c8 k8, PySem.W.mg_of X G a8, (fun_mk (st := s_checked_statements) l8 c8 k8).binds (ps := ["statements"]) fun _ _ _ _ _ _ us hl => match us, hl with | [_], _ => rfl⟩
  have F9 : Fn K mg "is_pair_of" s_is_pair_of ["thing", "statements"] := ⟨f9, _, fun_mk (st := s_is_pair_of) l9 c9 k9, PySem.W.mg_of X G a9, (fun_mk (st := s_is_pair_of) l9 c9 k9).binds (ps := ["thing", "statements"]) fun _ _ _ _ _ _ us hl => match us, hl with | [_, _], _ => rfl⟩
  have F10 : Fn K mg "checked_objections" s_checked_objections ["objections", "statements"] := ⟨f10, _, fun_mk (st := s_checked_objections) l10 c10 k10, PySem.W.mg_of X G a10, (fun_mk (st := s_checked_objections) l10 c10 k10).binds (ps := ["objections", "statements"]) fun _ _ _ _ _ _ us hl => match us, hl with | [_, _], _ => rfl⟩
  have F11 : Fn K mg "_law_start" s_start ["_law_script"] := ⟨f11, _, fun_mk (st := s_start) l11 c11 k11, PySem.W.mg_of X G a11, (fun_mk (st := s_start) l11 c11 k11).binds (ps := ["_law_script"]) fun _ _ _ _ _ _ us hl => match us, hl with | [_], _ => rfl⟩
  have F12 : Fn K mg "_law_draw" s_draw ["_law_stream", "_law_many"] := ⟨f12, _, fun_mk (st := s_draw) l12 c12 k12, PySem.W.mg_of X G a12, (fun_mk (st := s_draw) l12 c12 k12).binds (ps := ["_law_stream", "_law_many"]) fun _ _ _ _ _ _ us hl => match us, hl with | [_, _], _ => rfl⟩
  have F13 : Fn K mg "_law_pick" s_pick ["_law_stream", "_law_some"] := ⟨f13, _, fun_mk (st := s_pick) l13 c13 k13, PySem.W.mg_of X G a13, (fun_mk (st := s_pick) l13 c13 k13).binds (ps := ["_law_stream", "_law_some"]) fun _ _ _ _ _ _ us hl => match us, hl with | [_, _], _ => rfl⟩
  have F14 : Fn K mg "_law_mixed" s_mixed ["_law_stream", "_law_some"] := ⟨f14, _, fun_mk (st := s_mixed) l14 c14 k14, PySem.W.mg_of X G a14, (fun_mk (st := s_mixed) l14 c14 k14).binds (ps := ["_law_stream", "_law_some"]) fun _ _ _ _ _ _ us hl => match us, hl with | [_, _], _ => rfl⟩
  have F15 : Fn K mg "_law_same" s_same ["_law_found", "_law_due"] := ⟨f15, _, fun_mk (st := s_same) l15 c15 k15, PySem.W.mg_of X G a15, (fun_mk (st := s_same) l15 c15 k15).binds (ps := ["_law_found", "_law_due"]) fun _ _ _ _ _ _ us hl => match us, hl with | [_, _], _ => rfl⟩
  have F16 : Fn K mg "_law_each_once" s_each_once ["_law_things"] := ⟨f16, _, fun_mk (st := s_each_once) l16 c16 k16, PySem.W.mg_of X G a16, (fun_mk (st := s_each_once) l16 c16 k16).binds (ps := ["_law_things"]) fun _ _ _ _ _ _ us hl => match us, hl with | [_], _ => rfl⟩
  have F17 : Fn K mg "_law_d_names" s_d_names ["_law_stream", "_law_many"] := ⟨f17, _, fun_mk (st := s_d_names) l17 c17 k17, PySem.W.mg_of X G a17, (fun_mk (st := s_d_names) l17 c17 k17).binds (ps := ["_law_stream", "_law_many"]) fun _ _ _ _ _ _ us hl => match us, hl with | [_, _], _ => rfl⟩
  have F18 : Fn K mg "_law_d_pairs" s_d_pairs ["_law_stream", "_law_names"] := ⟨f18, _, fun_mk (st := s_d_pairs) l18 c18 k18, PySem.W.mg_of X G a18, (fun_mk (st := s_d_pairs) l18 c18 k18).binds (ps := ["_law_stream", "_law_names"]) fun _ _ _ _ _ _ us hl => match us, hl with | [_, _], _ => rfl⟩
  have F19 : Fn K mg "_law_d_debate" s_d_debate ["_law_stream", "_law_most"] := ⟨f19, _, fun_mk (st := s_d_debate) l19 c19 k19, PySem.W.mg_of X G a19, (fun_mk (st := s_d_debate) l19 c19 k19).binds (ps := ["_law_stream", "_law_most"]) fun _ _ _ _ _ _ us hl => match us, hl with | [_, _], _ => rfl⟩
  have F20 : Fn K mg "_law_d_objectors" s_d_objectors ["_law_pairs", "_law_name"] := ⟨f20, _, fun_mk (st := s_d_objectors) l20 c20 k20, PySem.W.mg_of X G a20, (fun_mk (st := s_d_objectors) l20 c20 k20).binds (ps := ["_law_pairs", "_law_name"]) fun _ _ _ _ _ _ us hl => match us, hl with | [_, _], _ => rfl⟩
  have F21 : Fn K mg "_law_d_hits" s_d_hits ["_law_pairs", "_law_lot", "_law_name"] := ⟨f21, _, fun_mk (st := s_d_hits) l21 c21 k21, PySem.W.mg_of X G a21, (fun_mk (st := s_d_hits) l21 c21 k21).binds (ps := ["_law_pairs", "_law_lot", "_law_name"]) fun _ _ _ _ _ _ us hl => match us, hl with | [_, _, _], _ => rfl⟩
  have F22 : Fn K mg "_law_d_answers" s_d_answers ["_law_pairs", "_law_lot", "_law_name"] := ⟨f22, _, fun_mk (st := s_d_answers) l22 c22 k22, PySem.W.mg_of X G a22, (fun_mk (st := s_d_answers) l22 c22 k22).binds (ps := ["_law_pairs", "_law_lot", "_law_name"]) fun _ _ _ _ _ _ us hl => match us, hl with | [_, _, _], _ => rfl⟩
  have F23 : Fn K mg "_law_d_answered" s_d_answered ["_law_names", "_law_pairs", "_law_lot"] := ⟨f23, _, fun_mk (st := s_d_answered) l23 c23 k23, PySem.W.mg_of X G a23, (fun_mk (st := s_d_answered) l23 c23 k23).binds (ps := ["_law_names", "_law_pairs", "_law_lot"]) fun _ _ _ _ _ _ us hl => match us, hl with | [_, _, _], _ => rfl⟩
  have F24 : Fn K mg "_law_d_is_calm" s_d_is_calm ["_law_pairs", "_law_lot"] := ⟨f24, _, fun_mk (st := s_d_is_calm) l24 c24 k24, PySem.W.mg_of X G a24, (fun_mk (st := s_d_is_calm) l24 c24 k24).binds (ps := ["_law_pairs", "_law_lot"]) fun _ _ _ _ _ _ us hl => match us, hl with | [_, _], _ => rfl⟩
  have F25 : Fn K mg "_law_d_is_held" s_d_is_held ["_law_pairs", "_law_lot"] := ⟨f25, _, fun_mk (st := s_d_is_held) l25 c25 k25, PySem.W.mg_of X G a25, (fun_mk (st := s_d_is_held) l25 c25 k25).binds (ps := ["_law_pairs", "_law_lot"]) fun _ _ _ _ _ _ us hl => match us, hl with | [_, _], _ => rfl⟩
  have F26 : Fn K mg "_law_d_subsets" s_d_subsets ["_law_names"] := ⟨f26, _, fun_mk (st := s_d_subsets) l26 c26 k26, PySem.W.mg_of X G a26, (fun_mk (st := s_d_subsets) l26 c26 k26).binds (ps := ["_law_names"]) fun _ _ _ _ _ _ us hl => match us, hl with | [_], _ => rfl⟩
  have F27 : Fn K mg "_law_d_lots" s_d_lots ["_law_names", "_law_pairs", "_law_way"] := ⟨f27, _, fun_mk (st := s_d_lots) l27 c27 k27, PySem.W.mg_of X G a27, (fun_mk (st := s_d_lots) l27 c27 k27).binds (ps := ["_law_names", "_law_pairs", "_law_way"]) fun _ _ _ _ _ _ us hl => match us, hl with | [_, _, _], _ => rfl⟩
  have F28 : Fn K mg "_law_d_within" s_d_within ["_law_lot", "_law_other"] := ⟨f28, _, fun_mk (st := s_d_within) l28 c28 k28, PySem.W.mg_of X G a28, (fun_mk (st := s_d_within) l28 c28 k28).binds (ps := ["_law_lot", "_law_other"]) fun _ _ _ _ _ _ us hl => match us, hl with | [_, _], _ => rfl⟩
  have F29 : Fn K mg "_law_met" s_met ["_law_ask"] := ⟨f29, _, fun_mk (st := s_met) l29 c29 k29, PySem.W.mg_of X G a29, (fun_mk (st := s_met) l29 c29 k29).binds (ps := ["_law_ask"]) fun _ _ _ _ _ _ us hl => match us, hl with | [_], _ => rfl⟩
  have F30 : Fn K mg "_law_least" s_least ["_law_names", "_law_pairs"] := ⟨f30, _, fun_mk (st := s_least) l30 c30 k30, PySem.W.mg_of X G a30, (fun_mk (st := s_least) l30 c30 k30).binds (ps := ["_law_names", "_law_pairs"]) fun _ _ _ _ _ _ us hl => match us, hl with | [_, _], _ => rfl⟩
  have F32 : Fn K mg "law" s_law ["_law_script"] := ⟨f32, _, fun_mk (st := s_law) l32 c32 k32, PySem.W.mg_of X G a32, (fun_mk (st := s_law) l32 c32 k32).binds (ps := ["_law_script"]) fun _ _ _ _ _ _ us hl => match us, hl with | [_], _ => rfl⟩
  have F31 : FnL K mg "_law_answers_right" s_answers_right ["_law_stream", "_law_debate", "_law_names", "_law_pairs"] cc0 := ⟨f31, _, _, _, _, _, _, _, _, l31, c31, PySem.W.mg_of X G a31, k31, (fun_mk (st := s_answers_right) l31 c31 k31).binds (ps := ["_law_stream", "_law_debate", "_law_names", "_law_pairs"]) fun _ _ _ _ _ _ us hl => match us, hl with | [_, _, _, _], _ => rfl⟩
  have e := hfa.symm.trans (PySem.W.mg_of X G a32)
  cases e
  refine ⟨PySem.W.fnOf "law" "law" (defArgs s_law) (defBody s_law) (defScope s_law) .none kV32 dc32 pm32 an32 cd32 ct32, [(cc0, Pt0)], sp_law2 K ([(Pt0, "_law_answers_right" ++ ".<locals>." ++ "<lambda>")] : List (Addr × Str)), fun p hp => (by simp only [List.mem_cons, List.not_mem_nil, or_false] at hp; rcases hp with rfl <;> first | exact TT0), fun p hp => (by simp only [List.mem_cons, List.not_mem_nil, or_false] at hp; rcases hp with rfl <;> first | exact nP0), fun p hp => (by simp only [List.mem_cons, List.not_mem_nil, or_false] at hp; rcases hp with rfl <;> first | exact PySem.W.codeHd_of_K X cH0), fun s v => .of_eq rfl, fun H a ns hl _ ht hS => ⟨a, ns, rfl, hS, hl, fun p hp => (by simp only [List.mem_cons, List.not_mem_nil, or_false] at hp; rcases hp with rfl <;> first | exact LamX.TabS.nil (ht (cc0, Pt0) (by simp))), fun _ => rfl⟩, fun base hb hbg tb => ?_⟩
  have HMU0 : ∀ p ∈ ([(Pt0, "_law_answers_right" ++ ".<locals>." ++ "<lambda>")] : List (Addr × Str)), p.1 = Pt0 → p.2 = "_law_answers_right" ++ ".<locals>." ++ "<lambda>" := fun p hp hp2 => by
    simp only [List.mem_cons, List.not_mem_nil, or_false] at hp
    rcases hp with rfl
    · rfl
  have TB0 := tb (cc0, Pt0) (by simp)
  have c_is_list := ok_is_list (P := l.prog) (w := w) (base := base) F0 T
  have c_is_listF := ok_is_listF (P := l.prog) (w := w) (base := base) F0 T
  have c_is_listY := ok_is_listY (P := l.prog) (w := w) (base := base) F0 T
  have c_is_name := ok_is_name (P := l.prog) (w := w) (base := base) F1 T
  have c_asB := ok_asB (P := l.prog) (w := w) (base := base) F2
  have c_as0 := ok_as0 (P := l.prog) (w := w) (base := base) F2 T c_is_listF c_asB
  have c_as_tuples := ok_as1 (P := l.prog) (w := w) (base := base) F2 T c_is_list c_as0
  have c_checked_statements := ok_checked_statements (P := l.prog) (w := w) (base := base) F8 T c_is_list c_is_name
  have c_is_pair_of := ok_is_pair_of (P := l.prog) (w := w) (base := base) F9 T c_is_list
  have c_checked_objections := ok_checked_objections (P := l.prog) (w := w) (base := base) (Tb := [(Pt0, "_law_answers_right" ++ ".<locals>." ++ "<lambda>")]) F10 T c_is_list c_is_pair_of c_as_tuples
  have m_Debate := ok_initD (P := l.prog) (w := w) (base := base) (Tb := [(Pt0, "_law_answers_right" ++ ".<locals>." ++ "<lambda>")]) ⟨mk, aI, iI, kc⟩ FI (PySem.W.mg_of X G aC) (FI.binds (ps := ["self", "statements", "objections"]) fun _ _ _ _ _ _ us hl => match us, hl with | [_, _, _], _ => rfl) T DC c_checked_statements c_checked_objections
  have c_hit_by := ok_hit_by (P := l.prog) (w := w) (base := base) F4 T DC
  have c_answered_in := ok_answered_in (P := l.prog) (w := w) (base := base) F5 T DC c_hit_by
  have EXB : ExC l.prog w K mg base "BadLot" CB "index" := ⟨PySem.W.mg_of X G xBC, OXB, ⟨xBG, xBH, xBE, xBD⟩, xBF, xBO, fB, _, aB, tB, ok_BadLot_init FB OXB xBF, FB.binds (ps := ["self", "index"]) fun _ _ _ _ _ _ us hl => match us, hl with | [_, _], _ => rfl⟩
  have c_checked_lot := ok_checked_lot (P := l.prog) (w := w) (base := base) (Tb := [(Pt0, "_law_answers_right" ++ ".<locals>." ++ "<lambda>")]) F3 T DC c_is_list
  have x_checked_lot := ox_checked_lot (P := l.prog) (w := w) (base := base) (Tb := [(Pt0, "_law_answers_right" ++ ".<locals>." ++ "<lambda>")]) F3 T DC EXB c_is_list c_is_listY
  have c_answered := ok_answered (P := l.prog) (w := w) (base := base) (Tb := [(Pt0, "_law_answers_right" ++ ".<locals>." ++ "<lambda>")]) F6 T DC c_answered_in c_checked_lot
  have x_answered := ox_answered (P := l.prog) (w := w) (base := base) (Tb := [(Pt0, "_law_answers_right" ++ ".<locals>." ++ "<lambda>")]) F6 T DC c_answered_in x_checked_lot
  have c_least_lot := ok_least_lot (P := l.prog) (w := w) (base := base) (Tb := [(Pt0, "_law_answers_right" ++ ".<locals>." ++ "<lambda>")]) F7 T c_answered_in
  have c_d_within := ok_d_within (P := l.prog) (w := w) (base := base) F28 T
  have c_d_subsets := ok_d_subsets (P := l.prog) (w := w) (base := base) F26 T
  have c_each_once := ok_each_onceP (P := l.prog) (w := w) (base := base) F16 T
  have c_draw := ok_draw (P := l.prog) (w := w) (base := base) F12 T
  have c_pick := ok_pick (P := l.prog) (w := w) (base := base) F13 T c_draw
  have c_mixed := ok_mixed (P := l.prog) (w := w) (base := base) F14 T c_draw
  have c_d_names := ok_d_names (P := l.prog) (w := w) (base := base) F17 T c_mixed
  have c_start := ok_start (P := l.prog) (w := w) (base := base) F11 T
  have c_d_pairs := ok_d_pairs (P := l.prog) (w := w) (base := base) (Tb := [(Pt0, "_law_answers_right" ++ ".<locals>." ++ "<lambda>")]) F18 T c_draw c_pick c_mixed c_each_once
  have c_d_debate := ok_d_debate (P := l.prog) (w := w) (base := base) (Tb := [(Pt0, "_law_answers_right" ++ ".<locals>." ++ "<lambda>")]) F19 T c_draw c_d_names c_d_pairs
  have c_d_objectors := ok_d_objectors (P := l.prog) (w := w) (base := base) F20 T
  have c_d_hits := ok_d_hits (P := l.prog) (w := w) (base := base) F21 T c_d_objectors
  have c_d_answers := ok_d_answers (P := l.prog) (w := w) (base := base) F22 T c_d_objectors c_d_hits
  have c_d_answered := ok_d_answered (P := l.prog) (w := w) (base := base) F23 T c_d_answers
  have c_d_is_calm := ok_d_is_calm (P := l.prog) (w := w) (base := base) F24 T
  have c_d_is_held := ok_d_is_held (P := l.prog) (w := w) (base := base) F25 T c_d_is_calm c_d_answers
  have c_d_lots := ok_d_lotsL (P := l.prog) (w := w) (base := base) (Tb := [(Pt0, "_law_answers_right" ++ ".<locals>." ++ "<lambda>")]) F27 T c_d_subsets c_d_is_calm c_d_hits c_d_is_held c_d_within c_d_answered
  have c_least := ok_law_least (P := l.prog) (w := w) (base := base) (Tb := [(Pt0, "_law_answers_right" ++ ".<locals>." ++ "<lambda>")]) F30 T c_d_answered
  have OE : OwnEqR l.prog w K mg base 5 C (DEq K C) := ⟨fE, _, aE, iE, ok_Debate_eqD FE T DC ⟨_, PySem.W.mg_of X G aC, rfl⟩ IC cS, FE.binds (ps := ["self", "other"]) fun _ _ _ _ _ _ us hl => match us, hl with | [_, _], _ => rfl⟩
  have c_same := ok_sameX (P := l.prog) (w := w) (base := base) F15 T (ownQ_of OE) (atD_ok IC ki kl kt kd) 5
  have c_answers_right := ok_answers_right (P := l.prog) (w := w) (base := base) (Tb := [(Pt0, "_law_answers_right" ++ ".<locals>." ++ "<lambda>")]) F31 T c_draw c_pick c_mixed c_answered c_d_answered c_same F29 EXB x_answered TB0 (by simp) HMU0
  obtain ⟨f, fd, h1, h2, h3, h4⟩ := ok_law (P := l.prog) (w := w) (base := base) (Tb := [(Pt0, "_law_answers_right" ++ ".<locals>." ++ "<lambda>")]) F32 T c_start c_d_debate m_Debate c_least_lot c_same c_least c_answers_right c_d_lots
  have e := (PySem.W.mg_of X G a32).symm.trans h2
  cases e
  obtain ⟨oc, od, kV, doc, pm, an, cdv, ct, osl, rfl, lk, _⟩ := h1.ex
  have e2 := Option.some.inj (lk.symm.trans l32)
  cases e2
  exact h4
end Gd

-- part R2
set_option Elab.async false
set_option pp.maxSteps 80
set_option pp.deepTerms false
open PySem PySem.W PyProof.Rows
set_option maxRecDepth 100000 in
set_option maxHeartbeats 0 in
theorem PySem.Challenge.cw_objections_k02_whole_answers_and_least_holds : PySem.Challenge.rw_objections_k02_whole_answers_and_least.Holds := by
  w_on; o_law; k_head; (case hw => w_witness2)
  k_fill
  refine LamX.walk_ofTs (l := PySem.Challenge.rw_objections_k02_whole_answers_and_least) (n := 63) (k := 13) (x := "_law_script") (CX := fun _ => L2.CX0) rfl (by decide) rfl ⟨rfl, by decide, by decide⟩ (fun w h Y => PySem.W.km_in_of Y) ?F (fun _ _ _ _ _ h => h)
  case F =>
    intro w mg fa h Y KX G hmg
    refine' Gd.all_mk KX G hmg (PySem.W.km_tabs_of Y _ (.head _)) ?cH0 ?nP0 ?aC ?aI ?lI ?cI ?kI ?iI ?aE ?lE ?cE ?kE ?iE ?pg ?hd ?po ?sa ?mk ?kc ?nS ?nO ?nT ?nF ?cA ?cN ?cT ?cM ?cS ?kl ?kt ?ki ?kd ?xBC ?xBL ?xBR ?xBS ?xBG ?xBH ?xBF ?xBE ?xBT ?xBK ?xBD ?xBO ?aB ?lB ?cB ?kB ?tB ?gS ?gF ?a0 ?l0 ?c0 ?k0 ?a1 ?l1 ?c1 ?k1 ?a2 ?l2 ?c2 ?k2 ?a3 ?l3 ?c3 ?k3 ?a4 ?l4 ?c4 ?k4 ?a5 ?l5 ?c5 ?k5 ?a6 ?l6 ?c6 ?k6 ?a7 ?l7 ?c7 ?k7 ?a8 ?l8 ?c8 ?k8 ?a9 ?l9 ?c9 ?k9 ?a10 ?l10 ?c10 ?k10 ?a11 ?l11 ?c11 ?k11 ?a12 ?l12 ?c12 ?k12 ?a13 ?l13 ?c13 ?k13 ?a14 ?l14 ?c14 ?k14 ?a15 ?l15 ?c15 ?k15 ?a16 ?l16 ?c16 ?k16 ?a17 ?l17 ?c17 ?k17 ?a18 ?l18 ?c18 ?k18 ?a19 ?l19 ?c19 ?k19 ?a20 ?l20 ?c20 ?k20 ?a21 ?l21 ?c21 ?k21 ?a22 ?l22 ?c22 ?k22 ?a23 ?l23 ?c23 ?k23 ?a24 ?l24 ?c24 ?k24 ?a25 ?l25 ?c25 ?k25 ?a26 ?l26 ?c26 ?k26 ?a27 ?l27 ?c27 ?k27 ?a28 ?l28 ?c28 ?k28 ?a29 ?l29 ?c29 ?k29 ?a30 ?l30 ?c30 ?k30 ?a31 ?l31 ?c31 ?k31 ?a32 ?l32 ?c32 ?k32 ?zlen ?zall ?zany ?zsorted ?zisinstance ?zlist ?ztuple ?zdict ?zint ?zbool ?zstr ?zzip ?zrange ?zenumerate
    (case cH0 => first | k_is | kernel_rfl)
    (case nP0 => first | k_is | kernel_rfl)
    (case aC => first | k_is | rfl)
    (case aI => first | k_is | rfl)
    (case lI => first | k_is | rfl)
    (case cI => first | k_is | rfl)
    (case kI => first | k_is | rfl)
    (case iI => first | k_is | rfl)
    (case aE => first | k_is | rfl)
    (case lE => first | k_is | rfl)
    (case cE => first | k_is | rfl)
    (case kE => first | k_is | rfl)
    (case iE => first | k_is | rfl)
    (case pg => first | k_is | rfl)
    (case hd => first | k_is | rfl)
    (case po => first | k_is | rfl)
    (case sa => first | k_is | rfl)
    (case mk => first | k_is | rfl)
    (case kc => first | k_is | rfl)
    (case nS => first | k_is | rfl)
    (case nO => first | k_is | rfl)
    (case nT => first | k_is | rfl)
    (case nF => first | k_is | rfl)
    (case cA => first | k_is | rfl)
    (case cN => first | k_is | rfl)
    (case cT => first | k_is | rfl)
    (case cM => first | k_is | rfl)
    (case cS => first | k_is | kernel_rfl)
    (case kl => first | k_is | kernel_rfl)
    (case kt => first | k_is | kernel_rfl)
    (case ki => first | k_is | kernel_rfl)
    (case kd => first | k_is | kernel_rfl)
    (case xBC => first | k_is | rfl)
    (case xBL => first | k_is | rfl)
    (case xBR => first | k_is | kernel_rfl)
    (case xBS => first | k_is | rfl)
    (case xBG => first | k_is | rfl)
    (case xBH => first | k_is | rfl)
    (case xBF => first | k_is | rfl)
    (case xBE => first | k_is | rfl)
    (case xBT => first | k_is | rfl)
    (case xBK => first | k_is | rfl)
    (case xBD => first | k_is | rfl)
    (case xBO => first | k_is | kernel_rfl)
    (case aB => first | k_is | rfl)
    (case lB => first | k_is | rfl)
    (case cB => first | k_is | rfl)
    (case kB => first | k_is | rfl)
    (case tB => first | k_is | rfl)
    (case gS => first | k_is | rfl)
    (case gF => first | k_is | rfl)
    (case a0 => first | k_is | rfl)
    (case l0 => first | k_is | rfl)
    (case c0 => first | k_is | rfl)
    (case k0 => first | k_is | rfl)
    (case a1 => first | k_is | rfl)
    (case l1 => first | k_is | rfl)
    (case c1 => first | k_is | rfl)
    (case k1 => first | k_is | rfl)
    (case a2 => first | k_is | rfl)
    (case l2 => first | k_is | rfl)
    (case c2 => first | k_is | rfl)
    (case k2 => first | k_is | rfl)
    (case a3 => first | k_is | rfl)
    (case l3 => first | k_is | rfl)
    (case c3 => first | k_is | rfl)
    (case k3 => first | k_is | rfl)
    (case a4 => first | k_is | rfl)
    (case l4 => first | k_is | rfl)
    (case c4 => first | k_is | rfl)
    (case k4 => first | k_is | rfl)
    (case a5 => first | k_is | rfl)
    (case l5 => first | k_is | rfl)
    (case c5 => first | k_is | rfl)
    (case k5 => first | k_is | rfl)
    (case a6 => first | k_is | rfl)
    (case l6 => first | k_is | rfl)
    (case c6 => first | k_is | rfl)
    (case k6 => first | k_is | rfl)
    (case a7 => first | k_is | rfl)
    (case l7 => first | k_is | rfl)
    (case c7 => first | k_is | rfl)
    (case k7 => first | k_is | rfl)
    (case a8 => first | k_is | rfl)
    (case l8 => first | k_is | rfl)
    (case c8 => first | k_is | rfl)
    (case k8 => first | k_is | rfl)
    (case a9 => first | k_is | rfl)
    (case l9 => first | k_is | rfl)
    (case c9 => first | k_is | rfl)
    (case k9 => first | k_is | rfl)
    (case a10 => first | k_is | rfl)
    (case l10 => first | k_is | rfl)
    (case c10 => first | k_is | rfl)
    (case k10 => first | k_is | rfl)
    (case a11 => first | k_is | rfl)
    (case l11 => first | k_is | rfl)
    (case c11 => first | k_is | rfl)
    (case k11 => first | k_is | rfl)
    (case a12 => first | k_is | rfl)
    (case l12 => first | k_is | rfl)
    (case c12 => first | k_is | rfl)
    (case k12 => first | k_is | rfl)
    (case a13 => first | k_is | rfl)
    (case l13 => first | k_is | rfl)
    (case c13 => first | k_is | rfl)
    (case k13 => first | k_is | rfl)
    (case a14 => first | k_is | rfl)
    (case l14 => first | k_is | rfl)
    (case c14 => first | k_is | rfl)
    (case k14 => first | k_is | rfl)
    (case a15 => first | k_is | rfl)
    (case l15 => first | k_is | rfl)
    (case c15 => first | k_is | rfl)
    (case k15 => first | k_is | rfl)
    (case a16 => first | k_is | rfl)
    (case l16 => first | k_is | rfl)
    (case c16 => first | k_is | rfl)
    (case k16 => first | k_is | rfl)
    (case a17 => first | k_is | rfl)
    (case l17 => first | k_is | rfl)
    (case c17 => first | k_is | rfl)
    (case k17 => first | k_is | rfl)
    (case a18 => first | k_is | rfl)
    (case l18 => first | k_is | rfl)
    (case c18 => first | k_is | rfl)
    (case k18 => first | k_is | rfl)
    (case a19 => first | k_is | rfl)
    (case l19 => first | k_is | rfl)
    (case c19 => first | k_is | rfl)
    (case k19 => first | k_is | rfl)
    (case a20 => first | k_is | rfl)
    (case l20 => first | k_is | rfl)
    (case c20 => first | k_is | rfl)
    (case k20 => first | k_is | rfl)
    (case a21 => first | k_is | rfl)
    (case l21 => first | k_is | rfl)
    (case c21 => first | k_is | rfl)
    (case k21 => first | k_is | rfl)
    (case a22 => first | k_is | rfl)
    (case l22 => first | k_is | rfl)
    (case c22 => first | k_is | rfl)
    (case k22 => first | k_is | rfl)
    (case a23 => first | k_is | rfl)
    (case l23 => first | k_is | rfl)
    (case c23 => first | k_is | rfl)
    (case k23 => first | k_is | rfl)
    (case a24 => first | k_is | rfl)
    (case l24 => first | k_is | rfl)
    (case c24 => first | k_is | rfl)
    (case k24 => first | k_is | rfl)
    (case a25 => first | k_is | rfl)
    (case l25 => first | k_is | rfl)
    (case c25 => first | k_is | rfl)
    (case k25 => first | k_is | rfl)
    (case a26 => first | k_is | rfl)
    (case l26 => first | k_is | rfl)
    (case c26 => first | k_is | rfl)
    (case k26 => first | k_is | rfl)
    (case a27 => first | k_is | rfl)
    (case l27 => first | k_is | rfl)
    (case c27 => first | k_is | rfl)
    (case k27 => first | k_is | rfl)
    (case a28 => first | k_is | rfl)
    (case l28 => first | k_is | rfl)
    (case c28 => first | k_is | rfl)
    (case k28 => first | k_is | rfl)
    (case a29 => first | k_is | rfl)
    (case l29 => first | k_is | rfl)
    (case c29 => first | k_is | rfl)
    (case k29 => first | k_is | rfl)
    (case a30 => first | k_is | rfl)
    (case l30 => first | k_is | rfl)
    (case c30 => first | k_is | rfl)
    (case k30 => first | k_is | rfl)
    (case a31 => first | k_is | rfl)
    (case l31 => first | k_is | rfl)
    (case c31 => first | k_is | rfl)
    (case k31 => first | k_is | rfl)
    (case a32 => first | k_is | rfl)
    (case l32 => first | k_is | rfl)
    (case c32 => first | k_is | rfl)
    (case k32 => first | k_is | rfl)
    (case zlen => first | k_is | rfl)
    (case zall => first | k_is | rfl)
    (case zany => first | k_is | rfl)
    (case zsorted => first | k_is | rfl)
    (case zisinstance => first | k_is | rfl)
    (case zlist => first | k_is | rfl)
    (case ztuple => first | k_is | rfl)
    (case zdict => first | k_is | rfl)
    (case zint => first | k_is | rfl)
    (case zbool => first | k_is | rfl)
    (case zstr => first | k_is | rfl)
    (case zzip => first | k_is | rfl)
    (case zrange => first | k_is | rfl)
    (case zenumerate => first | k_is | rfl)
